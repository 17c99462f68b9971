import PyProof.Rows.All
import Wide.All
import OpenK.AllK
import Wide.FinOn
import HandS.ForMost
import HandS.ForExc
import HandS.Wide
import HandS.IsInst
import HandS.Evl
import HandS.Defaults
import HandS.TupAny
import HandS.Zip
import HandS.Style
import HandS.ExcInit
import HandS.ExcField
import KE.KExcInit
import HandS.CallSlots
import HandS.ExcIs
import KE.KExcLine
import KE.KUnpackStar
import HandS.SortKw
import KE.KDictKeyed
import KE.KDictWalk
import HandS.DictComp
import KE.SortData
import KE.KDictSum
import HandS.Conv
import PyProof.Transfer
import HandS.Deep
import KE.GoesEnum
import KE.KExcIs
import KE.KIsAll
import PySem.Challenge.RW_umbrage_k20_bounds_of_lots
set_option Elab.async false
set_option linter.all false
set_option maxRecDepth 100000
set_option maxHeartbeats 4000000
section
/-! The data layer: slots hold data, lists of one's own, or the bag of draws; readings evaluate to data. -/
namespace U
open PySem L2 Evl
abbrev Fg := PySem.W.Frag
abbrev Hp := L2.Hp
abbrev St := L2.St
open Classical in
noncomputable def less (H : Hp) (Z : Addr → Prop) : Hp := fun a => if Z a then none else H a
theorem less_no {H : Hp} {Z : Addr → Prop} {a : Addr} (h : ¬ Z a) : less H Z a = H a := if_neg h
theorem less_yes {H : Hp} {Z : Addr → Prop} {a : Addr} (h : Z a) : less H Z a = none := if_pos h
theorem less_some {H : Hp} {Z : Addr → Prop} {a : Addr} {o : HO} (h : less H Z a = some o) : ¬ Z a ∧ H a = some o := by
  by_cases z : Z a
  · rw [less_yes z] at h; cases h
  · rw [less_no z] at h; exact ⟨z, h⟩
theorem less_of {H : Hp} {Z : Addr → Prop} {a : Addr} {o : HO} (z : ¬ Z a) (h : H a = some o) : less H Z a = some o := (less_no z).trans h
theorem less_ex {H : Hp} {Z : Addr → Prop} : Ex (less H Z) H := fun _ _ h => (less_some h).2
theorem less_mono {H H' : Hp} {Z : Addr → Prop} (e : Ex H H') : Ex (less H Z) (less H' Z) := fun a o h => less_of (less_some h).1 (e a o (less_some h).2)
theorem less_sub {H : Hp} {Z Z' : Addr → Prop} (e : ∀ a, Z' a → Z a) : Ex (less H Z) (less H Z') := fun a o h => less_of (fun z => (less_some h).1 (e a z)) (less_some h).2
theorem less_but {H H' : Hp} {Z : Addr → Prop} (e : ∀ a o, H a = some o → ¬ Z a → H' a = some o) : Ex (less H Z) (less H' Z) := fun a o h => less_of (less_some h).1 (e a o (less_some h).2 (less_some h).1)

mutual
theorem dp_mono {K : Fg} {H H' : Hp} (e : Ex H H') : ∀ {d : PyData} {v : V}, Dp K H v d → Dp K H' v d
  | _, _, .non => .non
  | _, _, .bl b => .bl b
  | _, _, .int i => .int i
  | _, _, .str x => .str x
  | _, _, .lst h t => .lst (ex_l e h) (dpa_mono e t)
  | _, _, .tup h t => .tup (ex_t e h) (dpa_mono e t)
theorem dpa_mono {K : Fg} {H H' : Hp} (e : Ex H H') : ∀ {ds : List PyData} {vs : List V}, DpAll K H vs ds → DpAll K H' vs ds
  | _, _, .nil => .nil
  | _, _, .cons h t => .cons (dp_mono e h) (dpa_mono e t)
end
theorem dpa_len {K : Fg} {H : Hp} : ∀ {ds : List PyData} {vs : List V}, DpAll K H vs ds → vs.length = ds.length
  | _, _, .nil => rfl
  | _, _, .cons _ t => congrArg (· + 1) (dpa_len t)
theorem dpa_get {K : Fg} {H : Hp} : ∀ {ds : List PyData} {vs : List V} {i : Nat} {d : PyData}, DpAll K H vs ds → ds[i]? = some d → ∃ v, vs[i]? = some v ∧ Dp K H v d
  | _, _, _, _, .nil, e => by simp at e
  | _, _, 0, _, .cons h _, e => by
    have e := Option.some.inj e
    subst e
    exact ⟨_, rfl, h⟩
  | _, _, i + 1, _, .cons _ t, e => dpa_get (i := i) t e
theorem dpa_at {K : Fg} {H : Hp} : ∀ {ds : List PyData} {vs : List V} {i : Nat} {v : V}, DpAll K H vs ds → vs[i]? = some v → ∃ d, ds[i]? = some d ∧ Dp K H v d
  | _, _, _, _, .nil, e => by simp at e
  | _, _, 0, _, .cons h _, e => by
    have e := Option.some.inj e
    subst e
    exact ⟨_, rfl, h⟩
  | _, _, i + 1, _, .cons _ t, e => dpa_at (i := i) t e
theorem dpa_app {K : Fg} {H : Hp} : ∀ {ds es : List PyData} {vs us : List V}, DpAll K H vs ds → DpAll K H us es → DpAll K H (vs ++ us) (ds ++ es)
  | _, _, _, _, .nil, h => h
  | _, _, _, _, .cons h t, u => .cons h (dpa_app t u)

/-- the bag of draws: its cells, how often it was drawn, its number -/
structure Bag where
  cs : List Int
  i : Int
  j : Int
def Bag.ok (s : Bag) : Prop := s.cs.length ≤ 63 ∧ 0 ≤ s.j ∧ s.j < 2147483647
def BagAt (H : Hp) (B : Option (Addr × Addr)) (s : Bag) : Prop := match B with
  | some (b, c) => H b = some (.lst [.ref c, .int s.i, .int s.j]) ∧ H c = some (.lst (s.cs.map V.int)) ∧ s.ok
  | none => True
def InB (B : Option (Addr × Addr)) (a : Addr) : Prop := ∃ b c, B = some (b, c) ∧ (a = b ∨ a = c)
inductive En where
  | un
  | d (x : PyData)
  | own (xs : List PyData)
  | bag
abbrev Gam := List En
def Zs (W : Addr → Prop) (B : Option (Addr × Addr)) (ad : Nat → Addr) (G : Gam) : Addr → Prop := fun a => W a ∨ (∃ i xs, G[i]? = some (.own xs) ∧ a = ad i) ∨ InB B a
def Slot (K : Fg) (B : Option (Addr × Addr)) (ad : Nat → Addr) (H : Hp) (Z : Addr → Prop) (i : Nat) (o : Option V) : En → Prop
  | .un => True
  | .d x => ∃ v, o = some v ∧ Dp K (less H Z) v x
  | .own xs => o = some (.ref (ad i)) ∧ ∃ vs, H (ad i) = some (.lst vs) ∧ DpAll K (less H Z) vs xs
  | .bag => ∃ b c, B = some (b, c) ∧ o = some (.ref b)
/-- the state of a def's frame: slots, heap, bag, against the heap H0 at its entry -/
structure Sta (K : Fg) (W : Addr → Prop) (B : Option (Addr × Addr)) (ad : Nat → Addr) (H0 H : Hp) (σ : St) (G : Gam) (s : Bag) : Prop where
  len : σ.length = G.length
  at_ : ∀ i e, G[i]? = some e → ∃ o, σ[i]? = some o ∧ Slot K B ad H (Zs W B ad G) i o e
  inj : ∀ i j xs ys, G[i]? = some (.own xs) → G[j]? = some (.own ys) → ad i = ad j → i = j
  sep : ∀ i xs, G[i]? = some (.own xs) → H0 (ad i) = none ∧ ¬ InB B (ad i) ∧ ¬ W (ad i)
  base : ∀ a o, H0 a = some o → ¬ InB B a → H a = some o
  bag : BagAt H B s
  wd : ∀ a, W a → ∃ o, H a = some o
def swp (ad : Nat → Addr) (i : Nat) (p : Addr) : Nat → Addr := fun j => if j = i then p else ad j
theorem swp_same {ad : Nat → Addr} {i : Nat} {p : Addr} : swp ad i p i = p := if_pos rfl
theorem swp_ne {ad : Nat → Addr} {i j : Nat} {p : Addr} (h : i ≠ j) : swp ad i p j = ad j := if_neg fun z => h z.symm
section
variable {K : Fg} {W : Addr → Prop} {B : Option (Addr × Addr)} {ad : Nat → Addr} {H0 H H2 : Hp} {σ : St} {G G' : Gam} {s s' : Bag}
theorem Slot.mono {Z Z' : Addr → Prop} {i : Nat} {o : Option V} {e : En} (h : Slot K B ad H Z i o e) (x : Ex (less H Z) (less H2 Z')) (y : ∀ xs vs, e = .own xs → H (ad i) = some (.lst vs) → H2 (ad i) = some (.lst vs)) : Slot K B ad H2 Z' i o e := by
  cases e with
  | un => trivial
  | d d => obtain ⟨v, e, h⟩ := h; exact ⟨v, e, dp_mono x h⟩
  | own xs => obtain ⟨e, vs, h1, h2⟩ := h; exact ⟨e, vs, y xs vs rfl h1, dpa_mono x h2⟩
  | bag => exact h
theorem upd_there {H : Hp} {p a : Addr} {o u : HO} (h : H a = some o) : ∃ o', upd H p u a = some o' := by
  by_cases z : a = p
  · exact ⟨u, by rw [z]; exact upd_same⟩
  · exact ⟨o, by rw [upd_ne z]; exact h⟩
/-- everything stays -/
theorem Sta.ext (S : Sta K W B ad H0 H σ G s) (e : Ex H H2) : Sta K W B ad H0 H2 σ G s where
  len := S.len
  at_ := fun i en h => by
    obtain ⟨o, h1, h2⟩ := S.at_ i en h
    exact ⟨o, h1, h2.mono (less_mono e) fun _ _ _ q => e _ _ q⟩
  inj := S.inj
  sep := S.sep
  base := fun a o h n => e _ _ (S.base a o h n)
  bag := by
    have h := S.bag
    unfold BagAt at h ⊢
    split
    · exact ⟨e _ _ h.1, e _ _ h.2.1, h.2.2⟩
    · trivial
  wd := fun a z => by
    obtain ⟨o, h⟩ := S.wd a z
    exact ⟨o, e _ _ h⟩
theorem Zs.set_of {i : Nat} {e : En} (he : ∀ xs, e ≠ .own xs) {a : Addr} (h : Zs W B ad (G.set i e) a) : Zs W B ad G a := by
  rcases h with h | ⟨j, xs, h, r⟩ | h
  · exact .inl h
  · by_cases z : i = j
    · subst z
      by_cases l : i < G.length
      · rw [List.getElem?_set_self l] at h
        exact absurd (Option.some.inj h) (he xs)
      · rw [List.getElem?_eq_none (by rw [List.length_set]; omega)] at h; cases h
    · rw [List.getElem?_set_ne z] at h
      exact .inr (.inl ⟨j, xs, h, r⟩)
  · exact .inr (.inr h)
theorem get_set {α : Type} {l : List α} {i j : Nat} {x y : α} (h : (l.set i x)[j]? = some y) : (i = j ∧ i < l.length ∧ x = y) ∨ (i ≠ j ∧ l[j]? = some y) := by
  by_cases z : i = j
  · subst z
    by_cases q : i < l.length
    · rw [List.getElem?_set_self q] at h
      exact .inl ⟨rfl, q, Option.some.inj h⟩
    · rw [List.getElem?_eq_none (by rw [List.length_set]; omega)] at h; cases h
  · rw [List.getElem?_set_ne z] at h
    exact .inr ⟨z, h⟩
/-- a slot gets a thing that is no list of one's own -/
theorem Sta.set (S : Sta K W B ad H0 H σ G s) {i : Nat} {e : En} {o : Option V} (he : ∀ xs, e ≠ .own xs) (h : Slot K B ad H (Zs W B ad G) i o e) : Sta K W B ad H0 H (σ.set i o) (G.set i e) s where
  len := by rw [List.length_set, List.length_set]; exact S.len
  at_ := fun j en g => by
    rcases get_set g with ⟨rfl, l, rfl⟩ | ⟨z, g⟩
    · refine ⟨o, List.getElem?_set_self (by rw [S.len]; exact l), h.mono (less_sub fun a q => Zs.set_of he q) fun _ _ _ q => q⟩
    · obtain ⟨o', h1, h2⟩ := S.at_ j en g
      exact ⟨o', by rw [List.getElem?_set_ne z]; exact h1, h2.mono (less_sub fun a q => Zs.set_of he q) fun _ _ _ q => q⟩
  inj := fun j k xs ys g g' q => by
    rcases get_set g with ⟨rfl, l, e⟩ | ⟨z, g⟩
    · exact absurd e (he xs)
    · rcases get_set g' with ⟨rfl, l, e⟩ | ⟨z', g'⟩
      · exact absurd e (he ys)
      · exact S.inj j k xs ys g g' q
  sep := fun j xs g => by
    rcases get_set g with ⟨rfl, l, e⟩ | ⟨z, g⟩
    · exact absurd e (he xs)
    · exact S.sep j xs g
  base := S.base
  bag := S.bag
  wd := S.wd
theorem Sta.setD (S : Sta K W B ad H0 H σ G s) {i : Nat} {v : V} {x : PyData} (h : Dp K (less H (Zs W B ad G)) v x) : Sta K W B ad H0 H (σ.set i (some v)) (G.set i (.d x)) s :=
  S.set (fun _ z => by cases z) ⟨v, rfl, h⟩
theorem Sta.fresh (S : Sta K W B ad H0 H σ G s) {p : Addr} (h : H p = none) : H0 p = none ∧ ¬ InB B p := by
  have hB : ¬ InB B p := by
    rintro ⟨b, c, rfl, z⟩
    have q := S.bag
    unfold BagAt at q
    rcases z with rfl | rfl
    · rw [q.1] at h; cases h
    · rw [q.2.1] at h; cases h
  refine ⟨?_, hB⟩
  cases e : H0 p with
  | none => rfl
  | some o => rw [S.base p o e hB] at h; cases h
/-- a thing of another's, which is new to this def, is changed -/
theorem Sta.foreign (S : Sta K W B ad H0 H σ G s) {p : Addr} {o : HO} (hw : W p) (h0 : H0 p = none) (hB : ¬ InB B p) : Sta K W B ad H0 (upd H p o) σ G s ∧ less (upd H p o) (Zs W B ad G) = less H (Zs W B ad G) := by
  have el : less (upd H p o) (Zs W B ad G) = less H (Zs W B ad G) := by
    funext a
    by_cases z : Zs W B ad G a
    · rw [less_yes z, less_yes z]
    · rw [less_no z, less_no z, upd_ne (fun e => z (.inl (by rw [e]; exact hw)))]
  refine ⟨⟨S.len, fun i e h => ?_, S.inj, S.sep, fun a u q n => ?_, ?_, fun a z => (S.wd a z).elim fun o q => upd_there q⟩, el⟩
  · obtain ⟨u, g1, g2⟩ := S.at_ i e h
    refine ⟨u, g1, g2.mono (by rw [el]; exact Ex.refl _) fun xs vs q q2 => ?_⟩
    subst q
    rw [upd_ne (fun z => (S.sep i xs h).2.2 (by rw [z]; exact hw))]; exact q2
  · rw [upd_ne (fun z => by rw [z, h0] at q; cases q)]; exact S.base a u q n
  · have hg := S.bag
    rcases B with _ | ⟨b, c⟩
    · trivial
    · have h : H b = _ ∧ _ := hg
      refine ⟨?_, ?_, h.2.2⟩
      · rw [upd_ne (fun z => hB ⟨b, c, rfl, .inl z.symm⟩)]; exact h.1
      · rw [upd_ne (fun z => hB ⟨b, c, rfl, .inr z.symm⟩)]; exact h.2.1
/-- a new thing is for a while another's -/
theorem Sta.lend (S : Sta K W B ad H0 H σ G s) {p : Addr} {o : HO} (hp : H p = none) : Sta K (fun a => W a ∨ a = p) B ad H0 (upd H p o) σ G s ∧ less (upd H p o) (Zs (fun a => W a ∨ a = p) B ad G) = less H (Zs W B ad G) := by
  have np : ¬ Zs W B ad G p := by
    rintro (z | ⟨i, xs, g, r⟩ | z)
    · obtain ⟨o, z⟩ := S.wd _ z
      rw [hp] at z; cases z
    · obtain ⟨_, _, _, vs, h1, _⟩ := S.at_ i _ g
      rw [← r, hp] at h1; cases h1
    · obtain ⟨b, c, rfl, z⟩ := z
      rcases z with rfl | rfl
      · rw [S.bag.1] at hp; cases hp
      · rw [S.bag.2.1] at hp; cases hp
  have zz : ∀ a, Zs (fun a => W a ∨ a = p) B ad G a ↔ Zs W B ad G a ∨ a = p := fun a => by
    constructor
    · rintro ((z | z) | z | z)
      · exact .inl (.inl z)
      · exact .inr z
      · exact .inl (.inr (.inl z))
      · exact .inl (.inr (.inr z))
    · rintro ((z | z | z) | z)
      · exact .inl (.inl z)
      · exact .inr (.inl z)
      · exact .inr (.inr z)
      · exact .inl (.inr z)
  have el : less (upd H p o) (Zs (fun a => W a ∨ a = p) B ad G) = less H (Zs W B ad G) := by
    funext a
    by_cases e : a = p
    · rw [less_yes ((zz a).mpr (.inr e)), e, less_no np, hp]
    · by_cases z : Zs W B ad G a
      · rw [less_yes z, less_yes ((zz a).mpr (.inl z))]
      · rw [less_no z, less_no (fun y => ((zz a).mp y).elim z e), upd_ne e]
  have ex : Ex H (upd H p o) := Ex.new hp
  have S' := S.ext ex
  refine ⟨⟨S.len, fun i e h => ?_, S.inj, fun i xs h => ⟨(S.sep i xs h).1, (S.sep i xs h).2.1, fun z => z.elim (S.sep i xs h).2.2 fun z => np (by rw [← z]; exact .inr (.inl ⟨i, xs, h, rfl⟩))⟩, S'.base, S'.bag, fun a z => z.elim (fun z => S'.wd a z) fun z => ⟨o, by rw [z]; exact upd_same⟩⟩, el⟩
  obtain ⟨u, g1, g2⟩ := S.at_ i e h
  exact ⟨u, g1, g2.mono (by rw [el]; exact Ex.refl _) fun xs vs q q2 => ex _ _ q2⟩
/-- .. and is given back -/
theorem Sta.back {p : Addr} (S : Sta K (fun a => W a ∨ a = p) B ad H0 H σ G s) : Sta K W B ad H0 H σ G s ∧ Ex (less H (Zs (fun a => W a ∨ a = p) B ad G)) (less H (Zs W B ad G)) := by
  have ex : Ex (less H (Zs (fun a => W a ∨ a = p) B ad G)) (less H (Zs W B ad G)) := less_sub fun a z => z.elim (fun z => .inl (.inl z)) .inr
  refine ⟨⟨S.len, fun i e h => ?_, S.inj, fun i xs h => ⟨(S.sep i xs h).1, (S.sep i xs h).2.1, fun z => (S.sep i xs h).2.2 (.inl z)⟩, S.base, S.bag, fun a z => S.wd a (.inl z)⟩, ex⟩
  obtain ⟨u, g1, g2⟩ := S.at_ i e h
  exact ⟨u, g1, g2.mono ex fun _ _ _ q => q⟩
end
end U

end
section
namespace U
open PySem L2 Evl
/-- all but the bag stays -/
def Xb (B : Option (Addr × Addr)) (H H2 : Hp) : Prop := ∀ a o, H a = some o → ¬ InB B a → H2 a = some o
theorem Xb.refl {B : Option (Addr × Addr)} {H : Hp} : Xb B H H := fun _ _ h _ => h
theorem Xb.trans {B : Option (Addr × Addr)} {H H1 H2 : Hp} (a : Xb B H H1) (b : Xb B H1 H2) : Xb B H H2 := fun p o h n => b p o (a p o h n) n
theorem Xb.l {B : Option (Addr × Addr)} {H H2 : Hp} (a : Xb B H H2) {W : Addr → Prop} {ad : Nat → Addr} {G : Gam} : Ex (less H (Zs W B ad G)) (less H2 (Zs W B ad G)) := less_but fun p o h n => a p o h fun z => n (.inr (.inr z))
theorem Xb.of {B : Option (Addr × Addr)} {H H2 : Hp} (e : Ex H H2) : Xb B H H2 := fun p o h _ => e p o h
/-! ### what a reading evaluates to -/
def EvG (K : Fg) (te : TE) (G : Gam) (s : Bag) (x : PyData) (s' : Bag) : Prop :=
  ∀ W B ad H0 H σ, Sta K W B ad H0 H σ G s → ∀ Q : VK, (∀ v H2, Sta K W B ad H0 H2 σ G s' → Xb B H H2 → Dp K (less H2 (Zs W B ad G)) v x → Q v H2) → te σ H Q
def EvT (K : Fg) (tt : TT) (G : Gam) (s : Bag) (b : Bool) (s' : Bag) : Prop :=
  ∀ W B ad H0 H σ, Sta K W B ad H0 H σ G s → ∀ Q : Bool → Hp → Prop, (∀ H2, Sta K W B ad H0 H2 σ G s' → Xb B H H2 → Q b H2) → tt σ H Q
def EvA (K : Fg) (ta : TA) (G : Gam) (s : Bag) (xs : List PyData) (s' : Bag) : Prop :=
  ∀ W B ad H0 H σ, Sta K W B ad H0 H σ G s → ∀ Q : List V → Hp → Prop, (∀ vs H2, Sta K W B ad H0 H2 σ G s' → Xb B H H2 → DpAll K (less H2 (Zs W B ad G)) vs xs → Q vs H2) → ta σ H Q
/-- a new list as a value of its own (not yet data) is not spoken of: lists are data once made -/
inductive Out where
  | nx (G : Gam) (s : Bag)
  | rt (x : PyData) (s : Bag)
  | bk (G : Gam) (s : Bag)
  | ct (G : Gam) (s : Bag)
def Post (K : Fg) (W : Addr → Prop) (B : Option (Addr × Addr)) (H0 M : Hp) (D : Ends) : Out → Prop
  | .nx G s => ∀ ad H σ, Sta K W B ad H0 H σ G s → Ex M (less H (Zs W B ad G)) → D.nx σ H
  | .rt x s => ∀ v H, (∀ a o, H0 a = some o → ¬ InB B a → H a = some o) → BagAt H B s → Dp K (less H fun a => W a ∨ InB B a) v x → D.rt v H
  | .bk G s => ∀ ad H σ, Sta K W B ad H0 H σ G s → Ex M (less H (Zs W B ad G)) → D.bk σ H
  | .ct G s => ∀ ad H σ, Sta K W B ad H0 H σ G s → Ex M (less H (Zs W B ad G)) → D.ct σ H
def SG (K : Fg) (ts : TS) (G : Gam) (s : Bag) (o : Out) : Prop :=
  ∀ W B ad H0 H σ (D : Ends), Sta K W B ad H0 H σ G s → Post K W B H0 (less H (Zs W B ad G)) D o → ts D σ H

section
variable {K : Fg} {G G1 G2 : Gam} {s s1 s2 s3 s' : Bag} {ta tb tc te : TE} {t u : TT} {x y z : PyData}
/-! ### values -/
theorem ev_is {x'} (h : EvG K te G s x s') (e : x = x') : EvG K te G s x' s' := e ▸ h
theorem et_is {b b' : Bool} (h : EvT K t G s b s') (e : b = b') : EvT K t G s b' s' := e ▸ h
theorem ev_var {i : Nat} (h : G[i]? = some (.d x)) : EvG K (tVar i) G s x s := fun W B ad H0 H σ S Q q => by
  obtain ⟨o, h1, v, rfl, h2⟩ := S.at_ i _ h
  exact ⟨v, h1, q v H S (Xb.refl) h2⟩
theorem ev_int {i : Int} : EvG K (tC (.int i)) G s (.int i) s := fun W B ad H0 H σ S Q q => q _ H S (Xb.refl) (.int i)
theorem ev_bl {b : Bool} : EvG K (tC (.bl b)) G s (.bool b) s := fun W B ad H0 H σ S Q q => q _ H S (Xb.refl) (.bl b)
/-! ### argument lists and displays -/
theorem ea_nil : EvA K tNil G s [] s := fun W B ad H0 H σ S Q q => q _ H S (Xb.refl) .nil
theorem ea_cons {tr : TA} {xs : List PyData} (h : EvG K ta G s x s1) (hr : EvA K tr G s1 xs s2) : EvA K (tCons ta tr) G s (x :: xs) s2 := fun W B ad H0 H σ S Q q =>
  h W B ad H0 H σ S _ fun v H1 S1 e1 d1 => hr W B ad H0 H1 σ S1 _ fun vs H2 S2 e2 d2 => q _ H2 S2 (e1.trans e2) (.cons (dp_mono e2.l d1) d2)
theorem new_ex {W : Addr → Prop} {B : Option (Addr × Addr)} {ad : Nat → Addr} {H0 H : Hp} {σ : St} (S : Sta K W B ad H0 H σ G s) {p : Addr} {o : HO} (h : H p = none) :
    Sta K W B ad H0 (upd H p o) σ G s ∧ Xb B H (upd H p o) ∧ less (upd H p o) (Zs W B ad G) p = some o := by
  have e : Ex H (upd H p o) := Ex.new h
  refine ⟨S.ext e, .of e, less_of ?_ upd_same⟩
  rintro (z | ⟨i, xs, g, r⟩ | z)
  · obtain ⟨o, z⟩ := S.wd _ z
    rw [h] at z; cases z
  · obtain ⟨_, _, _, vs, h1, _⟩ := S.at_ i _ g
    rw [← r, h] at h1; cases h1
  · exact (S.fresh h).2 z
theorem sz_line {n : Nat} (h : n ≤ 16000000) : n ≤ sizeLine := Nat.le_trans h (by decide)
theorem ev_tup {ta : TA} {xs : List PyData} (h : EvA K ta G s xs s') (hl : xs.length ≤ 16000000) : EvG K (tTup ta) G s (.tuple xs) s' := fun W B ad H0 H σ S Q q =>
  h W B ad H0 H σ S _ fun vs H1 S1 e1 d1 => ⟨by rw [dpa_len d1]; exact sz_line hl, fun p hp => by
    obtain ⟨S2, e2, g⟩ := new_ex (o := .tup vs) S1 hp
    exact q _ _ S2 (e1.trans e2) (.tup (st_of g) (dpa_mono e2.l d1))⟩
/-! ### operators -/
theorem ev_I0 {g : Int → Int → V} {f : Int → Int → PyData} {i j : Int} (ha : EvG K ta G s (.int i) s1) (hb : EvG K tb G s1 (.int j) s2) (hg : ∀ H, Dp K H (g i j) (f i j)) : EvG K (tOp (rI0 g) ta tb) G s (f i j) s2 := fun W B ad H0 H σ S Q q =>
  ha W B ad H0 H σ S _ fun v H1 S1 e1 d1 => hb W B ad H0 H1 σ S1 _ fun w H2 S2 e2 d2 => by
    cases d1; cases d2
    exact ⟨i, j, rfl, rfl, q _ H2 S2 (e1.trans e2) (hg _)⟩
theorem ev_I {C : Int → Int → Prop} {g : Int → Int → V} {f : Int → Int → PyData} {i j : Int} (ha : EvG K ta G s (.int i) s1) (hb : EvG K tb G s1 (.int j) s2) (hc : C i j) (hg : ∀ H, Dp K H (g i j) (f i j)) : EvG K (tOp (rI C g) ta tb) G s (f i j) s2 := fun W B ad H0 H σ S Q q =>
  ha W B ad H0 H σ S _ fun v H1 S1 e1 d1 => hb W B ad H0 H1 σ S1 _ fun w H2 S2 e2 d2 => by
    cases d1; cases d2
    exact ⟨i, j, rfl, rfl, hc, q _ H2 S2 (e1.trans e2) (hg _)⟩
theorem ev_add {i j : Int} (ha : EvG K ta G s (.int i) s1) (hb : EvG K tb G s1 (.int j) s2) : EvG K (tOp (rI0 fun i j => .int (i + j)) ta tb) G s (.int (i + j)) s2 := ev_I0 (f := fun i j => .int (i + j)) ha hb fun _ => .int _
theorem ev_sub {i j : Int} (ha : EvG K ta G s (.int i) s1) (hb : EvG K tb G s1 (.int j) s2) : EvG K (tOp (rI0 fun i j => .int (i - j)) ta tb) G s (.int (i - j)) s2 := ev_I0 (f := fun i j => .int (i - j)) ha hb fun _ => .int _
theorem ev_mul {i j : Int} (ha : EvG K ta G s (.int i) s1) (hb : EvG K tb G s1 (.int j) s2) (hc : CMulW i j) : EvG K (tOp (rI CMulW fun i j => .int (i * j)) ta tb) G s (.int (i * j)) s2 := ev_I (f := fun i j => .int (i * j)) ha hb hc fun _ => .int _
/-- // by any divisor but 0, of less than 9000 bits -/
def CDvX (_ j : Int) : Prop := j ≠ 0 ∧ j.natAbs.log2 < 9000
theorem op_fdivX {X : Cx} : OpR X (binaryOp .FloorDiv) (rI CDvX fun i j => .int (i.fdiv j)) := opI fun i j _ _ _ _ _ hc q => PyProof.Rows.floordiv_int hc.1 q (.inl (PyProof.noPylong_of_log2 hc.2))
theorem ev_fdiv {i j : Int} (ha : EvG K ta G s (.int i) s1) (hb : EvG K tb G s1 (.int j) s2) (hc : CDvX i j) : EvG K (tOp (rI CDvX fun i j => .int (i.fdiv j)) ta tb) G s (.int (i.fdiv j)) s2 := ev_I (f := fun i j => .int (i.fdiv j)) ha hb hc fun _ => .int _
def CNz (_ j : Int) : Prop := j ≠ 0
theorem op_modX {X : Cx} : OpR X (binaryOp .Mod) (rI CNz fun i j => .int (i.fmod j)) := op_modN
theorem ev_mod {i j : Int} (ha : EvG K ta G s (.int i) s1) (hb : EvG K tb G s1 (.int j) s2) (hc : CNz i j) : EvG K (tOp (rI CNz fun i j => .int (i.fmod j)) ta tb) G s (.int (i.fmod j)) s2 := ev_I (f := fun i j => .int (i.fmod j)) ha hb hc fun _ => .int _
theorem ev_lt {i j : Int} (ha : EvG K ta G s (.int i) s1) (hb : EvG K tb G s1 (.int j) s2) : EvG K (tOp (rI0 fun i j => .bl (decide (i < j))) ta tb) G s (.bool (decide (i < j))) s2 := ev_I0 (f := fun i j => .bool (decide (i < j))) ha hb fun _ => .bl _
theorem ev_gt {i j : Int} (ha : EvG K ta G s (.int i) s1) (hb : EvG K tb G s1 (.int j) s2) : EvG K (tOp (rI0 fun i j => .bl (decide (j < i))) ta tb) G s (.bool (decide (j < i))) s2 := ev_I0 (f := fun i j => .bool (decide (j < i))) ha hb fun _ => .bl _
theorem ev_eqI {i j : Int} (ha : EvG K ta G s (.int i) s1) (hb : EvG K tb G s1 (.int j) s2) : EvG K (tOp rEq ta tb) G s (.bool (decide (i = j))) s2 := fun W B ad H0 H σ S Q q =>
  ha W B ad H0 H σ S _ fun v H1 S1 e1 d1 => hb W B ad H0 H1 σ S1 _ fun w H2 S2 e2 d2 => by
    cases d1; cases d2
    have e : decide (V.int i = V.int j) = decide (i = j) := by simp
    exact ⟨rfl, by rw [e]; exact q _ H2 S2 (e1.trans e2) (.bl _)⟩
theorem ev_neI {i j : Int} (ha : EvG K ta G s (.int i) s1) (hb : EvG K tb G s1 (.int j) s2) : EvG K (tOp rNe ta tb) G s (.bool (!decide (i = j))) s2 := fun W B ad H0 H σ S Q q =>
  ha W B ad H0 H σ S _ fun v H1 S1 e1 d1 => hb W B ad H0 H1 σ S1 _ fun w H2 S2 e2 d2 => by
    cases d1; cases d2
    have e : decide (V.int i = V.int j) = decide (i = j) := by simp
    exact ⟨rfl, by rw [e]; exact q _ H2 S2 (e1.trans e2) (.bl _)⟩
theorem ev_eqS {i j : Str} (ha : EvG K ta G s (.str i) s1) (hb : EvG K tb G s1 (.str j) s2) : EvG K (tOp rEq ta tb) G s (.bool (decide (i = j))) s2 := fun W B ad H0 H σ S Q q =>
  ha W B ad H0 H σ S _ fun v H1 S1 e1 d1 => hb W B ad H0 H1 σ S1 _ fun w H2 S2 e2 d2 => by
    cases d1; cases d2
    have e : decide (V.str i = V.str j) = decide (i = j) := by simp
    exact ⟨rfl, by rw [e]; exact q _ H2 S2 (e1.trans e2) (.bl _)⟩
theorem ev_eqB {i j : Bool} (ha : EvG K ta G s (.bool i) s1) (hb : EvG K tb G s1 (.bool j) s2) : EvG K (tOp rEq ta tb) G s (.bool (decide (i = j))) s2 := fun W B ad H0 H σ S Q q =>
  ha W B ad H0 H σ S _ fun v H1 S1 e1 d1 => hb W B ad H0 H1 σ S1 _ fun w H2 S2 e2 d2 => by
    cases d1; cases d2
    have e : decide (V.bl i = V.bl j) = decide (i = j) := by simp
    exact ⟨rfl, by rw [e]; exact q _ H2 S2 (e1.trans e2) (.bl _)⟩
theorem ev_neB {i j : Bool} (ha : EvG K ta G s (.bool i) s1) (hb : EvG K tb G s1 (.bool j) s2) : EvG K (tOp rNe ta tb) G s (.bool (!decide (i = j))) s2 := fun W B ad H0 H σ S Q q =>
  ha W B ad H0 H σ S _ fun v H1 S1 e1 d1 => hb W B ad H0 H1 σ S1 _ fun w H2 S2 e2 d2 => by
    cases d1; cases d2
    have e : decide (V.bl i = V.bl j) = decide (i = j) := by simp
    exact ⟨rfl, by rw [e]; exact q _ H2 S2 (e1.trans e2) (.bl _)⟩
theorem ev_neg {i : Int} (ha : EvG K ta G s (.int i) s') : EvG K (tUn (rU fun i => .int (-i)) ta) G s (.int (-i)) s' := fun W B ad H0 H σ S Q q =>
  ha W B ad H0 H σ S _ fun v H1 S1 e1 d1 => by
    cases d1
    exact ⟨i, rfl, q _ H1 S1 e1 (.int _)⟩
def isNoneD : PyData → Bool
  | .none => true
  | _ => false
theorem dp_none {K : Fg} {H : Hp} {v : V} {x : PyData} (h : Dp K H v x) : decide (v = V.non) = isNoneD x := by
  cases h <;> simp [isNoneD]
theorem ev_isN (ha : EvG K ta G s x s') : EvG K (tOp (fun x y H Q => y = .non ∧ Q (.bl (decide (x = .non))) H) ta (tC .non)) G s (.bool (isNoneD x)) s' := fun W B ad H0 H σ S Q q =>
  ha W B ad H0 H σ S _ fun v H1 S1 e1 d1 => ⟨rfl, by rw [dp_none d1]; exact q _ H1 S1 e1 (.bl _)⟩
/-! ### items -/
theorem dpa_atI {K : Fg} {H : Hp} {ds : List PyData} {vs : List V} {i : Int} {d : PyData} (h : DpAll K H vs ds) (e : atI ds i = some d) : ∃ v, atI vs i = some v ∧ Dp K H v d := by
  unfold atI at e ⊢
  rw [dpa_len h]
  cases q : ixN ds.length i with
  | none => rw [q] at e; cases e
  | some j =>
    rw [q] at e
    exact dpa_get h e
theorem ev_ixT {xs : List PyData} {i : Int} (ha : EvG K ta G s (.tuple xs) s1) (hb : EvG K tb G s1 (.int i) s2) (he : atI xs i = some x) : EvG K (tOp (rIx K) ta tb) G s x s2 := fun W B ad H0 H σ S Q q =>
  ha W B ad H0 H σ S _ fun v H1 S1 e1 d1 => hb W B ad H0 H1 σ S1 _ fun w H2 S2 e2 d2 => by
    cases d2
    cases dp_mono e2.l d1 with
    | tup h t =>
      obtain ⟨v, g1, g2⟩ := dpa_atI t he
      exact .inr (.inl ⟨_, _, i, v, rfl, rfl, ex_t less_ex h, g1, q _ H2 S2 (e1.trans e2) g2⟩)
theorem ev_ixL {xs : List PyData} {i : Int} (ha : EvG K ta G s (.list xs) s1) (hb : EvG K tb G s1 (.int i) s2) (he : atI xs i = some x) : EvG K (tOp (rIx K) ta tb) G s x s2 := fun W B ad H0 H σ S Q q =>
  ha W B ad H0 H σ S _ fun v H1 S1 e1 d1 => hb W B ad H0 H1 σ S1 _ fun w H2 S2 e2 d2 => by
    cases d2
    cases dp_mono e2.l d1 with
    | lst h t =>
      obtain ⟨v, g1, g2⟩ := dpa_atI t he
      exact .inl ⟨_, _, i, v, rfl, rfl, ex_l less_ex h, g1, q _ H2 S2 (e1.trans e2) g2⟩
/-! ### tests -/
theorem et_test {b : Bool} (h : EvG K te G s (.bool b) s') : EvT K (tTest te) G s b s' := fun W B ad H0 H σ S Q q => h W B ad H0 H σ S _ fun v H1 S1 e1 d1 => by
  cases d1
  exact ⟨b, rfl, q H1 S1 e1⟩
theorem et_B {b : Bool} (h : EvG K te G s (.bool b) s') : EvT K (tB te) G s b s' := fun W B ad H0 H σ S Q q => h W B ad H0 H σ S _ fun v H1 S1 e1 d1 => by
  cases d1
  exact ⟨b, rfl, q H1 S1 e1⟩
theorem et_not {b : Bool} (h : EvT K t G s b s') : EvT K (tNot t) G s (!b) s' := fun W B ad H0 H σ S Q q => h W B ad H0 H σ S _ q
theorem et_orF {b : Bool} (h : EvT K t G s false s1) (h2 : EvT K u G s1 b s2) : EvT K (tOr t u) G s b s2 := fun W B ad H0 H σ S Q q => h W B ad H0 H σ S _ fun H1 S1 e1 => iteF (h2 W B ad H0 H1 σ S1 _ fun H2 S2 e2 => q H2 S2 (e1.trans e2))
theorem et_orT (h : EvT K t G s true s1) : EvT K (tOr t u) G s true s1 := fun W B ad H0 H σ S Q q => h W B ad H0 H σ S _ fun H1 S1 e1 => iteT (q H1 S1 e1)
theorem et_or {a b : Bool} (h : EvT K t G s a s) (h2 : a = false → EvT K u G s b s) : EvT K (tOr t u) G s (a || b) s := by
  cases a with
  | true => exact et_orT h
  | false => exact et_orF h (h2 rfl)
theorem ev_andT (h : EvG K ta G s (.bool true) s1) (h2 : EvG K tb G s1 x s2) : EvG K (tAndV ta tb) G s x s2 := fun W B ad H0 H σ S Q q => h W B ad H0 H σ S _ fun v H1 S1 e1 d1 => by
  cases d1
  exact ⟨true, rfl, iteT (h2 W B ad H0 H1 σ S1 _ fun v H2 S2 e2 d2 => q v H2 S2 (e1.trans e2) d2)⟩
theorem ev_andF (h : EvG K ta G s (.bool false) s1) : EvG K (tAndV ta tb) G s (.bool false) s1 := fun W B ad H0 H σ S Q q => h W B ad H0 H σ S _ fun v H1 S1 e1 d1 => by
  cases d1
  exact ⟨false, rfl, iteF (q _ H1 S1 e1 (.bl _))⟩
theorem ev_and {a b : Bool} (h : EvG K ta G s (.bool a) s) (h2 : a = true → EvG K tb G s (.bool b) s) : EvG K (tAndV ta tb) G s (.bool (a && b)) s := by
  cases a with
  | true => exact ev_andT h (h2 rfl)
  | false => exact ev_andF h
theorem ev_not {a : Bool} (h : EvG K ta G s (.bool a) s') : EvG K (tNotV ta) G s (.bool (!a)) s' := fun W B ad H0 H σ S Q q => h W B ad H0 H σ S _ fun v H1 S1 e1 d1 => by
  cases d1
  exact ⟨a, rfl, q _ H1 S1 e1 (.bl _)⟩
/-! ### what a def promises: of data; of the bag and data -/
def spP (K : Fg) (P : List PyData → PyData → Prop) : Sp := fun vs H Q _ => ∃ (W : Addr → Prop) (ds : List PyData) (r : PyData), (∀ a, W a → ∃ o, H a = some o) ∧ DpAll K (less H W) vs ds ∧ P ds r ∧ ∀ v H', Ex H H' → Dp K (less H' W) v r → Q v H'
def spB (K : Fg) (P : Bag → List PyData → PyData → Bag → Prop) : Sp := fun vs H Q _ => ∃ (W : Addr → Prop) (b c : Addr) (us : List V) (s : Bag) (ds : List PyData) (r : PyData) (s' : Bag), (∀ a, W a → ∃ o, H a = some o) ∧ vs = .ref b :: us ∧ BagAt H (some (b, c)) s ∧
  DpAll K (less H fun a => W a ∨ InB (some (b, c)) a) us ds ∧ P s ds r s' ∧ ∀ v H', (∀ a o, H a = some o → ¬ InB (some (b, c)) a → H' a = some o) → BagAt H' (some (b, c)) s' → Dp K (less H' fun a => W a ∨ InB (some (b, c)) a) v r → Q v H'
theorem bag_there {H : Hp} {B : Option (Addr × Addr)} {a : Addr} (h : BagAt H B s) (z : InB B a) : ∃ o, H a = some o := by
  obtain ⟨b, c, rfl, z⟩ := z
  rcases z with rfl | rfl
  · exact ⟨_, h.1⟩
  · exact ⟨_, h.2.1⟩
theorem Sta.there {W : Addr → Prop} {B : Option (Addr × Addr)} {ad : Nat → Addr} {H0 H : Hp} {σ : St} (S : Sta K W B ad H0 H σ G s) (a : Addr) (z : Zs W B ad G a) : ∃ o, H a = some o := by
  by_cases hb : InB B a
  · exact bag_there S.bag hb
  rcases z with z | ⟨i, xs, g, rfl⟩ | z
  · exact S.wd _ z
  · obtain ⟨_, _, _, vs, h1, _⟩ := S.at_ i _ g
    exact ⟨_, h1⟩
  · exact absurd z hb
theorem ev_call {P : List PyData → PyData → Prop} {ta : TA} {ds : List PyData} {dvs : List V} {des : List PyData} {E : XK} (h : EvA K ta G s ds s') (hd : ∀ H, DpAll K H dvs des) (hp : P (ds ++ des) x) : EvG K (tCall (spP K P) dvs E ta) G s x s' := fun W B ad H0 H σ S Q q =>
  h W B ad H0 H σ S _ fun vs H1 S1 e1 d1 => ⟨Zs W B ad G, ds ++ des, x, S1.there, dpa_app d1 (hd _), hp, fun v H' e d => q v H' (S1.ext e) (e1.trans (.of e)) d⟩
end
end U

end
section
namespace U
open PySem L2 Evl
/-! ### built-ins, by name -/
def rAbs : List V → Hp → VK → Prop := fun xs H Q => ∃ i, xs = [.int i] ∧ Q (.int (if i < 0 then -i else i)) H
def rMx : List V → Hp → VK → Prop := fun xs H Q => ∃ i j, xs = [.int i, .int j] ∧ Q (.int (if j > i then j else i)) H
def rLenQ (K : Fg) : List V → Hp → VK → Prop := fun xs H Q => ∃ p ys, xs = [.ref p] ∧ (SqL K H p ys ∨ SqT K H p ys) ∧ Q (.int ys.length) H
def rListQ (K : Fg) : List V → Hp → VK → Prop := fun xs H Q => ∃ p ys, xs = [.ref p] ∧ (SqL K H p ys ∨ SqT K H p ys) ∧ ∀ l, H l = none → Q (.ref l) (upd H l (.lst ys))
def rTupQ (K : Fg) : List V → Hp → VK → Prop := fun xs H Q => ∃ p ys, xs = [.ref p] ∧ ((SqL K H p ys ∧ ∀ l, H l = none → Q (.ref l) (upd H l (.tup ys))) ∨ (SqT K H p ys ∧ Q (.ref p) H))
def rIsNo : R2 := fun x y H Q => y = .non ∧ Q (.bl (decide (x = .non))) H
def rSubB : R2 := fun x y H Q => ∃ i k, x = .bl i ∧ y = .bl k ∧ Q (.int (PyProof.Rows.b2i i - PyProof.Rows.b2i k)) H
section
variable {X : Cx}
theorem c_abs : CallR X (.builtin "abs") rAbs := call_abs
theorem c_max2 (hc : X.calm = true) : CallR X (.builtin "max") rMx := call_max2 hc
theorem c_len : CallR X (.builtin "len") (rLenQ X.K) := call_len_seq
theorem c_list : CallR X (.type "list") (rListQ X.K) := call_list_of
theorem c_tuple : CallR X (.type "tuple") (rTupQ X.K) := call_tuple_of
theorem o_isN : OpR X (compareOp .Is) rIsNo := op_isN
theorem o_subB : OpR X (binaryOp .Sub) rSubB := by
  intro pins s σ H x y v u Q I rx ry h
  obtain ⟨i, k, rfl, rfl, q⟩ := h
  cases rx
  cases ry
  exact PyProof.Rows.sub_bool ⟨.int _, H, I.tok _, ⟨_, rfl⟩, q⟩
end
section
variable {K : Fg} {G G1 G2 : Gam} {s s1 s2 s3 s' : Bag} {ta tb tc te : TE} {t u : TT} {x y z : PyData}
theorem ev_isNo (ha : EvG K ta G s x s') : EvG K (tOp rIsNo ta (tC .non)) G s (.bool (isNoneD x)) s' := ev_isN ha
theorem ev_subB {i j : Bool} (ha : EvG K ta G s (.bool i) s1) (hb : EvG K tb G s1 (.bool j) s2) : EvG K (tOp rSubB ta tb) G s (.int (PyProof.Rows.b2i i - PyProof.Rows.b2i j)) s2 := fun W B ad H0 H σ S Q q =>
  ha W B ad H0 H σ S _ fun v H1 S1 e1 d1 => hb W B ad H0 H1 σ S1 _ fun w H2 S2 e2 d2 => by
    cases d1; cases d2
    exact ⟨i, j, rfl, rfl, q _ H2 S2 (e1.trans e2) (.int _)⟩
/-- a call of a built-in upon data -/
theorem ev_cb {r : List V → Hp → VK → Prop} {ta : TA} {xs : List PyData} (h : EvA K ta G s xs s')
    (hr : ∀ W B ad H0 H σ vs, Sta K W B ad H0 H σ G s' → DpAll K (less H (Zs W B ad G)) vs xs → ∀ Q : VK, (∀ v H2, Sta K W B ad H0 H2 σ G s' → Xb B H H2 → Dp K (less H2 (Zs W B ad G)) v x → Q v H2) → r vs H Q) : EvG K (tCB r ta) G s x s' := fun W B ad H0 H σ S Q q =>
  h W B ad H0 H σ S _ fun vs H1 S1 e1 d1 => hr W B ad H0 H1 σ vs S1 d1 Q fun v H2 S2 e2 d2 => q v H2 S2 (e1.trans e2) d2
theorem dp1 {H : Hp} {vs : List V} {x : PyData} (h : DpAll K H vs [x]) : ∃ v, vs = [v] ∧ Dp K H v x := by
  cases h with
  | cons a b => cases b; exact ⟨_, rfl, a⟩
theorem dp2 {H : Hp} {vs : List V} {x y : PyData} (h : DpAll K H vs [x, y]) : ∃ v w, vs = [v, w] ∧ Dp K H v x ∧ Dp K H w y := by
  cases h with
  | cons a b => obtain ⟨w, rfl, c⟩ := dp1 b; exact ⟨_, w, rfl, a, c⟩
def absI (i : Int) : Int := if i < 0 then -i else i
def maxI (i j : Int) : Int := if j > i then j else i
theorem ev_abs {i : Int} (h : EvG K ta G s (.int i) s') : EvG K (tCB rAbs (tCons ta tNil)) G s (.int (absI i)) s' := ev_cb (ea_cons h ea_nil) fun W B ad H0 H σ vs S d Q q => by
  obtain ⟨v, rfl, d1⟩ := dp1 d
  cases d1
  exact ⟨i, rfl, q _ H S (Xb.refl) (.int _)⟩
theorem ev_max {i j : Int} (h : EvG K ta G s (.int i) s1) (h2 : EvG K tb G s1 (.int j) s') : EvG K (tCB rMx (tCons ta (tCons tb tNil))) G s (.int (maxI i j)) s' := ev_cb (ea_cons h (ea_cons h2 ea_nil)) fun W B ad H0 H σ vs S d Q q => by
  obtain ⟨v, w, rfl, d, d2⟩ := dp2 d
  cases d; cases d2
  exact ⟨i, j, rfl, q _ H S (Xb.refl) (.int _)⟩
theorem ev_lenT {xs : List PyData} (h : EvG K ta G s (.tuple xs) s') : EvG K (tCB (rLenQ K) (tCons ta tNil)) G s (.int xs.length) s' := ev_cb (ea_cons h ea_nil) fun W B ad H0 H σ vs S d Q q => by
  obtain ⟨v, rfl, d1⟩ := dp1 d
  cases d1 with
  | tup g t => exact ⟨_, _, rfl, .inr (ex_t less_ex g), by rw [dpa_len t]; exact q _ H S (Xb.refl) (.int _)⟩
theorem ev_lenL {xs : List PyData} (h : EvG K ta G s (.list xs) s') : EvG K (tCB (rLenQ K) (tCons ta tNil)) G s (.int xs.length) s' := ev_cb (ea_cons h ea_nil) fun W B ad H0 H σ vs S d Q q => by
  obtain ⟨v, rfl, d1⟩ := dp1 d
  cases d1 with
  | lst g t => exact ⟨_, _, rfl, .inl (ex_l less_ex g), by rw [dpa_len t]; exact q _ H S (Xb.refl) (.int _)⟩
theorem new_tup {W : Addr → Prop} {B : Option (Addr × Addr)} {ad : Nat → Addr} {H0 H : Hp} {σ : St} {vs : List V} {xs : List PyData} (S : Sta K W B ad H0 H σ G s) (d : DpAll K (less H (Zs W B ad G)) vs xs) {l : Addr} (hl : H l = none) {Q : VK}
    (q : ∀ v H2, Sta K W B ad H0 H2 σ G s → Xb B H H2 → Dp K (less H2 (Zs W B ad G)) v (.tuple xs) → Q v H2) : Q (.ref l) (upd H l (.tup vs)) := by
  obtain ⟨S2, e2, g⟩ := new_ex (o := .tup vs) S hl
  exact q _ _ S2 e2 (.tup (st_of g) (dpa_mono e2.l d))
theorem ev_tupL {xs : List PyData} (h : EvG K ta G s (.list xs) s') : EvG K (tCB (rTupQ K) (tCons ta tNil)) G s (.tuple xs) s' := ev_cb (ea_cons h ea_nil) fun W B ad H0 H σ vs S d Q q => by
  obtain ⟨v, rfl, d1⟩ := dp1 d
  cases d1 with
  | lst g t => exact ⟨_, _, rfl, .inl ⟨ex_l less_ex g, fun l hl => new_tup S t hl q⟩⟩
theorem dpa_bools {H : Hp} : ∀ {bs : List Bool} {vs : List V}, DpAll K H vs (bs.map PyData.bool) → vs = bs.map V.bl
  | [], _, .nil => rfl
  | b :: r, _, .cons h t => by cases h; rw [dpa_bools t]; rfl
theorem dpa_ints {H : Hp} : ∀ {bs : List Int} {vs : List V}, DpAll K H vs (bs.map PyData.int) → vs = bs.map V.int
  | [], _, .nil => rfl
  | b :: r, _, .cons h t => by cases h; rw [dpa_ints t]; rfl
theorem dpa_of_ints {H : Hp} : ∀ (bs : List Int), DpAll K H (bs.map V.int) (bs.map PyData.int)
  | [] => .nil
  | b :: r => .cons (.int b) (dpa_of_ints r)
theorem ev_all {bs : List Bool} (h : EvG K ta G s (.list (bs.map PyData.bool)) s') : EvG K (tCB (rAll K) (tCons ta tNil)) G s (.bool (bs.all id)) s' := ev_cb (ea_cons h ea_nil) fun W B ad H0 H σ vs S d Q q => by
  obtain ⟨v, rfl, d1⟩ := dp1 d
  cases d1 with
  | lst g t =>
    have e := dpa_bools t
    subst e
    exact ⟨_, bs, rfl, ex_l less_ex g, q _ H S (Xb.refl) (.bl _)⟩
/-! ### isinstance -/
def tyN : PyData → String
  | .none => "NoneType"
  | .bool _ => "bool"
  | .int _ => "int"
  | .str _ => "str"
  | .list _ => "list"
  | .tuple _ => "tuple"
  | .dict _ => "dict"
theorem dp_ty {H : Hp} {Z : Addr → Prop} {v : V} {x : PyData} (h : Dp K (less H Z) v x) : TyX K H v (.type (tyN x)) := by
  cases h with
  | non => exact .base .non
  | bl b => exact .base (.bl b)
  | int i => exact .base (.int i)
  | str i => exact .base (.str i)
  | lst g _ =>
    rcases ex_l less_ex g with (g | ⟨o, g⟩) | ⟨o, its, n, k, c, _⟩
    · exact .base (.lst g)
    · exact .base (.frz g)
    · exact .kList k c
  | tup g _ =>
    rcases ex_t less_ex g with (g | ⟨o, g⟩) | ⟨o, its, n, k, c, _⟩
    · exact .base (.tup g)
    · exact .fTuple g
    · exact .kTuple k c
/-- isinstance(x, T), T a built-in class -/
theorem ev_isi {n : String} {b : Bool} (h : EvG K ta G s x s') (hb : kitB (tyN x) n = some b) : EvG K (tCB (rIsi K) (tCons ta (tCons (tC (.ty n)) tNil))) G s (.bool b) s' := fun W B ad H0 H σ S Q q =>
  h W B ad H0 H σ S _ fun v H1 S1 e1 d1 => ⟨v, .ty n, _, _, b, rfl, .ty n, dp_ty d1, kit_ty hb, q _ H1 S1 e1 (.bl _)⟩
/-- isinstance(x, (S, T)) -/
theorem ev_isi2 {n m : String} {b c : Bool} (h : EvG K ta G s x s') (hb : kitB (tyN x) n = some b) (hc : kitB (tyN x) m = some c) : EvG K (tCB (rIsiT K) (tCons ta (tCons (tTup (tCons (tC (.ty n)) (tCons (tC (.ty m)) tNil))) tNil))) G s (.bool (b || c)) s' := fun W B ad H0 H σ S Q q =>
  h W B ad H0 H σ S _ fun v H1 S1 e1 d1 => ⟨by show 2 ≤ sizeLine; decide, fun p hp => by
    obtain ⟨S2, e2, g⟩ := new_ex (o := .tup [V.ty n, V.ty m]) S1 hp
    refine ⟨v, p, [.ty n, .ty m], _, [.type n, .type m], b || c, rfl, (less_some g).2, .cons (.ty n) (.cons (.ty m) .nil), dp_ty (dp_mono e2.l d1), kitAny_cons (kit_ty hb) (fun e => kitAny_cons (kit_ty hc) (fun e2 => ?_) fun e2 => ?_) (fun e => ?_), q _ _ S2 (e1.trans e2) (.bl _)⟩
    · rw [e, e2]; rfl
    · rw [e, e2]; rfl
    · rw [e]; rfl⟩
/-! ### slices -/
def cutD (xs : List PyData) (lo hi : Option Int) : List PyData := (xs.drop (HT.sIx xs.length 0 lo)).take (HT.sIx xs.length xs.length hi - HT.sIx xs.length 0 lo)
theorem dpa_drop {H : Hp} : ∀ (n : Nat) {ds : List PyData} {vs : List V}, DpAll K H vs ds → DpAll K H (vs.drop n) (ds.drop n)
  | 0, _, _, h => h
  | n + 1, _, _, .nil => .nil
  | n + 1, _, _, .cons _ t => dpa_drop n t
theorem dpa_take {H : Hp} : ∀ (n : Nat) {ds : List PyData} {vs : List V}, DpAll K H vs ds → DpAll K H (vs.take n) (ds.take n)
  | 0, _, _, _ => .nil
  | n + 1, _, _, .nil => .nil
  | n + 1, _, _, .cons h t => .cons h (dpa_take n t)
theorem dpa_cut {H : Hp} {ds : List PyData} {vs : List V} (h : DpAll K H vs ds) (lo hi : Option Int) : DpAll K H (cutV vs lo hi) (cutD ds lo hi) := by
  unfold cutV cutD
  rw [dpa_len h]
  exact dpa_take _ (dpa_drop _ h)
end
end U

end
section
namespace U
open PySem L2 Evl
section
variable {K : Fg} {G G1 G2 : Gam} {s s1 s2 s3 s' : Bag} {ta tb tc te : TE} {t u : TT} {x y z : PyData} {tu tw tz : TS} {o : Out}
theorem Post.mono {W : Addr → Prop} {B : Option (Addr × Addr)} {H0 M M' : Hp} {D : Ends} (e : Ex M M') (h : Post K W B H0 M D o) : Post K W B H0 M' D o := by
  cases o with
  | nx G s => exact fun ad H σ S x => h ad H σ S (e.trans x)
  | rt x s => exact h
  | bk G s => exact fun ad H σ S x => h ad H σ S (e.trans x)
  | ct G s => exact fun ad H σ S x => h ad H σ S (e.trans x)
theorem sg_seq (h : SG K tu G s (.nx G1 s1)) (k : SG K tz G1 s1 o) : SG K (tSeq tu tz) G s o := fun W B ad H0 H σ D S p =>
  h W B ad H0 H σ { D with nx := tz D } S fun ad' H' σ' S' e => k W B ad' H0 H' σ' D S' (p.mono e)
theorem sg_seqR (h : SG K tu G s (.rt x s1)) : SG K (tSeq tu tz) G s (.rt x s1) := fun W B ad H0 H σ D S p => h W B ad H0 H σ { D with nx := tz D } S p
theorem sg_next : SG K tNext G s (.nx G s) := fun W B ad H0 H σ D S p => p ad H σ S (Ex.refl _)
theorem sg_asg {i : Nat} (h : EvG K te G s x s1) : SG K (tAsg te (gName i)) G s (.nx (G.set i (.d x)) s1) := fun W B ad H0 H σ D S p =>
  h W B ad H0 H σ S _ fun v H1 S1 e1 d1 => p ad H1 _ (S1.setD d1) (e1.l.trans (less_sub fun a q => Zs.set_of (fun _ z => by cases z) q))
theorem sg_ret (h : EvG K te G s x s1) : SG K (tRet te) G s (.rt x s1) := fun W B ad H0 H σ D S p =>
  h W B ad H0 H σ S _ fun v H1 S1 e1 d1 => p v H1 S1.base S1.bag (dp_mono (less_sub fun a q => q.elim .inl fun z => .inr (.inr z)) d1)
theorem sg_ifT (h : EvT K t G s true s1) (k : SG K tu G s1 o) : SG K (tIfS t tu tw) G s o := fun W B ad H0 H σ D S p =>
  h W B ad H0 H σ S _ fun H1 S1 e1 => iteT (k W B ad H0 H1 σ D S1 (p.mono e1.l))
theorem sg_ifF (h : EvT K t G s false s1) (k : SG K tw G s1 o) : SG K (tIfS t tu tw) G s o := fun W B ad H0 H σ D S p =>
  h W B ad H0 H σ S _ fun H1 S1 e1 => iteF (k W B ad H0 H1 σ D S1 (p.mono e1.l))
/-- if c: return .. else on -/
theorem sg_when {b : Bool} (h : EvT K t G s b s1) (k1 : b = true → SG K (tSeq tu tz) G s1 o) (k2 : b = false → SG K tz G s1 o) : SG K (tSeq (tIfS t tu tNext) tz) G s o := fun W B ad H0 H σ D S p =>
  h W B ad H0 H σ S _ fun H1 S1 e1 => by
    cases b with
    | true => exact iteT (k1 rfl W B ad H0 H1 σ D S1 (p.mono e1.l))
    | false => exact iteF (k2 rfl W B ad H0 H1 σ D S1 (p.mono e1.l))
/-- x, y = a, b -/
theorem sg_par {i j : Nat} {ta : TA} (h : EvA K ta G s [x, y] s1) : SG K (tPar i j ta) G s (.nx ((G.set i (.d x)).set j (.d y)) s1) := fun W B ad H0 H σ D S p =>
  h W B ad H0 H σ S _ fun vs H1 S1 e1 d1 => by
    obtain ⟨v, w, rfl, d, d2⟩ := dp2 d1
    have e2 : Ex (less H1 (Zs W B ad G)) (less H1 (Zs W B ad (G.set i (.d x)))) := less_sub fun a q => Zs.set_of (fun _ z => by cases z) q
    have S2 := S1.setD (i := i) d
    exact ⟨v, w, rfl, p ad H1 _ (S2.setD (i := j) (dp_mono e2 d2)) (e1.l.trans (e2.trans (less_sub fun a q => Zs.set_of (fun _ z => by cases z) q)))⟩
/-! ### targets that are tuples of names -/
def setAll : Gam → List Nat → List PyData → Gam
  | G, i :: is, x :: xs => setAll (G.set i (.d x)) is xs
  | G, _, _ => G
def gNames : List Nat → TGs
  | [] => gNil
  | i :: is => gCons (gName i) (gNames is)
/-! ### lists of one's own -/
/-- what is no longer needed is forgotten -/
inductive Wk : Gam → Gam → Prop
  | nil : Wk [] []
  | cons {e : En} {G G' : Gam} : Wk G G' → Wk (e :: G) (e :: G')
  | drop {e : En} {G G' : Gam} : Wk G G' → Wk (e :: G) (.un :: G')
theorem Wk.refl : ∀ G : Gam, Wk G G
  | [] => .nil
  | _ :: G => .cons (Wk.refl G)
theorem Wk.length : ∀ {G G' : Gam}, Wk G G' → G.length = G'.length
  | _, _, .nil => rfl
  | _, _, .cons h => congrArg (· + 1) h.length
  | _, _, .drop h => congrArg (· + 1) h.length
theorem Wk.get : ∀ {G G' : Gam} {i : Nat} {e : En}, Wk G G' → G'[i]? = some e → G[i]? = some e ∨ e = .un
  | _, _, _, _, .nil, h => by simp at h
  | _, _, 0, _, .cons _, h => .inl h
  | _, _, 0, _, .drop _, h => .inr (Option.some.inj h).symm
  | _, _, i + 1, _, .cons w, h => Wk.get (i := i) w h
  | _, _, i + 1, _, .drop w, h => Wk.get (i := i) w h
theorem Wk.own {G G' : Gam} {i : Nat} {xs : List PyData} (w : Wk G G') (h : G'[i]? = some (.own xs)) : G[i]? = some (.own xs) := (w.get h).resolve_right fun z => by cases z
theorem Wk.ex {W : Addr → Prop} {B : Option (Addr × Addr)} {ad : Nat → Addr} {H : Hp} {G G' : Gam} (w : Wk G G') : Ex (less H (Zs W B ad G)) (less H (Zs W B ad G')) := less_sub fun a q => by
  rcases q with q | ⟨i, xs, g, r⟩ | q
  · exact .inl q
  · exact .inr (.inl ⟨i, xs, w.own g, r⟩)
  · exact .inr (.inr q)
theorem Sta.wk {W : Addr → Prop} {B : Option (Addr × Addr)} {ad : Nat → Addr} {H0 H : Hp} {σ : St} {G G' : Gam} (w : Wk G G') (S : Sta K W B ad H0 H σ G s) : Sta K W B ad H0 H σ G' s where
  len := S.len.trans w.length
  at_ := fun i e h => by
    rcases w.get h with g | rfl
    · obtain ⟨o, g1, g2⟩ := S.at_ i e g
      exact ⟨o, g1, g2.mono w.ex fun _ _ _ q => q⟩
    · have il : i < σ.length := by rw [S.len, w.length]; exact (List.getElem?_eq_some_iff.mp h).1
      exact ⟨σ[i], List.getElem?_eq_getElem il, trivial⟩
  inj := fun i j xs ys g g' q => S.inj i j xs ys (w.own g) (w.own g') q
  sep := fun i xs g => S.sep i xs (w.own g)
  base := S.base
  bag := S.bag
  wd := S.wd
theorem sg_wk (h : SG K tu G s (.nx G1 s1)) (w : Wk G1 G2) : SG K tu G s (.nx G2 s1) := fun W B ad H0 H σ D S p =>
  h W B ad H0 H σ D S fun ad' H' σ' S' e => p ad' H' σ' (S'.wk w) (e.trans w.ex)
theorem sg_is {o'} (h : SG K tu G s o) (e : o = o') : SG K tu G s o' := e ▸ h
/-! ### loops -/
/-- what a turn of a loop may end with: going on -/
def Turn (K : Fg) (tb : TS) (G : Gam) (s : Bag) (G' : Gam) (s' : Bag) : Prop := SG K tb G s (.nx G' s') ∨ SG K tb G s (.ct G' s')
theorem Turn.run {tb : TS} {G' : Gam} (h : Turn K tb G s G' s') {W : Addr → Prop} {B : Option (Addr × Addr)} {ad : Nat → Addr} {H0 H : Hp} {σ : St} {D : Ends} {N : St → Hp → Prop} (S : Sta K W B ad H0 H σ G s) (hn : D.nx = N) (hc : D.ct = N)
    (q : ∀ ad' H' σ', Sta K W B ad' H0 H' σ' G' s' → Ex (less H (Zs W B ad G)) (less H' (Zs W B ad' G')) → N σ' H') : tb D σ H := by
  rcases h with h | h
  · exact h W B ad H0 H σ D S fun ad' H' σ' S' e => by rw [hn]; exact q ad' H' σ' S' e
  · exact h W B ad H0 H σ D S fun ad' H' σ' S' e => by rw [hc]; exact q ad' H' σ' S' e
/-- while, by its states one behind the other -/
theorem sg_while {tb : TS} (GG : Nat → Gam) (SS TS' : Nat → Bag) (n : Nat) (w0 : Wk G (GG 0)) (h0 : SS 0 = s) (ht : ∀ i, i < n → EvT K t (GG i) (SS i) true (TS' i)) (hs : ∀ i, i < n → Turn K tb (GG i) (TS' i) (GG (i + 1)) (SS (i + 1)))
    (he : EvT K t (GG n) (SS n) false s') : SG K (tWhile t tb) G s (.nx (GG n) s') := fun W B ad H0 H σ D S p => by
  refine ⟨fun m σ' H' => ∃ i ad', m = n - i ∧ i ≤ n ∧ Sta K W B ad' H0 H' σ' (GG i) (SS i) ∧ Ex (less H (Zs W B ad G)) (less H' (Zs W B ad' (GG i))), ⟨n, 0, ad, rfl, Nat.zero_le _, by rw [h0]; exact S.wk w0, w0.ex⟩, ?_⟩
  rintro m σ' H' ⟨i, ad', rfl, hi, S', e'⟩
  by_cases hlt : i < n
  · refine ht i hlt W B ad' H0 H' σ' S' _ fun H2 S2 e2 => iteT ⟨fun σ3 H3 => ∃ ad3, Sta K W B ad3 H0 H3 σ3 (GG (i + 1)) (SS (i + 1)) ∧ Ex (less H (Zs W B ad G)) (less H3 (Zs W B ad3 (GG (i + 1)))), ?_, ?_⟩
    · rintro σ3 H3 ⟨ad3, S3, e3⟩
      exact ⟨n - (i + 1), by omega, i + 1, ad3, rfl, hlt, S3, e3⟩
    · exact (hs i hlt).run S2 rfl rfl fun ad3 H3 σ3 S3 e3 => ⟨ad3, S3, (e'.trans e2.l).trans e3⟩
  · have en : i = n := by omega
    subst en
    exact he W B ad' H0 H' σ' S' _ fun H2 S2 e2 => iteF (p ad' H2 σ' S2 (e'.trans e2.l))
end
end U

end
section
namespace U
open PySem L2 Evl
/-! ### what is walked, and into which names -/
def ItOk (K : Fg) (J : It) (ds : List PyData) (M : Hp) : Prop := ∀ (H' : Hp) (Z : Addr → Prop), (∀ a, Z a → ∃ o, H' a = some o) → Ex M (less H' Z) → ∀ i,
  (∀ d, ds[i]? = some d → J.go i H') ∧ (ds.length ≤ i → J.stop i H') ∧ ∀ x H'', J.yld i H' x H'' → Ex H' H'' ∧ ∀ d, ds[i]? = some d → Dp K (less H'' Z) x d
def Src (K : Fg) (wi : TI) (G : Gam) (s : Bag) (ds : List PyData) (s1 : Bag) : Prop :=
  ∀ W B ad H0 H σ, Sta K W B ad H0 H σ G s → ∀ R : It → Hp → Prop, (∀ J H1, Sta K W B ad H0 H1 σ G s1 → Xb B H H1 → ItOk K J ds (less H1 (Zs W B ad G)) → R J H1) → wi σ H R
def Off (vs : List Nat) (G G' : Gam) : Prop := G.length = G'.length ∧ (∀ i, i ∉ vs → G'[i]? = G[i]?) ∧ ∀ i xs, i ∈ vs → G'[i]? ≠ some (.own xs)
def Tgt (K : Fg) (g : TG) (vs : List Nat) (G : Gam) (x : PyData) (G' : Gam) : Prop := Off vs G G' ∧ ∀ W B ad H0 H σ s v, Sta K W B ad H0 H σ G s → Dp K (less H (Zs W B ad G)) v x → ∀ Q : St → Hp → Prop,
  (∀ σ', Sta K W B ad H0 H σ' G' s → Ex (less H (Zs W B ad G)) (less H (Zs W B ad G')) → wipe σ' vs = wipe σ vs → Q σ' H) → g v σ H Q
section
variable {K : Fg} {G G' G1 G2 : Gam} {s s1 s2 s3 s' : Bag} {ta tb tc te : TE} {t u : TT} {x y z : PyData} {tu tw tz : TS} {o : Out}
theorem src_tup {ds : List PyData} (h : EvG K te G s (.tuple ds) s1) : Src K (iTup K te) G s ds s1 := fun W B ad H0 H σ S R q => h W B ad H0 H σ S _ fun v H1 S1 e1 d1 => by
  cases d1 with
  | @tup a vs _ g t =>
    refine ⟨a, rfl, ⟨vs, ex_t less_ex g⟩, q _ H1 S1 e1 fun H' Z hz e i => ?_⟩
    have g' : SqT K H' a vs := ex_t less_ex (ex_t e g)
    refine ⟨fun d hd => ?_, fun hl => ⟨vs, g', by rw [dpa_len t]; exact hl⟩, fun x H'' hy => ?_⟩
    · obtain ⟨v, hv, _⟩ := dpa_get t hd
      exact ⟨vs, v, g', hv⟩
    · obtain ⟨rfl, hy⟩ := hy
      refine ⟨Ex.refl _, fun d hd => ?_⟩
      obtain ⟨v, hv, hd⟩ := dpa_get t hd
      have ev : v = x := Option.some.inj (hv.symm.trans (hy vs g'))
      rw [← ev]
      exact dp_mono e hd
def rngD (lo : Int) (n : Nat) : List PyData := (List.range n).map fun i : Nat => .int (lo + (i : Int))
theorem rngD_len (lo : Int) (n : Nat) : (rngD lo n).length = n := by simp [rngD]
theorem rngD_get {lo : Int} {n i : Nat} (h : i < n) : (rngD lo n)[i]? = some (.int (lo + (i : Int))) := by
  unfold rngD
  rw [List.getElem?_map, List.getElem?_range h]
  rfl
theorem it_rng {lo : Int} {n : Nat} {M : Hp} : ItOk K (Itr lo n) (rngD lo n) M := fun H' Z hz e i => by
  refine ⟨fun d hd => ?_, fun hl => ?_, fun x H'' hy => ?_⟩
  · have := (List.getElem?_eq_some_iff.mp hd).1
    rw [rngD_len] at this
    exact this
  · rw [rngD_len] at hl
    exact hl
  · obtain ⟨rfl, rfl⟩ := hy
    refine ⟨Ex.refl _, fun d hd => ?_⟩
    have hl := (List.getElem?_eq_some_iff.mp hd).1
    rw [rngD_len] at hl
    rw [rngD_get hl] at hd
    cases hd
    exact .int _
theorem src_rng1 {ta : TA} {n : Int} (h : EvA K ta G s [.int n] s1) (hn : -1000000 ≤ n ∧ n ≤ 1000000) : Src K (iRng1 ta) G s (rngD 0 n.toNat) s1 := fun W B ad H0 H σ S R q => h W B ad H0 H σ S _ fun vs H1 S1 e1 d1 => by
  obtain ⟨v, rfl, d⟩ := dp1 d1
  cases d
  exact ⟨n, rfl, by omega, by omega, q _ H1 S1 e1 it_rng⟩
/-! ### targets -/
theorem tgt_name {j : Nat} : Tgt K (gName j) [j] G x (G.set j (.d x)) := by
  refine ⟨⟨by rw [List.length_set], fun i hi => ?_, fun i xs hi h => ?_⟩, fun W B ad H0 H σ s v S d Q q => q _ (S.setD d) (less_sub fun a q => Zs.set_of (fun _ z => by cases z) q) ?_⟩
  · rw [List.getElem?_set_ne (fun z => hi (by rw [z]; exact List.mem_singleton.mpr rfl))]
  · rcases get_set h with ⟨rfl, l, e⟩ | ⟨z, g⟩
    · cases e
    · exact z (List.mem_singleton.mp hi).symm
  · show (List.set (List.set σ j (some v)) j none) = List.set σ j none
    rw [List.set_set]
theorem setAll_len : ∀ {is : List Nat} {xs : List PyData} {G : Gam}, (setAll G is xs).length = G.length
  | [], _, _ => rfl
  | _ :: _, [], _ => rfl
  | i :: is, x :: xs, G => by
    show (setAll (G.set i (.d x)) is xs).length = _
    rw [setAll_len, List.length_set]
theorem setAll_off : ∀ {is : List Nat} {xs : List PyData} {G : Gam} {i : Nat}, i ∉ is → (setAll G is xs)[i]? = G[i]?
  | [], _, _, _, _ => rfl
  | _ :: _, [], _, _, _ => rfl
  | k :: is, x :: xs, G, i, h => by
    show (setAll (G.set k (.d x)) is xs)[i]? = _
    rw [setAll_off (fun z => h (List.mem_cons_of_mem _ z)), List.getElem?_set_ne (fun z => h (by rw [z]; exact List.mem_cons_self))]
theorem wipe_set : ∀ {vs : List Nat} {σ : St} {i : Nat} {o : Option V}, i ∈ vs → wipe (σ.set i o) vs = wipe σ vs
  | v :: vs, σ, i, o, h => by
    show (wipe (σ.set i o) vs).set v none = (wipe σ vs).set v none
    by_cases hv : i ∈ vs
    · rw [wipe_set hv]
    · have e : i = v := (List.mem_cons.mp h).resolve_right hv
      subst e
      have c : ∀ (vs : List Nat) (σ : St), i ∉ vs → wipe (σ.set i o) vs = (wipe σ vs).set i o := fun vs => by
        induction vs with
        | nil => exact fun _ _ => rfl
        | cons w vs ih =>
          intro σ hn
          show (wipe (σ.set i o) vs).set w none = ((wipe σ vs).set w none).set i o
          rw [ih σ (fun z => hn (List.mem_cons_of_mem _ z)), List.set_comm _ _ (fun z => hn (by rw [z]; exact List.mem_cons_self))]
      rw [c vs σ hv, List.set_set]
theorem gnames_ok2 {W : Addr → Prop} {B : Option (Addr × Addr)} {ad : Nat → Addr} {H0 H : Hp} {us : List Nat} : ∀ {is : List Nat} {xs : List PyData} {vs : List V} {σ : St} {G : Gam} {Q : St → Hp → Prop}, (∀ i ∈ is, i ∈ us) → Sta K W B ad H0 H σ G s → DpAll K (less H (Zs W B ad G)) vs xs → is.length = xs.length →
    (∀ σ', Sta K W B ad H0 H σ' (setAll G is xs) s → Ex (less H (Zs W B ad G)) (less H (Zs W B ad (setAll G is xs))) → wipe σ' us = wipe σ us → Q σ' H) → gNames is vs σ H Q
  | [], [], _, σ, G, Q, _, S, .nil, _, q => ⟨rfl, q σ S (Ex.refl _) rfl⟩
  | i :: is, x :: xs, _, σ, G, Q, hu, S, .cons h t, hl, q => by
    have e : Ex (less H (Zs W B ad G)) (less H (Zs W B ad (G.set i (.d x)))) := less_sub fun a q => Zs.set_of (fun _ z => by cases z) q
    refine ⟨_, _, rfl, ?_⟩
    exact gnames_ok2 (fun j hj => hu j (List.mem_cons_of_mem _ hj)) (S.setD (i := i) h) (dpa_mono e t) (Nat.succ.inj hl) fun σ' S' e' ew => q σ' S' (e.trans e') (by rw [ew, wipe_set (hu i List.mem_cons_self)])
theorem tgt_tup {n : Nat} {is : List Nat} {xs : List PyData} (hl : is.length = xs.length) (hn : xs.length = n) : Tgt K (gTup K n (gNames is)) is G (.tuple xs) (setAll G is xs) := by
  refine ⟨⟨setAll_len.symm, fun i hi => setAll_off hi, fun i ys hi h => ?_⟩, fun W B ad H0 H σ s v S d Q q => ?_⟩
  · -- every one of the names is set
    have key : ∀ (is : List Nat) (xs : List PyData) (G : Gam), is.length = xs.length → i ∈ is → (setAll G is xs)[i]? ≠ some (.own ys) := fun is => by
      induction is with
      | nil => intro _ _ _ h; simp at h
      | cons k is ih =>
        intro xs G hl hi h
        cases xs with
        | nil => cases hl
        | cons x xs =>
          by_cases hm : i ∈ is
          · exact ih xs (G.set k (.d x)) (Nat.succ.inj hl) hm h
          · have e : i = k := (List.mem_cons.mp hi).resolve_right hm
            subst e
            have h' : (setAll (G.set i (.d x)) is xs)[i]? = some (.own ys) := h
            rw [setAll_off hm] at h'
            rcases get_set h' with ⟨_, _, e⟩ | ⟨z, _⟩
            · cases e
            · exact z rfl
    exact key is xs G hl hi h
  · cases d with
    | tup g t => exact ⟨_, _, rfl, ex_t less_ex g, (dpa_len t).trans hn, gnames_ok2 (fun _ h => h) S t hl q⟩
/-! ### for, over anything -/
/-! ### comprehensions -/
theorem wipe_get : ∀ {vs : List Nat} {σ : St} {i : Nat}, i ∉ vs → (wipe σ vs)[i]? = σ[i]?
  | [], _, _, _ => rfl
  | v :: vs, σ, i, h => by
    show ((wipe σ vs).set v none)[i]? = _
    rw [List.getElem?_set_ne (fun z => h (by rw [z]; exact List.mem_cons_self)), wipe_get (fun z => h (List.mem_cons_of_mem _ z))]
theorem wipe_wipe {vs : List Nat} {σ : St} : wipe (wipe σ vs) vs = wipe σ vs := by
  have key : ∀ us : List Nat, (∀ i ∈ us, i ∈ vs) → wipe (wipe σ us) vs = wipe σ vs := fun us => by
    induction us with
    | nil => exact fun _ => rfl
    | cons u us ih =>
      intro h
      show wipe ((wipe σ us).set u none) vs = wipe σ vs
      rw [wipe_set (h u List.mem_cons_self), ih fun i hi => h i (List.mem_cons_of_mem _ hi)]
  exact key vs fun _ h => h
theorem Sta.slots {W : Addr → Prop} {B : Option (Addr × Addr)} {ad : Nat → Addr} {H0 H : Hp} {σ σ' : St} {vs : List Nat} (S : Sta K W B ad H0 H σ G s) (ho : Off vs G G') (hu : ∀ i e, i ∈ vs → G'[i]? = some e → e = .un) (hg : ∀ i xs, i ∈ vs → G[i]? ≠ some (.own xs)) (hw : wipe σ vs = wipe σ' vs) : Sta K W B ad H0 H σ' G' s := by
  have hl : σ.length = σ'.length := by
    have := congrArg List.length hw
    rw [wipe_length, wipe_length] at this
    exact this
  have zz : ∀ a, Zs W B ad G' a ↔ Zs W B ad G a := fun a => by
    constructor
    · rintro (z | ⟨i, xs, g, r⟩ | z)
      · exact .inl z
      · by_cases hi : i ∈ vs
        · exact absurd (hu i _ hi g) (fun e => by cases e)
        · rw [ho.2.1 i hi] at g; exact .inr (.inl ⟨i, xs, g, r⟩)
      · exact .inr (.inr z)
    · rintro (z | ⟨i, xs, g, r⟩ | z)
      · exact .inl z
      · by_cases hi : i ∈ vs
        · exact absurd g (hg i xs hi)
        · exact .inr (.inl ⟨i, xs, by rw [ho.2.1 i hi]; exact g, r⟩)
      · exact .inr (.inr z)
  have zl : Zs W B ad G' = Zs W B ad G := funext fun a => propext (zz a)
  have own : ∀ (i : Nat) (xs : List PyData), G'[i]? = some (En.own xs) → G[i]? = some (En.own xs) := fun i xs g => by
    by_cases hi : i ∈ vs
    · exact absurd (hu i _ hi g) (fun e => by cases e)
    · rw [ho.2.1 i hi] at g; exact g
  refine ⟨hl ▸ (S.len.trans ho.1), fun i e g => ?_, fun i j xs ys g g' q => S.inj i j xs ys (own i xs g) (own j ys g') q, fun i xs g => S.sep i xs (own i xs g), S.base, S.bag, S.wd⟩
  by_cases hi : i ∈ vs
  · have e := hu i e hi g
    subst e
    have il : i < σ'.length := by rw [← hl, S.len, ho.1]; exact (List.getElem?_eq_some_iff.mp g).1
    exact ⟨σ'[i], List.getElem?_eq_getElem il, trivial⟩
  · rw [ho.2.1 i hi] at g
    obtain ⟨o, g1, g2⟩ := S.at_ i e g
    refine ⟨o, ?_, by rw [zl]; exact g2⟩
    rw [← wipe_get hi, ← hw, wipe_get hi]
    exact g1
theorem range_fm_succ (f : Nat → Option PyData) (i : Nat) : (List.range (i + 1)).filterMap f = (List.range i).filterMap f ++ (f i).toList := by
  rw [List.range_succ, List.filterMap_append]
  cases h : f i <;> simp [h]
/-- [elt for target in .. if ..]: f tells what each turn gives -/
theorem ev_lc {wi : TI} {g : TG} {vs : List Nat} {tt : TT} {ds : List PyData} (h : Src K wi G s ds s1) (f : Nat → Option PyData) (SS : Nat → Bag) (h0 : SS 0 = s1) (hu : ∀ i e, i ∈ vs → G[i]? = some e → e = .un) (hz : ds.length ≤ 16000000)
    (hs : ∀ i x, ds[i]? = some x → ∃ Gt s2, Tgt K g vs G x Gt ∧ EvT K tt Gt (SS i) (f i).isSome s2 ∧ (∀ y, f i = some y → EvG K te Gt s2 y (SS (i + 1))) ∧ (f i = none → s2 = SS (i + 1))) :
    EvG K (tLc wi g tt te vs) G s (.list ((List.range ds.length).filterMap f)) (SS ds.length) := fun W B ad H0 H σ S Q q =>
  h W B ad H0 H σ S _ fun J H1 S1 e1 ok Dl hD => by
    have hgu : ∀ i xs, i ∈ vs → G[i]? ≠ some (.own xs) := fun i xs hi g => by cases hu i _ hi g
    obtain ⟨L0, el0⟩ := S1.lend (o := .lst []) hD
    have fr := S1.fresh hD
    have npD : ¬ Zs W B ad G Dl := by
      rintro (z | ⟨i, xs, g, r⟩ | z)
      · obtain ⟨o, z⟩ := S1.wd _ z
        rw [hD] at z; cases z
      · obtain ⟨_, _, _, vs, h1, _⟩ := S1.at_ i _ g
        rw [← r, hD] at h1; cases h1
      · exact fr.2 z
    refine ⟨fun i m H' => m = ds.length - i ∧ i ≤ ds.length ∧ Sta K (fun a => W a ∨ a = Dl) B ad H0 H' σ G (SS i) ∧ Ex (less H1 (Zs W B ad G)) (less H' (Zs (fun a => W a ∨ a = Dl) B ad G)) ∧ Xb B H1 H' ∧
      ∃ acc, H' Dl = some (.lst acc) ∧ DpAll K (less H' (Zs (fun a => W a ∨ a = Dl) B ad G)) acc ((List.range i).filterMap f), ⟨ds.length, rfl, Nat.zero_le _, by rw [h0]; exact L0, by rw [el0]; exact Ex.refl _, .of (Ex.new hD), [], upd_same, .nil⟩, ?_⟩
    rintro i m H' ⟨rfl, hi, S', e', xb, acc, ha, hd⟩
    obtain ⟨k1, k2, k3⟩ := ok H' (Zs (fun a => W a ∨ a = Dl) B ad G) S'.there e' i
    by_cases hlt : i < ds.length
    · have hx : ds[i]? = some ds[i] := List.getElem?_eq_getElem hlt
      obtain ⟨Gt, s2, tg, ht, hy, hn⟩ := hs i _ hx
      refine .inr ⟨k1 _ hx, fun H3 => Sta K (fun a => W a ∨ a = Dl) B ad H0 H3 σ G (SS (i + 1)) ∧ Ex (less H1 (Zs W B ad G)) (less H3 (Zs (fun a => W a ∨ a = Dl) B ad G)) ∧ Xb B H1 H3 ∧
        ∃ acc, H3 Dl = some (.lst acc) ∧ DpAll K (less H3 (Zs (fun a => W a ∨ a = Dl) B ad G)) acc ((List.range (i + 1)).filterMap f), fun H3 h3 => ⟨ds.length - (i + 1), by omega, rfl, hlt, h3⟩, fun v H'' hyl => ?_⟩
      obtain ⟨ex, dx⟩ := k3 v H'' hyl
      have S2 := (S'.ext ex).slots (σ' := wipe σ vs) (G' := G) (vs := vs) ⟨rfl, fun _ _ => rfl, hgu⟩ hu hgu wipe_wipe.symm
      refine tg.2 _ B ad H0 H'' _ (SS i) v S2 (dx _ hx) _ fun σ2 S3 e3 ew => ⟨by rw [ew, wipe_wipe], ?_⟩
      have eZ : Zs (fun a => W a ∨ a = Dl) B ad Gt = Zs (fun a => W a ∨ a = Dl) B ad G := funext fun a => propext (by
        have own : ∀ (i : Nat) (xs : List PyData), Gt[i]? = some (En.own xs) ↔ G[i]? = some (En.own xs) := fun i xs => by
          by_cases hi : i ∈ vs
          · exact ⟨fun g => absurd g (tg.1.2.2 i xs hi), fun g => absurd g (hgu i xs hi)⟩
          · rw [tg.1.2.1 i hi]
        constructor
        · rintro (z | ⟨i, xs, g, r⟩ | z)
          · exact .inl z
          · exact .inr (.inl ⟨i, xs, (own i xs).mp g, r⟩)
          · exact .inr (.inr z)
        · rintro (z | ⟨i, xs, g, r⟩ | z)
          · exact .inl z
          · exact .inr (.inl ⟨i, xs, (own i xs).mpr g, r⟩)
          · exact .inr (.inr z))
      have back : ∀ {H5 : Hp} {b : Bag}, Sta K (fun a => W a ∨ a = Dl) B ad H0 H5 σ2 Gt b → Sta K (fun a => W a ∨ a = Dl) B ad H0 H5 σ G b := fun {H5 b} S5 =>
        S5.slots (G' := G) (vs := vs) ⟨tg.1.1.symm, fun i hi => (tg.1.2.1 i hi).symm, hgu⟩ hu tg.1.2.2 (by rw [ew, wipe_wipe])
      have hB : ¬ InB B Dl := fr.2
      have ha2 : H'' Dl = some (.lst acc) := ex _ _ ha
      have al : acc.length < sizeLine := by
        have h1 := dpa_len hd
        have h2 := List.length_filterMap_le f (List.range i)
        rw [List.length_range] at h2
        exact Nat.lt_of_lt_of_le (show acc.length < 16777216 by omega) (by decide)
      refine ht _ B ad H0 H'' σ2 S3 _ fun H3 S4 e4 => ?_
      have e5 : Ex (less H' (Zs (fun a => W a ∨ a = Dl) B ad G)) (less H3 (Zs (fun a => W a ∨ a = Dl) B ad G)) := (less_mono ex).trans e4.l
      cases hf : (f i) with
      | none =>
        rw [hn hf] at S4
        refine iteF ⟨back S4, e'.trans e5, (xb.trans (.of ex)).trans e4, acc, e4 _ _ ha2 hB, ?_⟩
        rw [range_fm_succ, hf]
        show DpAll K _ acc (_ ++ [])
        rw [List.append_nil]
        exact dpa_mono e5 hd
      | some y =>
        refine iteT ?_
        refine hy y hf _ B ad H0 H3 σ2 S4 _ fun w H4 S5 e6 dw => ?_
        rw [eZ] at dw
        have S6 := back S5
        have h0 : H0 Dl = none := fr.1
        obtain ⟨S7, el7⟩ := S6.foreign (o := .lst (acc ++ [w])) (p := Dl) (.inr rfl) h0 hB
        refine ⟨acc, e6 _ _ (e4 _ _ ha2 hB) hB, al, S7, ?_, ?_, acc ++ [w], upd_same, ?_⟩
        · rw [el7]
          exact e'.trans (e5.trans e6.l)
        · intro a o g n
          have na : a ≠ Dl := ne_of_none g hD
          rw [upd_ne na]
          exact ((((xb.trans (.of ex)).trans e4).trans e6) a o g n)
        · rw [el7, range_fm_succ, hf]
          exact dpa_app (dpa_mono (e5.trans e6.l) hd) (.cons dw .nil)
    · have en : i = ds.length := by omega
      subst en
      obtain ⟨S5, e5⟩ := S'.back
      refine .inl ⟨k2 (Nat.le_refl _), q _ H' S5 (e1.trans ?_) (.lst (sq_of (less_of npD ha)) (dpa_mono e5 hd))⟩
      exact fun a o g n => xb a o g n
end
end U

end
section
namespace U
open PySem PyProof.Rows L2 Evl
section
variable {K : Fg} {G G' G1 G2 : Gam} {s s1 s2 s3 s' : Bag} {ta tb tc te : TE} {t u : TT} {x y z : PyData} {tu tw tz : TS} {o : Out}
theorem range_fm_map {ds : List PyData} (F : PyData → PyData) : (List.range ds.length).filterMap (fun i => (ds[i]?).map F) = ds.map F := by
  have key : ∀ (l : List PyData), (List.range l.length).filterMap (fun i => l[i]?) = l := fun l => by
    induction l with
    | nil => rfl
    | cons a l ih =>
      rw [List.length_cons, List.range_succ_eq_map, List.filterMap_cons]
      simp only [List.getElem?_cons_zero, List.filterMap_map]
      refine congrArg (a :: ·) ?_
      exact ih
  have h : (fun i : Nat => (ds[i]?).map F) = fun i : Nat => (ds.map F)[i]? := by
    funext i
    rw [List.getElem?_map]
  rw [h]
  have e := key (ds.map F)
  rw [List.length_map] at e
  exact e
theorem et_yes : EvT K tYes G s true s := fun W B ad H0 H σ S Q q => q H S Xb.refl
/-- [elt for target in ..], nothing drawn, no test -/
theorem ev_lcM {wi : TI} {g : TG} {vs : List Nat} {ds : List PyData} (h : Src K wi G s ds s1) (F : PyData → PyData) (hu : ∀ i e, i ∈ vs → G[i]? = some e → e = .un) (hz : ds.length ≤ 16000000)
    (hs : ∀ x, x ∈ ds → ∃ Gt, Tgt K g vs G x Gt ∧ EvG K te Gt s1 (F x) s1) : EvG K (tLc wi g tYes te vs) G s (.list (ds.map F)) s1 := by
  have k := ev_lc (K := K) (te := te) (tt := tYes) h (fun i => (ds[i]?).map F) (fun _ => s1) rfl hu hz fun i x hx => by
    obtain ⟨Gt, a, b⟩ := hs x (List.mem_of_getElem? hx)
    refine ⟨Gt, s1, a, ?_, fun y hy => ?_, fun hn => rfl⟩
    · rw [hx]; exact et_yes
    · rw [hx] at hy
      cases hy
      exact b
  rw [range_fm_map] at k
  exact k
/-! ### deep equality -/
end
/-! ### defs -/
section
variable {Pg : Program} {w : World} {K : Fg} {mg : Str → Option Value} {base : Heap}
def frame (n : Nat) (ds : List PyData) : Gam := ds.map .d ++ List.replicate (n - ds.length) .un
theorem frame_get {n i : Nat} {ds : List PyData} {e : En} (h : (frame n ds)[i]? = some e) : (∃ d, ds[i]? = some d ∧ e = .d d) ∨ (ds.length ≤ i ∧ e = .un) := by
  unfold frame at h
  by_cases hi : i < ds.length
  · rw [List.getElem?_append_left (by rw [List.length_map]; exact hi), List.getElem?_map, List.getElem?_eq_getElem hi] at h
    exact .inl ⟨ds[i], List.getElem?_eq_getElem hi, (Option.some.inj h).symm⟩
  · have hi : ds.length ≤ i := by omega
    rw [List.getElem?_append_right (by rw [List.length_map]; exact hi)] at h
    exact .inr ⟨hi, (List.mem_replicate.mp (List.mem_of_getElem? h)).2⟩
theorem start_get {N : List Str} {vs : List V} {i : Nat} {v : V} (h : vs[i]? = some v) : (L2.start N vs)[i]? = some (some v) := by
  unfold L2.start
  have hi := (List.getElem?_eq_some_iff.mp h).1
  rw [List.getElem?_append_left (by rw [List.length_map]; exact hi), List.getElem?_map, h]
  rfl
theorem start_len {N : List Str} {vs : List V} : (L2.start N vs).length = vs.length + (N.length - vs.length) := by
  unfold L2.start
  rw [List.length_append, List.length_map, List.length_replicate]
/-- the state at a def's entry -/
theorem sta0 {N : List Str} {W : Addr → Prop} {H : Hp} {vs : List V} {ds : List PyData} (hW : ∀ a, W a → ∃ o, H a = some o) (hd : DpAll K (less H W) vs ds) (b : Bag) : Sta K W none (fun _ => 0) H H (L2.start N vs) (frame N.length ds) b := by
  have no : ∀ (i : Nat) (xs : List PyData), (frame N.length ds)[i]? ≠ some (En.own xs) := fun i xs h => by
    rcases frame_get h with ⟨d, _, e⟩ | ⟨_, e⟩ <;> cases e
  have zz : ∀ a, Zs W none (fun _ => 0) (frame N.length ds) a → W a := by
    rintro a (z | ⟨i, xs, g, _⟩ | ⟨b, c, z, _⟩)
    · exact z
    · exact absurd g (no i xs)
    · cases z
  refine ⟨?_, fun i e h => ?_, fun i j xs ys g => absurd g (no i xs), fun i xs g => absurd g (no i xs), fun a o h _ => h, trivial, hW⟩
  · rw [start_len, dpa_len hd]
    unfold frame
    rw [List.length_append, List.length_map, List.length_replicate]
  · rcases frame_get h with ⟨d, hi, rfl⟩ | ⟨hi, rfl⟩
    · obtain ⟨v, hv, dv⟩ := dpa_get hd hi
      exact ⟨some v, start_get hv, v, rfl, dp_mono (less_sub zz) dv⟩
    · have il : i < (L2.start N vs).length := by
        rw [start_len, dpa_len hd]
        have := (List.getElem?_eq_some_iff.mp h).1
        unfold frame at this
        rw [List.length_append, List.length_map, List.length_replicate] at this
        exact this
      exact ⟨(L2.start N vs)[i], List.getElem?_eq_getElem il, trivial⟩
/-- a def of data -/
theorem okP {x qual : Str} {st : Stmt} {f : Addr} {fd : FuncData} {N ps : List Str} {k : Nat} {P : List PyData → PyData → Prop} (F : Fun K x qual st f fd) (S : FnScope N ps (defScope st)) (hl : ∀ ds r, P ds r → ds.length = ps.length)
    (hb : ∀ ds r, P ds r → ∀ (cdv : Value) (A : Around) (outer : List Env) (sh : Shared) (H : Hp) (E : XK), Room k (A.deeper (envOfC qual (defScope st) sh.heap.objs.size f cdv)) →
      ∃ t, PSs (cxOf CX0 Pg w K mg base N qual (defScope st) f cdv A outer sh H E).nox (defBody st) t ∧ ∀ b, SG K t (frame N.length ds) b (.rt r b)) : FnOk Pg w K mg base CX0 (k + 1) f fd ps (spP K P) := by
  refine F.ok S (fun vs H Q E h => ?_) (fun cdv A outer sh H vs Q E hr h => ?_)
  · obtain ⟨W, ds, r, _, hd, hp, _⟩ := h
    rw [dpa_len hd]
    exact hl ds r hp
  · obtain ⟨W, ds, r, hW, hd, hp, q⟩ := h
    obtain ⟨t, ht, g⟩ := hb ds r hp cdv A outer sh H E hr
    refine ⟨t, ht, g ⟨[], 0, 0⟩ W none (fun _ => 0) H H _ _ (sta0 hW hd _) fun v H' e _ d => q v H' (fun a o h => e a o h (fun ⟨_, _, z, _⟩ => by cases z)) (dp_mono (less_sub fun a z => .inl z) d)⟩
/-! ### the law itself: the script, the bag made of it, the rest -/
def bag0 (ns : List Int) : Bag := ⟨ns, 0, 20011⟩
def spBag (K : Fg) : Sp := fun vs H Q _ => ∃ (W : Addr → Prop) (ns : List Int), (∀ a, W a → ∃ o, H a = some o) ∧ DpAll K (less H W) vs [.list (ns.map PyData.int)] ∧ ns.length ≤ 63 ∧
  ∀ b c H', Ex H H' → H b = none → H c = none → BagAt H' (some (b, c)) (bag0 ns) → Q (.ref b) H'
def PLaw : List PyData → PyData → Prop := fun ds r => ∃ ns : List Int, ds = [.list (ns.map PyData.int)] ∧ ns.length ≤ 63 ∧ r = .bool true
end
end U

end
section
namespace U
open PySem PyProof.Rows L2 Evl
/-! ### the mathematics of fractions -/
abbrev Fr := Int × Int
abbrev fr (p : Fr) : PyData := .tuple [.int p.1, .int p.2]
def gN (a b : Int) : Nat := max (Nat.gcd a.natAbs b.natAbs) 1
def gI (a b : Int) : Int := (gN a b : Int)
theorem gI_pos (a b : Int) : 0 < gI a b := by
  unfold gI gN
  have : 1 ≤ max (Nat.gcd a.natAbs b.natAbs) 1 := Nat.le_max_right _ _
  omega
/-- the states of Euclid's loop -/
def eu (x y : Nat) : Nat → Nat × Nat
  | 0 => (x, y)
  | i + 1 => ((eu x y i).2, (eu x y i).1 % (eu x y i).2)
theorem eu_shift (x y : Nat) : ∀ i, eu x y (i + 1) = eu y (x % y) i
  | 0 => rfl
  | i + 1 => by
    show ((eu x y (i + 1)).2, (eu x y (i + 1)).1 % (eu x y (i + 1)).2) = _
    rw [eu_shift x y i]
    rfl
theorem eu_end : ∀ (y x : Nat), ∃ n, eu x y n = (Nat.gcd x y, 0) ∧ ∀ i, i < n → 0 < (eu x y i).2 := fun y => by
  induction y using Nat.strongRecOn with
  | ind y ih =>
    intro x
    by_cases hy : y = 0
    · subst hy
      exact ⟨0, by show (x, 0) = _; rw [Nat.gcd_zero_right], fun i hi => absurd hi (Nat.not_lt_zero _)⟩
    · obtain ⟨n, h1, h2⟩ := ih (x % y) (Nat.mod_lt _ (Nat.pos_of_ne_zero hy)) y
      refine ⟨n + 1, ?_, fun i hi => ?_⟩
      · rw [eu_shift, h1, Nat.gcd_comm x y, Nat.gcd_rec y x]
        rw [Nat.gcd_comm]
      · cases i with
        | zero => exact Nat.pos_of_ne_zero hy
        | succ i =>
          rw [eu_shift]
          exact h2 i (by omega)
theorem fmod_nat (a b : Nat) : Int.fmod (a : Int) (b : Int) = ((a % b : Nat) : Int) := by
  rw [Int.fmod_eq_emod_of_nonneg _ (Int.natCast_nonneg b)]
  rfl
theorem absI_nat (a : Int) : absI a = (a.natAbs : Int) := by
  unfold absI
  split <;> omega
def Bd (n : Nat) (a : Int) : Prop := a.natAbs < 2 ^ n
def Sz (n : Nat) (p : Fr) : Prop := Bd n p.1 ∧ Bd n p.2
theorem Bd.mono {n m : Nat} {a : Int} (h : Bd n a) (l : n ≤ m) : Bd m a := Nat.lt_of_lt_of_le h (Nat.pow_le_pow_right (by decide) l)
theorem Sz.mono {n m : Nat} {p : Fr} (h : Sz n p) (l : n ≤ m) : Sz m p := ⟨h.1.mono l, h.2.mono l⟩
theorem Bd.mul {n m : Nat} {a b : Int} (ha : Bd n a) (hb : Bd m b) : Bd (n + m) (a * b) := wide_lt ha hb
theorem Bd.cm {n m : Nat} {a b : Int} (ha : Bd n a) (hb : Bd m b) (h : n + m + 2 ≤ 1000000) : CMulW a b :=
  wide_mul (ha.mono (Nat.le_succ n)) (hb.mono (Nat.le_succ m)) (Nat.succ_pos _) (Nat.succ_pos _) (by omega)
theorem Bd.add {n : Nat} {a b : Int} (ha : Bd n a) (hb : Bd n b) : Bd (n + 1) (a + b) := by
  unfold Bd at *
  rw [Nat.pow_succ]
  omega
theorem Bd.sub {n : Nat} {a b : Int} (ha : Bd n a) (hb : Bd n b) : Bd (n + 1) (a - b) := by
  unfold Bd at *
  rw [Nat.pow_succ]
  omega
theorem Bd.neg {n : Nat} {a : Int} (ha : Bd n a) : Bd n (-a) := by
  unfold Bd at *
  omega
theorem Bd.fdiv {n : Nat} {a : Int} (b : Int) (ha : Bd n a) : Bd n (a.fdiv b) := Nat.lt_of_le_of_lt (Int.natAbs_fdiv_le_natAbs a b) ha
theorem gN_le {n : Nat} {a b : Int} (ha : Bd n a) (hb : Bd n b) : gN a b ≤ 2 ^ n := by
  unfold gN
  have h1 : 1 ≤ 2 ^ n := Nat.one_le_two_pow
  refine Nat.max_le.mpr ⟨?_, h1⟩
  by_cases h0 : a.natAbs = 0
  · rw [h0, Nat.gcd_zero_left]
    exact Nat.le_of_lt hb
  · exact Nat.le_trans (Nat.gcd_le_left _ (Nat.pos_of_ne_zero h0)) (Nat.le_of_lt ha)
theorem Bd.g {n : Nat} {a b : Int} (ha : Bd n a) (hb : Bd n b) : Bd (n + 1) (gI a b) := by
  have h := gN_le ha hb
  have h1 : 1 ≤ 2 ^ n := Nat.one_le_two_pow
  unfold Bd gI
  rw [Nat.pow_succ, Int.natAbs_natCast]
  omega
theorem Bd.dv {n : Nat} {i j : Int} (h0 : j ≠ 0) (h : Bd n j) (hn : n ≤ 8000) : CDvX i j := by
  refine ⟨h0, ?_⟩
  have h2 : j.natAbs < 2 ^ (n + 1) := h.mono (Nat.le_succ n)
  have := PySem.Flt.log2_lt_of (Nat.succ_pos n) h2
  omega
/-! ### gcd, the law's own and the program's -/
theorem max_gN (a b : Int) : maxI 1 (Nat.gcd a.natAbs b.natAbs : Nat) = gI a b := by
  unfold maxI gI gN
  rw [Nat.max_def]
  split <;> split <;> omega
theorem gN_max (a b : Int) : maxI (Nat.gcd a.natAbs b.natAbs : Nat) 1 = gI a b := by
  unfold maxI gI gN
  rw [Nat.max_def]
  split <;> split <;> omega
def P_gcd : List PyData → PyData → Prop := fun ds r => ∃ a b : Int, ds = [.int a, .int b] ∧ r = .int (gI a b)
/-- above / below as the law makes it -/
def fracF (a b : Int) : Fr := (a.fdiv (if b < 0 then -gI a b else gI a b), b.fdiv (if b < 0 then -gI a b else gI a b))
def P_frac : List PyData → PyData → Prop := fun ds r => ∃ a b : Int, ds = [.int a, .int b] ∧ Bd 7990 a ∧ Bd 7990 b ∧ r = fr (fracF a b)
theorem Sz.frac {n : Nat} {a b : Int} (ha : Bd n a) (hb : Bd n b) : Sz n (fracF a b) := ⟨ha.fdiv _, hb.fdiv _⟩
def addF (p q : Fr) : Fr := fracF (p.1 * q.2 + q.1 * p.2) (p.2 * q.2)
theorem Sz.add {n m : Nat} {p q : Fr} (hp : Sz n p) (hq : Sz m q) : Sz (n + m + 1) (addF p q) :=
  Sz.frac (Bd.add (hp.1.mul hq.2) (by rw [Nat.add_comm n m]; exact hq.1.mul hp.2)) ((hp.2.mul hq.2).mono (Nat.le_succ _))
def P_add : List PyData → PyData → Prop := fun ds r => ∃ (n m : Nat) (p q : Fr), ds = [fr p, fr q] ∧ Sz n p ∧ Sz m q ∧ n + m ≤ 7800 ∧ r = fr (addF p q)
def sgn (i : Int) : Int := (if decide (0 < i) then 1 else 0) - (if decide (i < 0) then 1 else 0)
section
variable {K : Fg} {G G' G1 G2 : Gam} {s s1 s2 s3 s' : Bag} {ta tb tc te : TE} {t u : TT} {x y z : PyData} {E : XK}
theorem ev_fst {p : Fr} (h : EvG K te G s (fr p) s') : EvG K (tOp (rIx K) te (tC (.int 0))) G s (.int p.1) s' := ev_ixT h ev_int rfl
theorem ev_snd {p : Fr} (h : EvG K te G s (fr p) s') : EvG K (tOp (rIx K) te (tC (.int 1))) G s (.int p.2) s' := ev_ixT h ev_int rfl
theorem ev_gcd {a b : Int} (h1 : EvG K ta G s (.int a) s1) (h2 : EvG K tb G s1 (.int b) s2) : EvG K (tCall (spP K P_gcd) [] E (tCons ta (tCons tb tNil))) G s (.int (gI a b)) s2 :=
  ev_call (ea_cons h1 (ea_cons h2 ea_nil)) (fun _ => .nil) ⟨a, b, rfl, rfl⟩
theorem ev_fracN {a b : Int} (h1 : EvG K ta G s (.int a) s1) (h2 : EvG K tb G s1 (.int b) s2) (ha : Bd 7990 a) (hb : Bd 7990 b) : EvG K (tCall (spP K P_frac) [] E (tCons ta (tCons tb tNil))) G s (fr (fracF a b)) s2 :=
  ev_call (ea_cons h1 (ea_cons h2 ea_nil)) (fun _ => .nil) ⟨a, b, rfl, ha, hb, rfl⟩
end
theorem less_none {K : Fg} {H : Hp} {a : Addr} {xs : List V} (h : SqL K H a xs) : SqL K (less H fun _ => False) a xs := ex_l (fun a o h => less_of (fun z => z) h) h
def ordF (p q : Fr) : Int := b2i (decide (0 < p.1 * q.2 - q.1 * p.2)) - b2i (decide (p.1 * q.2 - q.1 * p.2 < 0))
def P_order : List PyData → PyData → Prop := fun ds r => ∃ p q : Fr, ds = [fr p, fr q] ∧ Sz 300000 p ∧ Sz 300000 q ∧ r = .int (ordF p q)
theorem ev_order {K : Fg} {G : Gam} {s s1 s2 : Bag} {ta tb : TE} {E : XK} {p q : Fr} (h1 : EvG K ta G s (fr p) s1) (h2 : EvG K tb G s1 (fr q) s2) (ha : Sz 300000 p) (hb : Sz 300000 q) : EvG K (tCall (spP K P_order) [] E (tCons ta (tCons tb tNil))) G s (.int (ordF p q)) s2 :=
  ev_call (ea_cons h1 (ea_cons h2 ea_nil)) (fun _ => .nil) ⟨p, q, rfl, ha, hb, rfl⟩
/-! ### draws -/
def cellOf (s : Bag) : Int := if s.cs.length = 0 then 0 else s.cs.getD (s.i.fmod s.cs.length).toNat 0
def pull (s : Bag) (n : Int) : Int × Bag :=
  if 0 < s.cs.length ∧ 1000000000000000000 ≤ absI (cellOf s) then ((cellOf s).fmod n, ⟨s.cs.set (s.i.fmod s.cs.length).toNat ((cellOf s).fdiv n), s.i, s.j⟩)
  else
    let j := (s.j * 48271 + (cellOf s).fmod 1000003 + (s.i + 1)).fmod 2147483647
    ((((j * 69621 + j.fdiv 65536).fmod 2147483629).fdiv 32).fmod n, ⟨s.cs, s.i + 1, j⟩)
def pullV (s : Bag) (n : Int) : Int := (pull s n).1
def pullS (s : Bag) (n : Int) : Bag := (pull s n).2
theorem fmod_range (a : Int) {n : Int} (h : 0 < n) : 0 ≤ a.fmod n ∧ a.fmod n < n := by
  rw [Int.fmod_eq_emod_of_nonneg _ (Int.le_of_lt h)]
  exact ⟨Int.emod_nonneg _ (by omega), Int.emod_lt_of_pos _ h⟩
theorem pullV_range (s : Bag) {n : Int} (h : 0 < n) : 0 ≤ pullV s n ∧ pullV s n < n := by
  unfold pullV pull
  split
  · exact fmod_range _ h
  · exact fmod_range _ h
theorem pullS_ok {s : Bag} (n : Int) (h : s.ok) : (pullS s n).ok := by
  obtain ⟨h1, h2, h3⟩ := h
  unfold pullS pull
  split
  · exact ⟨by show (List.set _ _ _).length ≤ 63; rw [List.length_set]; exact h1, h2, h3⟩
  · have := fmod_range (s.j * 48271 + (cellOf s).fmod 1000003 + (s.i + 1)) (n := 2147483647) (by decide)
    exact ⟨h1, this.1, this.2⟩
def P_pull : Bag → List PyData → PyData → Bag → Prop := fun s ds r s' => ∃ n : Int, ds = [.int n] ∧ 0 < n ∧ n < 1000000000000 ∧ r = .int (pullV s n) ∧ s' = pullS s n
section
variable {K : Fg} {G G' G1 G2 : Gam} {s s1 s2 s3 s' : Bag} {ta tb tc te : TE} {t u : TT} {x y z : PyData} {E : XK}
end
/-! ### drawn numbers -/
/-! ### alike: what is asked of a thing and itself -/
mutual
def okD : Nat → PyData → Bool
  | _, .none => true
  | _, .bool _ => true
  | _, .int _ => true
  | _, .str _ => true
  | 0, .list _ => false
  | 0, .tuple _ => false
  | n + 1, .list xs => decide (xs.length ≤ 1000000) && okAll n xs
  | n + 1, .tuple xs => decide (xs.length ≤ 1000000) && okAll n xs
  | _, .dict _ => false
def okAll : Nat → List PyData → Bool
  | _, [] => true
  | n, x :: xs => okD n x && okAll n xs
end
theorem okAll_get : ∀ {n : Nat} {xs : List PyData} {i : Nat} {x : PyData}, okAll n xs = true → xs[i]? = some x → okD n x = true
  | _, [], _, _, _, h => by simp at h
  | n, y :: xs, 0, x, h, e => by
    have e := Option.some.inj e
    subst e
    unfold okAll at h
    exact (Bool.and_eq_true_iff.mp h).1
  | n, y :: xs, i + 1, x, h, e => by
    unfold okAll at h
    exact okAll_get (i := i) (Bool.and_eq_true_iff.mp h).2 e
def P_like : Nat → List PyData → PyData → Prop
  | 0 => fun _ _ => False
  | n + 1 => fun ds r => ∃ x : PyData, ds = [x, x] ∧ okD n x = true ∧ r = .bool true
section
variable {K : Fg} {G G' G1 G2 : Gam} {s s1 s2 s3 s' : Bag} {ta tb tc te : TE} {t u : TT} {x y z : PyData} {E : XK}
theorem ev_like {n : Nat} (h1 : EvG K ta G s x s1) (h2 : EvG K tb G s1 y s2) (e : x = y) (hx : okD n y = true) : EvG K (tCall (spP K (P_like (n + 1))) [] E (tCons ta (tCons tb tNil))) G s (.bool true) s2 := by
  subst e
  exact ev_call (ea_cons h1 (ea_cons h2 ea_nil)) (fun _ => .nil) ⟨x, rfl, hx, rfl⟩
end
end U

end
section
namespace U
open PySem PyProof.Rows L2 Evl
/-! what plain data are -/
theorem okAll_of {n : Nat} : ∀ {xs : List PyData}, (∀ x ∈ xs, okD n x = true) → okAll n xs = true
  | [], _ => rfl
  | x :: xs, h => by
    unfold okAll
    rw [h x (List.mem_cons_self ..), okAll_of fun y hy => h y (List.mem_cons_of_mem _ hy)]
    rfl
theorem okD_tup {n : Nat} {xs : List PyData} (hl : xs.length ≤ 1000000) (h : ∀ x ∈ xs, okD n x = true) : okD (n + 1) (.tuple xs) = true := by
  unfold okD
  rw [decide_eq_true hl, okAll_of h]
  rfl
end U

end
section
namespace U
open PySem PyProof.Rows L2 Evl
/-- list + list, both of them only read -/
def rCatL (K : Fg) : R2 := fun x y H Q => ∃ a b xs ys, x = .ref a ∧ y = .ref b ∧ SqL K H a xs ∧ SqL K H b ys ∧ xs.length + ys.length ≤ sizeLine ∧ ∀ p, H p = none → Q (.ref p) (upd H p (.lst (xs ++ ys)))
section
variable {X : Cx}
theorem op_catL : OpR X (binaryOp .Add) (rCatL X.K) := by
  intro pins s σ H x y v u Q I rx ry h
  obtain ⟨l, b, xs, zs, rfl, rfl, hH, hB, hz, q⟩ := h
  cases rx
  cases ry
  obtain ⟨its, r, pl, hl⟩ := I.list hH
  obtain ⟨its2, r2, pl2, hl2⟩ := I.list hB
  have h1 := r.length
  have h2 := r2.length
  obtain ⟨⟨cls, dd, data, sl⟩, n, ho, hc, _, hd⟩ := pl
  obtain ⟨⟨cls2, dd2, data2, sl2⟩, n2, ho2, hc2, _, hd2⟩ := pl2
  simp only at hc hd hc2 hd2
  subst hc hd hc2 hd2
  refine concat_meets ⟨_, ho, rfl⟩ ⟨_, ho2, rfl⟩ noFill_list_add seq_list_add F.slot_list_add F.entry_list_add (F.args_list_add_2 _ _) (list_addW l b its.toArray its2.toArray n n2 dd dd2 sl sl2 (by rw [List.size_toArray, List.size_toArray]; omega)) ⟨ho, ho2, ?_⟩
  have ea : its.toArray ++ its2.toArray = (its ++ its2).toArray := by simp
  rw [ea]
  exact ⟨.ref _, _, I.lnew (t' := s.toks) (r.append r2) (by rw [List.length_append]; omega), rfl, q _ I.fresh⟩
end
section
variable {K : Fg} {G G1 G2 : Gam} {s s1 s2 s3 s' : Bag} {ta tb tc te : TE} {t u : TT} {x y z : PyData}
end
end U

end
section
namespace U
open PySem PyProof.Rows L2 Evl
section
variable {K : Fg} {G G1 G2 : Gam} {s s1 s2 s3 s' : Bag} {ta tb tc te : TE} {t u : TT} {x y z : PyData}
/-! ### in, not in: whole numbers -/
theorem inV_ints (i : Int) : ∀ ns : List Int, inV (.int i) (ns.map V.int) = ns.contains i
  | [] => rfl
  | n :: ns => by
    have ih := inV_ints i ns
    unfold inV at ih ⊢
    rw [List.map_cons, List.any_cons, ih, List.contains_cons]
    congr 1
    show (n == i) = (i == n)
    exact Bool.beq_comm
theorem flat_ints : ∀ ns : List Int, (ns.map V.int).all flatV = true
  | [] => rfl
  | n :: ns => by rw [List.map_cons, List.all_cons, flat_ints ns]; rfl
theorem ev_inT {i : Int} {ns : List Int} {neg : Bool} (ha : EvG K ta G s (.int i) s1) (hb : EvG K tb G s1 (.tuple (ns.map PyData.int)) s2) : EvG K (tOp (rIn K neg) ta tb) G s (.bool (if neg then !ns.contains i else ns.contains i)) s2 := fun W B ad H0 H σ S Q q =>
  ha W B ad H0 H σ S _ fun v H1 S1 e1 d1 => hb W B ad H0 H1 σ S1 _ fun w H2 S2 e2 d2 => by
    cases d1
    cases d2 with
    | tup g t =>
      have e := dpa_ints t
      subst e
      exact ⟨_, _, rfl, .inr (ex_t less_ex g), rfl, flat_ints ns, by rw [inV_ints]; exact q _ H2 S2 (e1.trans e2) (.bl _)⟩
/-! ### zip -/
theorem src_zipT {ta : TA} {xs ys : List PyData} (h : EvA K ta G s [.tuple xs, .tuple ys] s1) (hl : xs.length = ys.length) : Src K (RZ.iZipA K ta) G s (List.zipWith (fun x y => .tuple [x, y]) xs ys) s1 := fun W B ad H0 H σ S R q => h W B ad H0 H σ S _ fun vs H1 S1 e1 d1 => by
  obtain ⟨v, w, rfl, d, d2⟩ := dp2 d1
  cases d with
  | @tup a vs _ g t =>
    cases d2 with
    | @tup b ws _ g2 t2 =>
      refine ⟨a, b, vs, ws, rfl, .inr ⟨ex_t less_ex g, ex_t less_ex g2, q _ H1 S1 e1 fun H' Z hz e i => ?_⟩⟩
      have k1 : SqT K H' a vs := ex_t less_ex (ex_t e g)
      have k2 : SqT K H' b ws := ex_t less_ex (ex_t e g2)
      have l1 := dpa_len t
      have l2 := dpa_len t2
      have lz : (List.zipWith (fun x y => PyData.tuple [x, y]) xs ys).length = xs.length := by rw [List.length_zipWith]; omega
      refine ⟨fun d hd => ?_, fun hn => ⟨vs, ws, k1, k2, .inl (by rw [lz] at hn; omega)⟩, fun x H'' hy => ?_⟩
      · have hi := (List.getElem?_eq_some_iff.mp hd).1
        rw [lz] at hi
        obtain ⟨v, hv, _⟩ := dpa_get t (List.getElem?_eq_getElem hi)
        obtain ⟨w, hw, _⟩ := dpa_get t2 (List.getElem?_eq_getElem (i := i) (by omega))
        exact ⟨vs, ws, v, w, k1, k2, hv, hw⟩
      · obtain ⟨T, v, w, rfl, hn, rfl, f1, f2⟩ := hy
        have f1 := f1 vs k1
        have f2 := f2 ws k2
        have ex : Ex H' (upd H' T (.tup [v, w])) := Ex.new hn
        refine ⟨ex, fun d hd => ?_⟩
        rw [List.getElem?_zipWith] at hd
        obtain ⟨x1, hx1, dx⟩ := dpa_at t f1
        obtain ⟨y1, hy1, dy⟩ := dpa_at t2 f2
        rw [hx1, hy1] at hd
        cases hd
        have zn : ¬ Z T := fun z => by
          obtain ⟨o, h⟩ := hz T z
          rw [hn] at h; cases h
        exact .tup (st_of (less_of zn upd_same)) (.cons (dp_mono (e.trans (less_mono ex)) dx) (.cons (dp_mono (e.trans (less_mono ex)) dy) .nil))
/-! ### a comprehension that draws -/
end
end U

end
section
namespace U
open PySem PyProof.Rows L2 Evl
local macro_rules | `(tactic| walk_at "ev1") => `(tactic| first
  | exact ev_int | exact ev_bl | exact ev_str | exact ev_non | exact ev_var rfl | exact ea_nil | exact eo_none
  | with_reducible apply ev_ixDisp | with_reducible apply ev_fst | with_reducible apply ev_snd
  | with_reducible apply ev_add | with_reducible apply ev_sub | with_reducible apply ev_mul | with_reducible apply ev_fdiv | with_reducible apply ev_mod | with_reducible apply ev_pow
  | with_reducible apply ev_lt | with_reducible apply ev_le | with_reducible apply ev_gt | with_reducible apply ev_ge
  | with_reducible apply ev_eqI | with_reducible apply ev_neI
  | with_reducible apply ev_neg | with_reducible apply ev_subB | with_reducible apply ev_isNo | with_reducible apply ev_noNo
  | with_reducible apply ev_not | with_reducible apply et_test | with_reducible apply et_B | with_reducible apply et_not
  | with_reducible apply ev_abs | with_reducible apply ev_max | with_reducible apply ev_min | with_reducible apply ev_intB
  | with_reducible apply ev_gcd | with_reducible apply ev_frac | with_reducible apply ev_fadd | with_reducible apply ev_sign | with_reducible apply ev_cmpF
  | with_reducible apply ev_pull rfl
  | with_reducible apply ev_like
  | with_reducible apply ev_tup | with_reducible apply ev_lst | with_reducible apply ea_cons | with_reducible apply eo_some
  | with_reducible apply ev_order | exact ev_part rfl | exact ev_far rfl | exact ev_farPart rfl
  | (with_reducible show List.length _ ≤ 16000000; (simp; done)) | (with_reducible show (0 : Int) < _; decide) | (with_reducible show (_ : Int) < 1000000000000; decide) | (with_reducible show CPow _ _; (unfold CPow; decide)) | (with_reducible show CNz _ _; (unfold CNz; decide))
  | with_reducible apply sg_ret | with_reducible apply sg_asg | with_reducible apply sg_next)
local macro_rules | `(tactic| walk_at "ln") => `(tactic| first | walk_at "ev1" | with_reducible apply sg_seq)

section
variable {K : Fg}
def t_order (K : Fg) : TS := (tSeq (tAsg (tOp (rI0 fun i j => V.int (i - j)) (tOp (rI CMulW fun i j => V.int (i * j)) (tOp (rIx K) (tVar 0) (tC (V.int 0))) (tOp (rIx K) (tVar 1) (tC (V.int 1)))) (tOp (rI CMulW fun i j => V.int (i * j)) (tOp (rIx K) (tVar 1) (tC (V.int 0))) (tOp (rIx K) (tVar 0) (tC (V.int 1))))) (gName 2))
  (tRet (tOp rSubB (tOp (rI0 fun i j => V.bl (decide (j < i))) (tVar 2) (tC (V.int 0))) (tOp (rI0 fun i j => V.bl (decide (i < j))) (tVar 2) (tC (V.int 0))))))
-- slots of order: 0 one, 1 other, 2 gap
theorem ln_order : ∀ ds r, P_order ds r → ds.length = 2 := fun ds r h => by obtain ⟨p, q, rfl, _⟩ := h; rfl
theorem rd_order {ds r} (h : P_order ds r) (b : Bag) : SG K (t_order K) (frame 3 ds) b (.rt r b) := by
  obtain ⟨p, q, rfl, hp, hq, rfl⟩ := h
  unfold t_order
  apply sg_is
  (repeat' walk_at "ln")
  all_goals first | exact Bd.cm hp.1 hq.2 (by decide) | exact Bd.cm hq.1 hp.2 (by decide) | rfl
def t__law_gcd (K : Fg) : TS := (tSeq (tAsg (tCB rAbs (tCons (tVar 0) tNil)) (gName 0))
  (tSeq (tAsg (tCB rAbs (tCons (tVar 1) tNil)) (gName 1))
  (tSeq (tWhile (tTest (tOp (rI0 fun i j => V.bl (decide (j < i))) (tVar 1) (tC (V.int 0)))) (tSeq (tAsg (tVar 1) (gName 2))
  (tSeq (tAsg (tOp (rI CNz fun i j => V.int (i.fmod j)) (tVar 0) (tVar 1)) (gName 1))
  (tAsg (tVar 2) (gName 0)))))
  (tRet (tCB rMx (tCons (tC (V.int 1)) (tCons (tVar 0) tNil)))))))
-- slots of _law_gcd: 0 _law_one, 1 _law_other, 2 _law_kept
theorem ln__law_gcd : ∀ ds r, P_gcd ds r → ds.length = 2 := fun ds r h => by obtain ⟨p, q, rfl, _⟩ := h; rfl
theorem rd__law_gcd {ds r} (h : P_gcd ds r) (b : Bag) : SG K (t__law_gcd K) (frame 3 ds) b (.rt r b) := by
  obtain ⟨x, y, rfl, rfl⟩ := h
  unfold t__law_gcd
  obtain ⟨n, h1, h2⟩ := eu_end y.natAbs x.natAbs
  apply sg_is
  apply sg_seq
  (repeat' walk_at "ev1")
  apply sg_seq
  (repeat' walk_at "ev1")
  apply sg_seq
  · refine sg_while (s' := b) (fun i => [.d (.int (eu x.natAbs y.natAbs i).1), .d (.int (eu x.natAbs y.natAbs i).2), .un]) (fun _ => b) (fun _ => b) n ?_ rfl (fun i hi => ?_) (fun i hi => .inl ?_) ?_
    · show Wk [.d (.int (absI x)), .d (.int (absI y)), .un] _
      rw [absI_nat, absI_nat]
      exact .refl _
    · refine et_is (by (repeat' walk_at "ev1")) ?_
      have := h2 i hi
      simp; omega
    · have hy := h2 i hi
      refine sg_wk (G1 := [.d (.int (eu x.natAbs y.natAbs (i + 1)).1), .d (.int (eu x.natAbs y.natAbs (i + 1)).2), .d (.int (eu x.natAbs y.natAbs i).2)]) ?_ (.cons (.cons (.drop .nil)))
      apply sg_is
      (repeat' walk_at "ln")
      · show ((eu x.natAbs y.natAbs i).2 : Int) ≠ 0
        omega
      · rw [fmod_nat]
        rfl
    · refine et_is (by (repeat' walk_at "ev1")) ?_
      rw [h1]
      rfl
  · rw [h1]
    (repeat' walk_at "ev1")
  · show Out.rt (.int (maxI 1 _)) b = _
    rw [max_gN]
def t__law_frac (K : Fg) : TS := (tSeq (tAsg (tCall (spP K P_gcd) [] E0 (tCons (tVar 0) (tCons (tVar 1) tNil))) (gName 2))
  (tSeq (tIfS (tTest (tOp (rI0 fun i j => V.bl (decide (i < j))) (tVar 1) (tC (V.int 0)))) (tAsg (tUn (rU fun i => V.int (-i)) (tVar 2)) (gName 2)) tNext)
  (tRet (tTup (tCons (tOp (rI CDvX fun i j => V.int (i.fdiv j)) (tVar 0) (tVar 2)) (tCons (tOp (rI CDvX fun i j => V.int (i.fdiv j)) (tVar 1) (tVar 2)) tNil))))))
-- slots of _law_frac: 0 _law_above, 1 _law_below, 2 _law_divisor
theorem ln__law_frac : ∀ ds r, P_frac ds r → ds.length = 2 := fun ds r h => by obtain ⟨p, q, rfl, _⟩ := h; rfl
theorem rd__law_frac {ds r} (h : P_frac ds r) (b : Bag) : SG K (t__law_frac K) (frame 3 ds) b (.rt r b) := by
  obtain ⟨x, y, rfl, hx, hy, rfl⟩ := h
  unfold t__law_frac
  have hg := gI_pos x y
  have hb : Bd 7991 (gI x y) := Bd.g hx hy
  apply sg_seq
  (repeat' walk_at "ev1")
  apply sg_when
  (repeat' walk_at "ev1")
  · intro h
    have h := of_decide_eq_true h
    apply sg_is
    (repeat' walk_at "ln")
    · exact Bd.dv (by omega) hb.neg (by decide)
    · exact Bd.dv (by omega) hb.neg (by decide)
    · show Out.rt (fr (x.fdiv (-gI x y), y.fdiv (-gI x y))) b = Out.rt (fr (fracF x y)) b
      unfold fracF
      rw [if_pos h]
  · intro h
    have h := of_decide_eq_false h
    apply sg_is
    (repeat' walk_at "ln")
    · exact Bd.dv (by omega) hb (by decide)
    · exact Bd.dv (by omega) hb (by decide)
    · show Out.rt (fr (x.fdiv (gI x y), y.fdiv (gI x y))) b = Out.rt (fr (fracF x y)) b
      unfold fracF
      rw [if_neg h]
def t__law_add (K : Fg) : TS := (tRet (tCall (spP K P_frac) [] E0 (tCons (tOp (rI0 fun i j => V.int (i + j)) (tOp (rI CMulW fun i j => V.int (i * j)) (tOp (rIx K) (tVar 0) (tC (V.int 0))) (tOp (rIx K) (tVar 1) (tC (V.int 1)))) (tOp (rI CMulW fun i j => V.int (i * j)) (tOp (rIx K) (tVar 1) (tC (V.int 0))) (tOp (rIx K) (tVar 0) (tC (V.int 1))))) (tCons (tOp (rI CMulW fun i j => V.int (i * j)) (tOp (rIx K) (tVar 0) (tC (V.int 1))) (tOp (rIx K) (tVar 1) (tC (V.int 1)))) tNil))))
-- slots of _law_add: 0 _law_one, 1 _law_other
theorem ln__law_add : ∀ ds r, P_add ds r → ds.length = 2 := fun ds r h => by obtain ⟨_, _, p, q, rfl, _⟩ := h; rfl
theorem rd__law_add {ds r} (h : P_add ds r) (b : Bag) : SG K (t__law_add K) (frame 2 ds) b (.rt r b) := by
  obtain ⟨n, m, p, q, rfl, hp, hq, hl, rfl⟩ := h
  exact sg_ret (ev_fracN (ev_add (ev_mul (ev_fst (ev_var rfl)) (ev_snd (ev_var rfl)) (hp.1.cm hq.2 (by omega))) (ev_mul (ev_fst (ev_var rfl)) (ev_snd (ev_var rfl)) (hq.1.cm hp.2 (by omega)))) (ev_mul (ev_snd (ev_var rfl)) (ev_snd (ev_var rfl)) (hp.2.cm hq.2 (by omega)))
    ((Bd.add (hp.1.mul hq.2) (by rw [Nat.add_comm n m]; exact hq.1.mul hp.2)).mono (by omega)) ((hp.2.mul hq.2).mono (by omega)))
-- slots of _law_sign: 0 _law_number
-- slots of _law_cmp: 0 _law_one, 1 _law_other
-- slots of _law_part: 0 _law_bag_here
-- slots of _law_far: 0 _law_bag_here
-- slots of _law_far_part: 0 _law_bag_here
def t__law_pull (K : Fg) : TS := (tSeq (tAsg (tOp (rIx K) (tVar 0) (tC (V.int 0))) (gName 2))
  (tSeq (tAsg (tC (V.int 0)) (gName 3))
  (tSeq (tIfS (tTest (tOp (rI0 fun i j => V.bl (decide (j < i))) (tCB (rLenQ K) (tCons (tVar 2) tNil)) (tC (V.int 0)))) (tSeq (tAsg (tOp (rI CNz fun i j => V.int (i.fmod j)) (tOp (rIx K) (tVar 0) (tC (V.int 1))) (tCB (rLenQ K) (tCons (tVar 2) tNil))) (gName 4))
  (tSeq (tAsg (tOp (rIx K) (tVar 2) (tVar 4)) (gName 3))
  (tIfS (tTest (tOp (rI0 fun i j => V.bl (decide (j ≤ i))) (tCB rAbs (tCons (tVar 3) tNil)) (tOp (rI CPow fun i j => V.int (i ^ j.toNat)) (tC (V.int 10)) (tC (V.int 18))))) (tSeq (tAsg (tOp (rI CDvX fun i j => V.int (i.fdiv j)) (tVar 3) (tVar 1)) (gSub (tVar 2) (tVar 4) rSetL))
  (tRet (tOp (rI CNz fun i j => V.int (i.fmod j)) (tVar 3) (tVar 1)))) tNext))) tNext)
  (tSeq (tAsg (tOp (rI0 fun i j => V.int (i + j)) (tOp (rIx K) (tVar 0) (tC (V.int 1))) (tC (V.int 1))) (gSub (tVar 0) (tC (V.int 1)) rSetL))
  (tSeq (tAsg (tOp (rI CNz fun i j => V.int (i.fmod j)) (tOp (rI0 fun i j => V.int (i + j)) (tOp (rI0 fun i j => V.int (i + j)) (tOp (rI CMulW fun i j => V.int (i * j)) (tOp (rIx K) (tVar 0) (tC (V.int 2))) (tC (V.int 48271))) (tOp (rI CNz fun i j => V.int (i.fmod j)) (tVar 3) (tC (V.int 1000003)))) (tOp (rIx K) (tVar 0) (tC (V.int 1)))) (tC (V.int 2147483647))) (gSub (tVar 0) (tC (V.int 2)) rSetL))
  (tRet (tOp (rI CNz fun i j => V.int (i.fmod j)) (tOp (rI CDvX fun i j => V.int (i.fdiv j)) (tOp (rI CNz fun i j => V.int (i.fmod j)) (tOp (rI0 fun i j => V.int (i + j)) (tOp (rI CMulW fun i j => V.int (i * j)) (tOp (rIx K) (tVar 0) (tC (V.int 2))) (tC (V.int 69621))) (tOp (rI CDvX fun i j => V.int (i.fdiv j)) (tOp (rIx K) (tVar 0) (tC (V.int 2))) (tC (V.int 65536)))) (tC (V.int 2147483629))) (tC (V.int 32))) (tVar 1))))))))
-- slots of _law_pull: 0 _law_bag_here, 1 _law_size, 2 _law_cells, 3 _law_cell, 4 _law_spot
theorem ln__law_pull : ∀ s ds r s', P_pull s ds r s' → ds.length + 1 = 2 := fun s ds r s' h => by obtain ⟨n, rfl, _⟩ := h; rfl
theorem bag_ne {H : Hp} {b c : Addr} {s : Bag} (h : BagAt H (some (b, c)) s) : b ≠ c := fun e => by
  have h1 := h.1
  have h2 := h.2.1
  rw [e, h2] at h1
  have h3 := HO.lst.inj (Option.some.inj h1)
  cases hc : s.cs with
  | nil => rw [hc] at h3; cases h3
  | cons x r => rw [hc] at h3; cases h3
theorem rd_pullTail {D : Ends} {H : Hp} {b c : Addr} {s : Bag} {cell n : Int} {x4 : Option V} (hB : BagAt H (some (b, c)) s) (h0 : 0 < n)
    (q : ∀ H', (∀ a o, H a = some o → ¬ InB (some (b, c)) a → H' a = some o) → BagAt H' (some (b, c)) ⟨s.cs, s.i + 1, (s.j * 48271 + cell.fmod 1000003 + (s.i + 1)).fmod 2147483647⟩ →
      D.rt (.int (((((s.j * 48271 + cell.fmod 1000003 + (s.i + 1)).fmod 2147483647) * 69621 + ((s.j * 48271 + cell.fmod 1000003 + (s.i + 1)).fmod 2147483647).fdiv 65536).fmod 2147483629).fdiv 32 |>.fmod n)) H') :
    (tSeq (tAsg (tOp (rI0 fun i j => V.int (i + j)) (tOp (rIx K) (tVar 0) (tC (V.int 1))) (tC (V.int 1))) (gSub (tVar 0) (tC (V.int 1)) rSetL))
  (tSeq (tAsg (tOp (rI CNz fun i j => V.int (i.fmod j)) (tOp (rI0 fun i j => V.int (i + j)) (tOp (rI0 fun i j => V.int (i + j)) (tOp (rI CMulW fun i j => V.int (i * j)) (tOp (rIx K) (tVar 0) (tC (V.int 2))) (tC (V.int 48271))) (tOp (rI CNz fun i j => V.int (i.fmod j)) (tVar 3) (tC (V.int 1000003)))) (tOp (rIx K) (tVar 0) (tC (V.int 1)))) (tC (V.int 2147483647))) (gSub (tVar 0) (tC (V.int 2)) rSetL))
  (tRet (tOp (rI CNz fun i j => V.int (i.fmod j)) (tOp (rI CDvX fun i j => V.int (i.fdiv j)) (tOp (rI CNz fun i j => V.int (i.fmod j)) (tOp (rI0 fun i j => V.int (i + j)) (tOp (rI CMulW fun i j => V.int (i * j)) (tOp (rIx K) (tVar 0) (tC (V.int 2))) (tC (V.int 69621))) (tOp (rI CDvX fun i j => V.int (i.fdiv j)) (tOp (rIx K) (tVar 0) (tC (V.int 2))) (tC (V.int 65536)))) (tC (V.int 2147483629))) (tC (V.int 32))) (tVar 1))))) D
    [some (.ref b), some (.int n), some (.ref c), some (.int cell), x4] H := by
  obtain ⟨hb, hc, h1, h2, h3⟩ := id hB
  have nbc : b ≠ c := bag_ne hB
  have mulj : ∀ {x y : Int}, 0 ≤ x → x < 2147483647 → Bd 40 y → CMulW x y := fun {x y} a b c => Bd.cm (n := 31) (m := 40) (by unfold Bd; omega) c (by decide)
  generalize hj : (s.j * 48271 + cell.fmod 1000003 + (s.i + 1)).fmod 2147483647 = j at q
  have hjr : 0 ≤ j ∧ j < 2147483647 := by rw [← hj]; exact fmod_range _ (by decide)
  -- bag[1] = bag[1] + 1
  refine ⟨_, rfl, .inl ⟨b, _, 1, .int s.i, rfl, rfl, sq_of hb, rfl, _, _, rfl, rfl, _, rfl, b, _, 1, 1, rfl, rfl, hb, rfl, ?_⟩⟩
  -- bag[2] = ..
  refine ⟨_, rfl, .inl ⟨b, _, 2, .int s.j, rfl, rfl, sq_of upd_same, rfl, _, _, rfl, rfl, mulj h2 h3 (by unfold Bd; decide), _, rfl, _, _, rfl, rfl, (by show (1000003 : Int) ≠ 0; decide), _, _, rfl, rfl, _, rfl, .inl ⟨b, _, 1, .int (s.i + 1), rfl, rfl, sq_of upd_same, rfl, _, _, rfl, rfl, _, _, rfl, rfl, (by show (2147483647 : Int) ≠ 0; decide), _, rfl, b, _, 2, 2, rfl, rfl, upd_same, rfl, ?_⟩⟩⟩
  dsimp only
  rw [hj]
  -- return
  refine ⟨_, rfl, .inl ⟨b, _, 2, .int j, rfl, rfl, sq_of upd_same, rfl, _, _, rfl, rfl, mulj hjr.1 hjr.2 (by unfold Bd; decide), _, rfl, .inl ⟨b, _, 2, .int j, rfl, rfl, sq_of upd_same, rfl, _, _, rfl, rfl, ⟨by decide, by decide⟩, _, _, rfl, rfl, _, _, rfl, rfl, (by show (2147483629 : Int) ≠ 0; decide), _, _, rfl, rfl, ⟨by decide, by decide⟩, _, rfl, _, _, rfl, rfl, ?_, ?_⟩⟩⟩
  · show n ≠ 0
    omega
  · refine q _ (fun a o h z => ?_) ⟨upd_same, ?_, h1, hjr.1, hjr.2⟩
    · have na : a ≠ b := fun e => z ⟨b, c, rfl, .inl e⟩
      rw [upd_ne na, upd_ne na]; exact h
    · rw [upd_ne nbc.symm, upd_ne nbc.symm]; exact hc
theorem rd__law_pull {D : Ends} {W : Addr → Prop} {H : Hp} {b c : Addr} {s : Bag} {n : Int} (hB : BagAt H (some (b, c)) s) (h0 : 0 < n) (h1 : n < 1000000000000)
    (q : ∀ (v : V) (H' : Hp), (∀ (a : Addr) (o : HO), H a = some o → ¬InB (some (b, c)) a → H' a = some o) → BagAt H' (some (b, c)) (pullS s n) → Dp K (less H' fun a => W a ∨ InB (some (b, c)) a) v (PyData.int (pullV s n)) → D.rt v H') :
    t__law_pull K D [some (.ref b), some (.int n), none, none, none] H := by
  obtain ⟨hb, hc, k1, k2, k3⟩ := id hB
  have nbc : b ≠ c := bag_ne hB
  unfold t__law_pull
  refine ⟨_, rfl, .inl ⟨b, _, 0, .ref c, rfl, rfl, sq_of hb, rfl, ?_⟩⟩
  have lc : SqL K H c (s.cs.map V.int) := sq_of hc
  refine ⟨_, rfl, c, _, rfl, .inl lc, _, _, rfl, rfl, _, rfl, ?_⟩
  rw [List.length_map]
  refine ite2 (fun h => ?_) (fun h => ?_)
  · have hl : 0 < s.cs.length := by have := of_decide_eq_true h; omega
    have hsp := fmod_range s.i (n := (s.cs.length : Int)) (by omega)
    obtain ⟨k, hk⟩ : ∃ k : Nat, s.i.fmod s.cs.length = (k : Int) := ⟨(s.i.fmod s.cs.length).toNat, by omega⟩
    have kl : k < s.cs.length := by omega
    have gk : (s.cs.map V.int)[k]? = some (.int s.cs[k]) := by rw [List.getElem?_map, List.getElem?_eq_getElem kl]; rfl
    have ec : cellOf s = s.cs[k] := by
      unfold cellOf
      rw [if_neg (by omega), hk, Int.toNat_natCast, List.getD_eq_getElem?_getD, List.getElem?_eq_getElem kl]
      rfl
    refine ⟨_, rfl, .inl ⟨b, _, 1, .int s.i, rfl, rfl, sq_of hb, rfl, _, rfl, c, _, rfl, .inl lc, _, _, rfl, rfl, ?_, ?_⟩⟩
    · show ((s.cs.map V.int).length : Int) ≠ 0
      rw [List.length_map]; omega
    rw [List.length_map]
    dsimp only
    rw [hk]
    refine ⟨_, rfl, _, rfl, .inl ⟨c, _, (k : Int), _, rfl, rfl, lc, atI_nat gk, ?_⟩⟩
    refine ⟨_, rfl, _, rfl, _, _, rfl, rfl, (by unfold CPow; decide), _, _, rfl, rfl, _, rfl, ?_⟩
    have e18 : (10 : Int) ^ (18 : Int).toNat = 1000000000000000000 := by decide
    rw [e18]
    refine ite2 (fun h2 => ?_) (fun h2 => ?_)
    · have hbig : 1000000000000000000 ≤ absI (cellOf s) := by
        rw [ec]; exact of_decide_eq_true h2
      have ep : pull s n = ((cellOf s).fmod n, ⟨s.cs.set k ((cellOf s).fdiv n), s.i, s.j⟩) := by
        unfold pull
        rw [if_pos ⟨hl, hbig⟩, hk, Int.toNat_natCast]
      refine ⟨_, rfl, _, rfl, _, _, rfl, rfl, ⟨by omega, ?_⟩, _, rfl, _, rfl, c, _, (k : Int), k, rfl, rfl, hc, ?_, ?_⟩
      · have : n.natAbs < 2 ^ 40 := by omega
        have := PySem.Flt.log2_lt_of (by decide) this
        omega
      · exact ixN_nat (by rw [List.length_map]; exact kl)
      · refine ⟨_, rfl, _, rfl, _, _, rfl, rfl, (by show n ≠ 0; omega), ?_⟩
        refine q _ _ (fun a o h z => ?_) ?_ ?_
        · rw [upd_ne (fun e => z ⟨b, c, rfl, .inr e⟩)]; exact h
        · unfold pullS
          rw [ep]
          refine ⟨by rw [upd_ne nbc]; exact hb, ?_, by rw [List.length_set]; exact k1, k2, k3⟩
          rw [upd_same, List.map_set, ec]
        · unfold pullV
          rw [ep, ec]
          exact .int _
    · have hbig : ¬ 1000000000000000000 ≤ absI (cellOf s) := fun z => h2 (decide_eq_true (by rw [ec] at z; exact z))
      refine rd_pullTail hB h0 fun H' e hB' => ?_
      have ep : pull s n = (((((s.j * 48271 + (cellOf s).fmod 1000003 + (s.i + 1)).fmod 2147483647) * 69621 + ((s.j * 48271 + (cellOf s).fmod 1000003 + (s.i + 1)).fmod 2147483647).fdiv 65536).fmod 2147483629).fdiv 32 |>.fmod n, ⟨s.cs, s.i + 1, (s.j * 48271 + (cellOf s).fmod 1000003 + (s.i + 1)).fmod 2147483647⟩) := by
        unfold pull
        rw [if_neg (fun z => hbig z.2)]
      refine q _ _ e ?_ ?_
      · unfold pullS
        rw [ep, ec]; exact hB'
      · unfold pullV
        rw [ep, ec]; exact .int _
  · have hl : s.cs.length = 0 := by
      have := of_decide_eq_false (eq_false_of_ne_true h)
      omega
    have ec : cellOf s = 0 := by unfold cellOf; rw [if_pos hl]
    refine rd_pullTail hB h0 fun H' e hB' => ?_
    have ep : pull s n = (((((s.j * 48271 + (cellOf s).fmod 1000003 + (s.i + 1)).fmod 2147483647) * 69621 + ((s.j * 48271 + (cellOf s).fmod 1000003 + (s.i + 1)).fmod 2147483647).fdiv 65536).fmod 2147483629).fdiv 32 |>.fmod n, ⟨s.cs, s.i + 1, (s.j * 48271 + (cellOf s).fmod 1000003 + (s.i + 1)).fmod 2147483647⟩) := by
      unfold pull
      rw [if_neg (fun z => by omega)]
    refine q _ _ e ?_ ?_
    · unfold pullS
      rw [ep, ec]; exact hB'
    · unfold pullV
      rw [ep, ec]; exact .int _
end
end U


end
section
namespace U
open PySem PyProof.Rows L2 Evl
theorem kit_NoneType_bool : kitB "NoneType" "bool" = some false := by decide +kernel
theorem kit_NoneType_int : kitB "NoneType" "int" = some false := by decide +kernel
theorem kit_NoneType_str : kitB "NoneType" "str" = some false := by decide +kernel
theorem kit_NoneType_list : kitB "NoneType" "list" = some false := by decide +kernel
theorem kit_NoneType_tuple : kitB "NoneType" "tuple" = some false := by decide +kernel
theorem kit_bool_bool : kitB "bool" "bool" = some true := by decide +kernel
theorem kit_bool_int : kitB "bool" "int" = some true := by decide +kernel
theorem kit_bool_list : kitB "bool" "list" = some false := by decide +kernel
theorem kit_bool_tuple : kitB "bool" "tuple" = some false := by decide +kernel
theorem kit_int_bool : kitB "int" "bool" = some false := by decide +kernel
theorem kit_int_int : kitB "int" "int" = some true := by decide +kernel
theorem kit_int_list : kitB "int" "list" = some false := by decide +kernel
theorem kit_int_tuple : kitB "int" "tuple" = some false := by decide +kernel
theorem kit_str_bool : kitB "str" "bool" = some false := by decide +kernel
theorem kit_str_int : kitB "str" "int" = some false := by decide +kernel
theorem kit_str_str : kitB "str" "str" = some true := by decide +kernel
theorem kit_str_list : kitB "str" "list" = some false := by decide +kernel
theorem kit_str_tuple : kitB "str" "tuple" = some false := by decide +kernel
theorem kit_list_bool : kitB "list" "bool" = some false := by decide +kernel
theorem kit_list_int : kitB "list" "int" = some false := by decide +kernel
theorem kit_list_list : kitB "list" "list" = some true := by decide +kernel
theorem kit_list_tuple : kitB "list" "tuple" = some false := by decide +kernel
theorem kit_tuple_bool : kitB "tuple" "bool" = some false := by decide +kernel
theorem kit_tuple_int : kitB "tuple" "int" = some false := by decide +kernel
theorem kit_tuple_list : kitB "tuple" "list" = some false := by decide +kernel
theorem kit_tuple_tuple : kitB "tuple" "tuple" = some true := by decide +kernel
local macro_rules | `(tactic| walk_at "ev1") => `(tactic| first
  | exact ev_int | exact ev_bl | exact ev_str | exact ev_non | exact ev_var rfl | exact ea_nil | exact eo_none
  | with_reducible apply ev_ixDisp | with_reducible apply ev_fst | with_reducible apply ev_snd
  | with_reducible apply ev_add | with_reducible apply ev_sub | with_reducible apply ev_mul | with_reducible apply ev_fdiv | with_reducible apply ev_mod | with_reducible apply ev_pow
  | with_reducible apply ev_lt | with_reducible apply ev_le | with_reducible apply ev_gt | with_reducible apply ev_ge
  | with_reducible apply ev_eqI | with_reducible apply ev_neI
  | with_reducible apply ev_neg | with_reducible apply ev_subB | with_reducible apply ev_isNo | with_reducible apply ev_noNo
  | with_reducible apply ev_not | with_reducible apply et_test | with_reducible apply et_B | with_reducible apply et_not
  | with_reducible apply ev_abs | with_reducible apply ev_max | with_reducible apply ev_min | with_reducible apply ev_intB
  | with_reducible apply ev_gcd | with_reducible apply ev_frac | with_reducible apply ev_fadd | with_reducible apply ev_sign | with_reducible apply ev_cmpF
  | with_reducible apply ev_pull rfl
  | with_reducible apply ev_like
  | with_reducible apply ev_tup | with_reducible apply ev_lst | with_reducible apply ea_cons | with_reducible apply eo_some
  | with_reducible apply ev_order | exact ev_part rfl | exact ev_far rfl | exact ev_farPart rfl
  | (with_reducible show List.length _ ≤ 16000000; (simp; done)) | (with_reducible show (0 : Int) < _; decide) | (with_reducible show (_ : Int) < 1000000000000; decide) | (with_reducible show CPow _ _; (unfold CPow; decide)) | (with_reducible show CNz _ _; (unfold CNz; decide))
  | with_reducible apply sg_ret | with_reducible apply sg_asg | with_reducible apply sg_next)
local macro_rules | `(tactic| walk_at "ln") => `(tactic| first | walk_at "ev1" | with_reducible apply sg_seq)

section
variable {K : Fg}
theorem fnok_false {Pg : Program} {w : World} {mg : Str → Option Value} {base : Heap} {CX : CXT} {k : Nat} {f : Addr} {fd : FuncData} {ps : List Str} : FnOk Pg w K mg base CX k f fd ps (spP K fun _ _ => False) :=
  ⟨fun vs H Q E h => by obtain ⟨_, _, _, _, _, h, _⟩ := h; exact h.elim, fun A outer s H args us vs Q E _ _ _ _ h => by obtain ⟨_, _, _, _, _, h, _⟩ := h; exact h.elim⟩
/-! _law_bag -/
def t__law_bag (K : Fg) : TS := (tRet (tLst (tCons (tCB (rListQ K) (tCons (tSl (rSlL K) (tVar 0) tNoPart (tPart (tC (V.int 63)))) tNil)) (tCons (tC (V.int 0)) (tCons (tC (V.int 20011)) tNil)))))
-- slots of _law_bag: 0 _law_script
theorem cut63 {xs : List V} (h : xs.length ≤ 63) : cutV xs none (some 63) = xs := by
  unfold cutV
  rw [HT.sIx_none, show HT.sIx xs.length xs.length (some 63) = min 63 xs.length from HT.sIx_nat xs.length xs.length 63, Nat.min_eq_right h, List.drop_zero, Nat.sub_zero, List.take_length]
theorem rd__law_bag {D : Ends} {W : Addr → Prop} {H : Hp} {v : V} {ns : List Int} (hd : Dp K (less H W) v (.list (ns.map PyData.int))) (hl : ns.length ≤ 63)
    (q : ∀ b c H', Ex H H' → H b = none → H c = none → BagAt H' (some (b, c)) (bag0 ns) → D.rt (.ref b) H') : t__law_bag K D [some v] H := by
  cases hd with
  | @lst a vs _ g t =>
    have e := dpa_ints t
    subst e
    have g' : SqL K H a (ns.map V.int) := ex_l less_ex g
    have ll : (ns.map V.int).length ≤ 63 := by rw [List.length_map]; exact hl
    unfold t__law_bag
    refine ⟨.ref a, rfl, 63, rfl, a, _, rfl, g', fun p hp => ?_⟩
    rw [cut63 ll]
    refine ⟨p, _, rfl, .inl (sq_of upd_same), fun c hc => ?_⟩
    refine ⟨by show 3 ≤ sizeLine; decide, fun b hb => ?_⟩
    have e1 : Ex H (upd H p (.lst (ns.map V.int))) := Ex.new hp
    have e2 := e1.trans (Ex.new (o := .lst (ns.map V.int)) hc)
    have nbc : c ≠ b := fun z => by
      rw [← z, upd_same] at hb; cases hb
    refine q b c _ (e2.trans (Ex.new hb)) (fresh_back e2 hb) (fresh_back e1 hc) ⟨upd_same, ?_, hl, by show (0 : Int) ≤ 20011; decide, by show (20011 : Int) < 2147483647; decide⟩
    rw [upd_ne nbc, upd_same]
    rfl
/-! _law_like -/
def t__law_like (K : Fg) (n : Nat) : TS := (tSeq (tIfS (tB (tCB (rIsiT K) (tCons (tVar 1) (tCons (tTup (tCons (tC (V.ty "tuple")) (tCons (tC (V.ty "list")) tNil))) tNil)))) (tSeq (tIfS (tTest (tOp rNe (tCB (rIsi K) (tCons (tVar 0) (tCons (tC (V.ty "tuple")) tNil))) (tCB (rIsi K) (tCons (tVar 1) (tCons (tC (V.ty "tuple")) tNil))))) (tRet (tC (V.bl false))) tNext)
  (tSeq (tIfS (tOr (tNot (tB (tCB (rIsiT K) (tCons (tVar 0) (tCons (tTup (tCons (tC (V.ty "tuple")) (tCons (tC (V.ty "list")) tNil))) tNil))))) (tTest (tOp rNe (tCB (rLenQ K) (tCons (tVar 0) tNil)) (tCB (rLenQ K) (tCons (tVar 1) tNil))))) (tRet (tC (V.bl false))) tNext)
  (tRet (tCB (rAll K) (tCons (tLc (iRng1 (tCons (tCB (rLenQ K) (tCons (tVar 1) tNil)) tNil)) (gName 2) tYes (tCall (spP K (P_like n)) [] E0 (tCons (tOp (rIx K) (tVar 0) (tVar 2)) (tCons (tOp (rIx K) (tVar 1) (tVar 2)) tNil))) [2]) tNil))))) tNext)
  (tSeq (tIfS (tB (tCB (rIsi K) (tCons (tVar 1) (tCons (tC (V.ty "bool")) tNil)))) (tRet (tAndV (tCB (rIsi K) (tCons (tVar 0) (tCons (tC (V.ty "bool")) tNil))) (tOp rEq (tVar 0) (tVar 1)))) tNext)
  (tSeq (tIfS (tB (tCB (rIsi K) (tCons (tVar 1) (tCons (tC (V.ty "int")) tNil)))) (tRet (tAndV (tCB (rIsi K) (tCons (tVar 0) (tCons (tC (V.ty "int")) tNil))) (tAndV (tNotV (tCB (rIsi K) (tCons (tVar 0) (tCons (tC (V.ty "bool")) tNil)))) (tOp rEq (tVar 0) (tVar 1))))) tNext)
  (tSeq (tIfS (tB (tCB (rIsi K) (tCons (tVar 1) (tCons (tC (V.ty "str")) tNil)))) (tRet (tAndV (tCB (rIsi K) (tCons (tVar 0) (tCons (tC (V.ty "str")) tNil))) (tOp rEq (tVar 0) (tVar 1)))) tNext)
  (tRet (tAndV (tOp rIsNo (tVar 1) (tC V.non)) (tOp rIsNo (tVar 0) (tC V.non))))))))
-- slots of _law_like: 0 _law_found, 1 _law_due, 2 _law_at
theorem ln__law_like {n : Nat} : ∀ ds r, P_like (n + 1) ds r → ds.length = 2 := fun ds r h => by obtain ⟨p, rfl, _⟩ := h; rfl
theorem atI_rng {xs : List PyData} {i : Nat} (h : i < xs.length) : ∃ x, xs[i]? = some x ∧ atI xs ((0 : Int) + (i : Int)) = some x := by
  refine ⟨xs[i], List.getElem?_eq_getElem h, ?_⟩
  rw [Int.zero_add]
  exact atI_nat (List.getElem?_eq_getElem h)
theorem mem_rng {lo : Int} {n : Nat} {x : PyData} (h : x ∈ rngD lo n) : ∃ i, i < n ∧ x = .int (lo + (i : Int)) := by
  unfold rngD at h
  obtain ⟨i, hi, rfl⟩ := List.mem_map.mp h
  exact ⟨i, List.mem_range.mp hi, rfl⟩
theorem un_at {G : Gam} {j : Nat} (h : G[j]? = some .un) : ∀ i e, i ∈ [j] → G[i]? = some e → e = .un := fun i e hi g => by
  rw [List.mem_singleton.mp hi, h] at g
  exact (Option.some.inj g).symm
theorem all_true (n : Nat) (l : List PyData) : l.map (fun _ => PyData.bool true) = (l.map fun _ => true).map PyData.bool := by
  rw [List.map_map]; rfl
theorem all_true2 (l : List PyData) : (l.map fun _ => true).all id = true := by
  rw [List.all_map]; simp
theorem rd__law_like {n : Nat} {ds r} (h : P_like (n + 1) ds r) (b : Bag) : SG K (t__law_like K n) (frame 3 ds) b (.rt r b) := by
  obtain ⟨x, rfl, hx, rfl⟩ := h
  unfold t__law_like
  have v0 : EvG K (tVar 0) (frame 3 [x, x]) b x b := ev_var rfl
  have v1 : EvG K (tVar 1) (frame 3 [x, x]) b x b := ev_var rfl
  cases x with
  | none =>
    refine sg_when (et_B (ev_isi2 v1 kit_NoneType_tuple kit_NoneType_list)) (fun h => by cases h) fun _ => ?_
    refine sg_when (et_B (ev_isi v1 kit_NoneType_bool)) (fun h => by cases h) fun _ => ?_
    refine sg_when (et_B (ev_isi v1 kit_NoneType_int)) (fun h => by cases h) fun _ => ?_
    refine sg_when (et_B (ev_isi v1 kit_NoneType_str)) (fun h => by cases h) fun _ => ?_
    exact sg_ret (ev_andT (ev_isNo v1) (ev_isNo v0))
  | bool i =>
    refine sg_when (et_B (ev_isi2 v1 kit_bool_tuple kit_bool_list)) (fun h => by cases h) fun _ => ?_
    refine sg_when (et_B (ev_isi v1 kit_bool_bool)) (fun _ => ?_) (fun h => by cases h)
    refine sg_seqR (sg_ret (ev_andT (ev_isi v0 kit_bool_bool) (ev_is (ev_eqB v0 v1) ?_)))
    simp
  | int i =>
    refine sg_when (et_B (ev_isi2 v1 kit_int_tuple kit_int_list)) (fun h => by cases h) fun _ => ?_
    refine sg_when (et_B (ev_isi v1 kit_int_bool)) (fun h => by cases h) fun _ => ?_
    refine sg_when (et_B (ev_isi v1 kit_int_int)) (fun _ => ?_) (fun h => by cases h)
    refine sg_seqR (sg_ret (ev_andT (ev_isi v0 kit_int_int) (ev_andT (ev_not (ev_isi v0 kit_int_bool)) (ev_is (ev_eqI v0 v1) ?_))))
    simp
  | str i =>
    refine sg_when (et_B (ev_isi2 v1 kit_str_tuple kit_str_list)) (fun h => by cases h) fun _ => ?_
    refine sg_when (et_B (ev_isi v1 kit_str_bool)) (fun h => by cases h) fun _ => ?_
    refine sg_when (et_B (ev_isi v1 kit_str_int)) (fun h => by cases h) fun _ => ?_
    refine sg_when (et_B (ev_isi v1 kit_str_str)) (fun _ => ?_) (fun h => by cases h)
    refine sg_seqR (sg_ret (ev_andT (ev_isi v0 kit_str_str) (ev_is (ev_eqS v0 v1) ?_)))
    simp
  | dict i => cases n <;> cases hx
  | tuple xs =>
    cases n with
    | zero => cases hx
    | succ n =>
      unfold okD at hx
      obtain ⟨hl, ha⟩ := Bool.and_eq_true_iff.mp hx
      have hl := of_decide_eq_true hl
      refine sg_when (et_B (ev_isi2 v1 kit_tuple_tuple kit_tuple_list)) (fun _ => ?_) (fun h => by cases h)
      refine sg_seqR ?_
      refine sg_when (et_test (ev_neB (ev_isi v0 kit_tuple_tuple) (ev_isi v1 kit_tuple_tuple))) (fun h => by cases h) fun _ => ?_
      refine sg_when (et_orF (et_not (et_B (ev_isi2 v0 kit_tuple_tuple kit_tuple_list))) (et_is (et_test (ev_neI (ev_lenT v0) (ev_lenT v1))) (b' := false) (by simp))) (fun h => by cases h) fun _ => ?_
      refine sg_ret (ev_is (ev_all (bs := (rngD 0 ((xs.length : Int).toNat)).map fun _ => true) (ev_is (ev_lcM (src_rng1 (ea_cons (ev_lenT v1) ea_nil) ⟨by omega, by omega⟩) (fun _ => .bool true) (un_at rfl) (by rw [rngD_len]; omega) fun y hy => ?_) (congrArg PyData.list (all_true 0 _)))) (by rw [all_true2]))
      obtain ⟨i, hi, rfl⟩ := mem_rng hy
      rw [Int.toNat_natCast] at hi
      obtain ⟨z, hz, hz2⟩ := atI_rng hi
      refine ⟨_, tgt_name, ev_like (ev_ixT (ev_var rfl) (ev_var rfl) hz2) (ev_ixT (ev_var rfl) (ev_var rfl) hz2) rfl (okAll_get ha hz)⟩
  | list xs =>
    cases n with
    | zero => cases hx
    | succ n =>
      unfold okD at hx
      obtain ⟨hl, ha⟩ := Bool.and_eq_true_iff.mp hx
      have hl := of_decide_eq_true hl
      refine sg_when (et_B (ev_isi2 v1 kit_list_tuple kit_list_list)) (fun _ => ?_) (fun h => by cases h)
      refine sg_seqR ?_
      refine sg_when (et_test (ev_neB (ev_isi v0 kit_list_tuple) (ev_isi v1 kit_list_tuple))) (fun h => by cases h) fun _ => ?_
      refine sg_when (et_orF (et_not (et_B (ev_isi2 v0 kit_list_tuple kit_list_list))) (et_is (et_test (ev_neI (ev_lenL v0) (ev_lenL v1))) (b' := false) (by simp))) (fun h => by cases h) fun _ => ?_
      refine sg_ret (ev_is (ev_all (bs := (rngD 0 ((xs.length : Int).toNat)).map fun _ => true) (ev_is (ev_lcM (src_rng1 (ea_cons (ev_lenL v1) ea_nil) ⟨by omega, by omega⟩) (fun _ => .bool true) (un_at rfl) (by rw [rngD_len]; omega) fun y hy => ?_) (congrArg PyData.list (all_true 0 _)))) (by rw [all_true2]))
      obtain ⟨i, hi, rfl⟩ := mem_rng hy
      rw [Int.toNat_natCast] at hi
      obtain ⟨z, hz, hz2⟩ := atI_rng hi
      refine ⟨_, tgt_name, ev_like (ev_ixL (ev_var rfl) (ev_var rfl) hz2) (ev_ixL (ev_var rfl) (ev_var rfl) hz2) rfl (okAll_get ha hz)⟩
/-! ### a law's loop -/
end
end U


end
section
/-! Own exception classes over any of four built-in bases, their __init__ walked as a def. -/
namespace U
open PySem PySem.W PyProof.Rows L2 Evl
structure OxC (K : Fg) (C : Addr) (B newId initId : String) (bmB : List Value) : Prop where
  fb : ExcBaseFacts B newId initId bmB
  sf : StoreFacts B bmB "object.__setattr__" "object"
  ov : excOver K C bmB = true
  mkC : excInitIn K C bmB newId = true
  hd : hasDictIn K C = true
  sa : findIn K (.ref C) "__setattr__" = some (some (.builtin "object.__setattr__"))
  exC : subIn K (.ref C) (.type "BaseException") = some true
  tyC : typeIn K (.ref C) = some (.type "type")
  kC : keepIn K (.ref C) = true
section
open Builtin Builtin.ObjectAttr
variable {prog : Program} {w : World} {A : Around} {R : Result → Shared → Prop} {hp : Heap} {g : Array GenState} {d : Drawn} {t : Nat} {os : OsState} {K : Fg} {C x : Addr} {B newId initId : String} {bmB : List Value} {name : Str} {tk : Tok} {v : Value} {fv : Array Value}
theorem taker_none (h : findIn K (.ref C) name = some none) : takerIn K C name = some none := by
  unfold takerIn
  rw [h]
  rfl
theorem has_dict (h : hasDictIn K C = true) : ∃ cd, clsIn K C = some cd ∧ cd.hasDict = true := by
  unfold hasDictIn at h
  cases e : clsIn K C with
  | none => rw [e] at h; cases h
  | some cd => rw [e] at h; exact ⟨cd, rfl, h⟩
/-- the first field of an exception that has no dict yet -/
theorem osa_first (T : OxC K C B newId initId bmB) (X : K.In hp) (hx : hp.get? x = some { cls := .ref C, data := .fields fv }) (ha : findIn K (.ref C) name = some none)
    (hq : ∀ h' tk' dx, (∀ b o, b ≠ x → hp.get? b = some o → h'.get? b = some o) → hp.objs.size ≤ dx → dx ≠ x →
      h'.get? x = some { cls := .ref C, dict := some dx, data := .fields fv } → h'.Ns1 dx (fun y => if y = name then some v else none) → R (.ok (.ret .none)) ⟨h', g, d, tk', os⟩) :
    codeAny (model prog w) A (.call (.builtin "object.__setattr__") ⟨[.ref x, .str name tk, v], []⟩) R ⟨hp, g, d, t, os⟩ := by
  have I : InstAt hp x { cls := .ref C, data := .fields fv } C none := ⟨hx, rfl, rfl, trivial⟩
  have hxs : x ≠ hp.objs.size := Nat.ne_of_lt (Heap.lt_size hx)
  obtain ⟨cd, hcd, hh⟩ := has_dict T.hd
  have hcls : Looks (model prog w) hp (classData C) cd := looks_clsIn X hcd
  refine osa_openX (s := ⟨hp, g, d, t, os⟩) T.sf X I T.ov (taker_none ha) fun b => ?_
  obtain ⟨nm, bs, mro, ns, qn, hdv, sn, sb, ab, col, del⟩ := cd
  dsimp only at hh
  subst hh
  show wpAny _ _ (storeInOwnDict (.ref x) (.ref C) (.str name tk) name v b) _ _ _
  unfold storeInOwnDict ownDictForStores
  cases b <;>
  repeat (first | with_reducible refine HandSPX.store_in_new ?_ ?_ | with_reducible refine wpAny_loadPart_at hx ?_ | with_reducible refine hcls.at ?_ | wp_step)
  case' false.h.h.h.hq.refine_1 => skip
  all_goals first
    | exact ⟨_, #[], _, (Heap.get?_update_ne _ _ _ _ hxs.symm).trans (Heap.get?_push_at rfl rfl), rfl, (fun e he => absurd he (by simp)), (fun _ => rfl)⟩
    | (intro h2 tk2 hn2 hs2
       have hx1 : (hp.push { cls := .type "dict", data := .dict #[] }).get? x = some ⟨.ref C, none, .fields fv, #[]⟩ := Heap.get?_push_of_some _ hx
       refine hq h2 tk2 hp.objs.size (fun b o hb ho => ?_) (Nat.le_refl _) hxs.symm ?_ hn2
       · have e1 := hs2.2 b (Nat.ne_of_lt (Heap.lt_size ho))
         exact e1.trans ((Heap.get?_update_ne _ _ _ _ hb).trans (Heap.get?_push_of_some _ ho))
       · have e1 := hs2.2 x hxs
         exact e1.trans (Heap.get?_update_self _ hx1 rfl))
/-- a further field -/
theorem osa_more {dx : Addr} {m0 : Str → Option Value} {nl : List Str} (T : OxC K C B newId initId bmB) (X : K.In hp) (hx : hp.get? x = some { cls := .ref C, dict := some dx, data := .fields fv }) (ha : findIn K (.ref C) name = some none)
    (hns : hp.Ns1 dx m0) (hw : Within m0 nl) (hz : nl.length ≤ 1000)
    (hq : ∀ h' tk', (∀ b o, b ≠ dx → hp.get? b = some o → h'.get? b = some o) → h'.Ns1 dx (fun y => if y = name then some v else m0 y) →
      R (.ok (.ret .none)) ⟨h', g, d, tk', os⟩) :
    codeAny (model prog w) A (.call (.builtin "object.__setattr__") ⟨[.ref x, .str name tk, v], []⟩) R ⟨hp, g, d, t, os⟩ := by
  obtain ⟨oD, esD, epD, hoD, hdD, _⟩ := hns.count hw
  have I : InstAt hp x { cls := .ref C, dict := some dx, data := .fields fv } C (some oD) := ⟨hx, rfl, rfl, hoD⟩
  obtain ⟨cd, hcd, hh⟩ := has_dict T.hd
  have hcls : Looks (model prog w) hp (classData C) cd := looks_clsIn X hcd
  refine osa_openX (s := ⟨hp, g, d, t, os⟩) T.sf X I T.ov (taker_none ha) fun b => ?_
  obtain ⟨nm, bs, mro, ns, qn, hdv, sn, sb, ab, col, del⟩ := cd
  dsimp only at hh
  subst hh
  show wpAny _ _ (storeInOwnDict (.ref x) (.ref C) (.str name tk) name v b) _ _ _
  unfold storeInOwnDict ownDictForStores
  cases b <;>
  repeat (first | with_reducible refine OEX.store_in_old hns hw hz ?_ | with_reducible refine wpAny_loadPart_at hx ?_ | with_reducible refine hcls.at ?_ | wp_step)
  all_goals
    intro h2 tk2 hn2 hs2
    exact hq h2 tk2 (fun b o hb ho => (hs2.2 b hb).trans ho) hn2
end
section
variable {X : Cx} {pins : List (Addr × Obj)} {σ : St} {H : Hp} {s : Shared} {a C dx : Addr} {f : Str} {y : V} {u : Value} {fs : List (Str × V)} {Q : Unit → Shared → Prop} {E : Value → Shared → Prop} {A : Around} {B newId initId : String} {bmB : List Value}
theorem ox_new (T : OxC X.K C B newId initId bmB) (I : Inv X pins σ H s) (e : H a = some (exo a C none)) (hno : findIn X.K (.ref C) f = some none) (ry : RelV y u)
    (h : ∀ dx s', H dx = none → dx ≠ a → Inv X pins σ (upd (upd H dx (exd dx [(f, y)])) a (exo a C (some dx))) s' → Q () s') :
    wpAny (model X.prog X.w) A (setAttr (.ref a) f u) Q E s := by
  obtain ⟨t1, ho⟩ := exo_at I.hok e
  obtain ⟨hp, g, d, t, os⟩ := s
  refine set_plain I.kIn (od := none) ⟨ho, rfl, rfl, trivial⟩ T.sa ?_
  refine osa_first T I.kIn ho hno fun h2 tk2 dx k dn dne hx hn => ?_
  have hnd : H dx = none := I.hok.fresh dn
  have nd : ∀ {b : Addr} {o : Obj}, hp.get? b = some o → b ≠ dx := fun {b o} q =>
    Nat.ne_of_lt (Nat.lt_of_lt_of_le (Heap.lt_size q) dn)
  have na : ∀ {b : Addr}, H b = none → b ≠ a := fun {b} n z => by
    subst z
    rw [e] at n
    cases n
  have un : Un X.fs [] H (upd (upd H dx (exd dx [(f, y)])) a (exo a C (some dx))) hp h2 := by
    refine ⟨fun b o q n _ _ => k b o (na n) q, fun b o q n _ _ => ⟨o.slots, k b o (na n) q⟩, fun b o q n _ => ?_, fun b o q _ => ?_, fun b xs q => ?_, fun b o v q => ?_, fun b ps q => ⟨#[], ?_⟩⟩
    · rw [upd_ne (na n), upd_ne (nd q)]
      exact n
    · by_cases hb : b = a
      · subst hb
        exact ⟨_, hx⟩
      · exact ⟨o, k b o hb q⟩
    · rw [upd_ne (at_ne e q exo_tup), upd_ne (ne_of_none q hnd)]
      exact q
    · rw [upd_ne (at_ne e q exo_frz), upd_ne (ne_of_none q hnd)]
      exact q
    · rw [upd_ne (at_ne e q exo_tbl), upd_ne (ne_of_none q hnd), q]
      simp
  refine h dx _ hnd dne (I.un (t' := tk2) un fun b o q => ?_)
  by_cases hb : b = a
  · subst hb
    rw [upd_same] at q
    cases q
    exact exo_ok hx
  rw [upd_ne hb] at q
  by_cases hd : b = dx
  · subst hd
    rw [upd_same] at q
    cases q
    exact exd_ok hn (relO_put (fs := []) ry fun _ => True.intro)
  rw [upd_ne hd] at q
  refine (I.hok b o q).stay (fun c v hc z => k c v ?_ z) (fun c hc => ?_) (fun c xs hc => ?_)
  · rcases hc with rfl | hc
    · exact hb
    · exact at_ne e hc exo_own
  · rw [upd_ne (at_ne e hc exo_own), upd_ne (ne_of_none hc hnd)]
    exact hc
  · rw [upd_ne (at_ne e hc exo_tup), upd_ne (ne_of_none hc hnd)]
    exact hc
theorem ox_old (T : OxC X.K C B newId initId bmB) (I : Inv X pins σ H s) (e : H a = some (exo a C (some dx))) (ed : H dx = some (exd dx fs)) (hl : fs.length ≤ 900) (hno : findIn X.K (.ref C) f = some none) (ry : RelV y u)
    (h : ∀ s', Inv X pins σ (upd H dx (exd dx ((f, y) :: fs))) s' → Q () s') :
    wpAny (model X.prog X.w) A (setAttr (.ref a) f u) Q E s := by
  obtain ⟨t1, ho⟩ := exo_at I.hok e
  obtain ⟨mA, hns, rel⟩ := exd_at I.hok ed
  have hw := within_of rel
  obtain ⟨hp, g, d, t, os⟩ := s
  obtain ⟨oD, _, _, hoD, _, _⟩ := hns.count hw
  refine set_plain I.kIn (od := some oD) ⟨ho, rfl, rfl, hoD⟩ T.sa ?_
  refine osa_more T I.kIn ho hno hns hw (by rw [List.length_map]; omega) fun h2 tk2 k hn => ?_
  have hd : ∃ o, h2.get? dx = some o := by
    obtain ⟨o, _, _, e2, _⟩ := hn
    exact ⟨o, e2⟩
  exact h _ (I.write (t' := tk2) (x := dx) (e := dx) (by rw [ed]; exact True.intro) (.inl rfl) k hd (exd_ok hn (relO_put ry rel)))
/-- what is promised by an own exception's class -/
structure OxK (K : Fg) (C : Addr) : Prop where
  ex : ∃ B newId initId bmB, OxC K C B newId initId bmB
/-- self.f = e, upon an exception that is being made -/
def tOx (K : Fg) (f : Str) (to te : TE) : TS := fun D σ H => te σ H fun y H1 => to σ H1 fun x H2 => ∃ a C : Addr, x = .ref a ∧ OxK K C ∧ findIn K (.ref C) f = some none ∧
  ((H2 a = some (exo a C none) ∧ ∀ dx, H2 dx = none → dx ≠ a → D.nx σ (upd (upd H2 dx (exd dx [(f, y)])) a (exo a C (some dx)))) ∨
    ∃ (dx : Addr) (fs : List (Str × V)), H2 a = some (exo a C (some dx)) ∧ H2 dx = some (exd dx fs) ∧ fs.length ≤ 900 ∧ D.nx σ (upd H2 dx (exd dx ((f, y) :: fs))))
/-- C(e, ..), C's own __init__ keeping sp -/
def tMkX (C : Addr) (sp : Sp) (dvs : List V) (ta : TA) : St → Hp → XK → Prop := fun σ H Q => ta σ H fun vs H1 => vs.length ≤ 1000 ∧ ∀ a, H1 a = none →
  sp (.ref a :: (vs ++ dvs)) (upd H1 a (exo a C none)) (fun v H2 => v = .non ∧ ∃ (d : Addr) (fs : List (Str × V)), H2 a = some (exo a C (some d)) ∧ H2 d = some (exd d fs) ∧ H1 d = none ∧
    Q (.ref C) (some d) (upd (del H2 a) d (.xd fs))) (fun _ _ _ => False)
end
section
variable {X : Cx} {o e : Expr} {es : List Expr} {to te : TE} {ta : TA} {f : Str} {p p' p1 p2 pos : Pos}
theorem ps_ox (ho : PE X o to) (he : PE X e te) (hs : swapsWith e (some (.Attribute o f p')) pos.line X.env = pure false := by rfl) :
    PS X (.Assign [.Attribute o f p'] e pos) (tOx X.K f to te) := by
  refine ⟨fun pins s σ H D I h => ?_⟩
  refine plainObj_wpAny_Assign_Attribute (thn (he.run pins s σ H _ I h) fun v s1 hh => ?_) hs
  obtain ⟨y, H1, I1, r1, q1⟩ := hh
  refine thn (ho.run pins s1 σ H1 _ I1 q1) fun u s2 hh => ?_
  obtain ⟨x, H2, I2, r2, a, C, ex, T, hno, q⟩ := hh
  subst ex
  obtain rfl : u = Value.ref a := r2
  obtain ⟨B, n1, n2, bm, T⟩ := T.ex
  rcases q with ⟨ea, q⟩ | ⟨dx, fs, ea, ed, hl, q⟩
  · exact ox_new T I2 ea hno r1 fun dx s' n ne J => ⟨σ, _, J, q dx n ne⟩
  · exact ox_old T I2 ea ed hl hno r1 fun s' J => ⟨σ, _, J, q⟩
/-- the call of the class, once the arguments are there -/
theorem made_ox {CX : CXT} {C fI : Addr} {k : Nat} {fd : FuncData} {ps : List Str} {sp : Sp} {ds : List Value} {dvs vs : List V} {us : List Value} {pins : List (Addr × Obj)} {σ : St} {H : Hp} {s : Shared} {Q : XK} (T : OxK X.K C)
    (iC : findIn X.K (.ref C) "__init__" = some (some (.ref fI))) (tI : typeIn X.K (.ref fI) = some (.type "function")) (F1 : FnOk X.prog X.w X.K X.mg X.base CX k fI fd ps sp) (hr : Room (k + 1) X.A) (hb : Binds X.K fd ps ds) (hd : Vals dvs ds)
    (hx : Passes CX X (fun _ _ _ => False)) (I : Inv X pins σ H s) (r1 : Vals vs us) (hz : vs.length ≤ 1000)
    (h : ∀ a, H a = none → sp (.ref a :: (vs ++ dvs)) (upd H a (exo a C none)) (fun v H2 => v = .non ∧ ∃ (d : Addr) (fs : List (Str × V)), H2 a = some (exo a C (some d)) ∧ H2 d = some (exd d fs) ∧ H d = none ∧
      Q (.ref C) (some d) (upd (del H2 a) d (.xd fs))) (fun _ _ _ => False)) :
    wpAny (model X.prog X.w) X.A (call (.ref C) us) (MkP X pins σ Q) X.xe s := by
  obtain ⟨B, n1, n2, bm, T⟩ := T.ex
  obtain ⟨hp, g, dr, tk, os⟩ := s
  obtain ⟨nm, N', qn, bs, bm', hdct, sn, sub, ab, col, dd, k0, k1, k2, k3, k5, hC, hT⟩ := excInit_of I.kIn T.mkC
  have hsz : hp.objs.size ≤ hp.objs.size + 1 := Nat.le_succ _
  have hn : H (hp.objs.size + 1) = none := I.hok.fresh hsz
  have hq := h (hp.objs.size + 1) hn
  have kk : ∀ b o, hp.get? b = some o → ((hp.push (kdv_tup us)).push (HandSPX.excO C hp.objs.size)).get? b = some o := fun b o e =>
    Heap.get?_push_of_some _ (Heap.get?_push_of_some _ e)
  have hget : ((hp.push (kdv_tup us)).push (HandSPX.excO C hp.objs.size)).get? (hp.objs.size + 1) = some (HandSPX.excO C hp.objs.size) := by heap_get
  have I2 := I.laid (t' := tk) (a := hp.objs.size + 1) (o := exo (hp.objs.size + 1) C none) (h' := (hp.push (kdv_tup us)).push (HandSPX.excO C hp.objs.size)) kk hsz (exo_ok hget)
  have r2 : Vals (V.ref (hp.objs.size + 1) :: (vs ++ dvs)) (Value.ref (hp.objs.size + 1) :: (us ++ ds)) := .cons rfl (r1.append hd)
  have hl : (Value.ref (hp.objs.size + 1) :: us ++ ds).length = ps.length := by
    rw [← F1.len _ _ _ _ hq]
    exact r2.length.symm
  have hus : us.length ≤ sizeLine := by
    rw [← Paired.length r1, sizeLine_eq]
    omega
  refine wpAny_call (HandSPX.call_own T.fb hT hC (looks_findIn I.kIn iC) (fun self => bind_fn I.kIn self tI) hus ?_)
  refine codeAny_mono (F1.run _ X.stack _ _ ⟨Value.ref (hp.objs.size + 1) :: us, []⟩ (Value.ref (hp.objs.size + 1) :: (us ++ ds)) _ _ (fun _ _ _ => False) (hr.make C us []) (I2.env0.make C us []) (hb _ _ I2.kIn hl) r2 hq) fun r s' hq' => ?_
  cases r with
  | error er => exact hx pins σ _ _ er s' I2 hq'
  | ok fl =>
    cases fl with
    | ret u =>
      obtain ⟨v, H2, os2, bare2, un2, hok2, rv, ev, d, fs, ea, ed, hd1, q2⟩ := hq'
      subst ev
      obtain ⟨h2, g2, d2, t2, os'⟩ := s'
      exact ⟨rv, mk_end (raises_own T.exC T.tyC) I hsz kk un2 hok2 os2 bare2 ea ed hd1 q2⟩
    | next => exact False.elim hq'
    | brk => exact False.elim hq'
    | cont => exact False.elim hq'
theorem pmk_ox0 {CX : CXT} {x : Str} {C fI : Addr} {k : Nat} {fd : FuncData} {ps : List Str} {sp : Sp} {ds : List Value} {dvs : List V} (T : OxK X.K C) (kC : keepIn X.K (.ref C) = true)
    (iC : findIn X.K (.ref C) "__init__" = some (some (.ref fI))) (tI : typeIn X.K (.ref fI) = some (.type "function")) (F1 : FnOk X.prog X.w X.K X.mg X.base CX k fI fd ps sp) (hr : Room (k + 1) X.A) (hb : Binds X.K fd ps ds) (hd : Vals dvs ds)
    (hx : Passes CX X (fun _ _ _ => False)) (hg : Gl X x) (hm : X.mg x = some (.ref C)) (hdb : (x == ("__debug__" : Str)) = false := by decide) :
    PMk X (.Call (.Name x p) [] [] pos) (tMkX C sp dvs tNil) := by
  intro pins s σ H Q I h
  refine wpAny_Call_Name_kw (ld_glob I hg hm ?_ hdb)
  exact callWith_K0 I.kIn kC (made_ox (us := []) (vs := []) T iC tI F1 hr hb hd hx I .nil (by show 0 ≤ 1000; decide) h.2)
end
end U

end
section
/-! Raising, over data: promises of defs that may raise, judgements of what raises, try .. except .. as. -/
namespace U
open PySem PyProof.Rows L2 Evl
/-- an exception: its class's name, its fields -/
structure Xw where
  cls : Str
  fs : List (Str × V)
abbrev Cs := Str → Addr
/-- a def's promise that may raise -/
def spX (K : Fg) (cs : Cs) (P : List PyData → Except Xw PyData → Prop) : Sp := fun vs H Q E => ∃ (W : Addr → Prop) (ds : List PyData) (r : Except Xw PyData), (∀ a, W a → ∃ o, H a = some o) ∧ DpAll K (less H W) vs ds ∧ P ds r ∧
  match r with
  | .ok x => ∀ v H', Ex H H' → Dp K (less H' W) v x → Q v H'
  | .error e => ∀ d H', Ex H H' → H d = none → H' d = some (.xd e.fs) → E (.ref (cs e.cls)) (some d) H'
def SX (K : Fg) (cs : Cs) (W : WX) (ts : TS) (G : Gam) (s : Bag) (e : Xw) (G' : Gam) (s' : Bag) : Prop :=
  ∀ Wd B ad H0 H σ (D : Ends), Sta K Wd B ad H0 H σ G s → (∀ d ad' H' σ', Sta K Wd B ad' H0 H' σ' G' s' → Ex (less H (Zs Wd B ad G)) (less H' (Zs Wd B ad' G')) → H0 d = none → H' d = some (.xd e.fs) → W (.ref (cs e.cls)) (some d) σ' H') → ts D σ H
section
variable {K : Fg} {cs : Cs} {W : WX} {G G' G1 G2 : Gam} {s s1 s2 s3 s' : Bag} {ta tb tc te : TE} {t u : TT} {x y z : PyData} {tu tw tz : TS} {o : Out} {e : Xw}
theorem ev_callX {P : List PyData → Except Xw PyData → Prop} {ta : TA} {ds : List PyData} {dvs : List V} {des : List PyData} {E : St → XK} (h : EvA K ta G s ds s') (hd : ∀ H, DpAll K H dvs des) (hp : P (ds ++ des) (.ok x)) : EvG K (tCallSD (spX K cs P) dvs E ta) G s x s' := fun W B ad H0 H σ S Q q =>
  h W B ad H0 H σ S _ fun vs H1 S1 e1 d1 => ⟨Zs W B ad G, ds ++ des, .ok x, S1.there, dpa_app d1 (hd _), hp, fun v H' e d => q v H' (S1.ext e) (e1.trans (.of e)) d⟩
theorem sx_seq1 (h : SX K cs W tu G s e G' s') : SX K cs W (tSeq tu tz) G s e G' s' := fun Wd B ad H0 H σ D S k => h Wd B ad H0 H σ _ S k
theorem sx_ifT (h : EvT K t G s true s1) (h2 : SX K cs W tu G s1 e G' s') : SX K cs W (tIfS t tu tw) G s e G' s' := fun Wd B ad H0 H σ D S k =>
  h Wd B ad H0 H σ S _ fun H1 S1 e1 => iteT (h2 Wd B ad H0 H1 σ D S1 fun d ad' H' σ' S' e' => k d ad' H' σ' S' (e1.l.trans e'))
theorem sx_whenT (h : EvT K t G s true s1) (h2 : SX K cs W tu G s1 e G' s') : SX K cs W (tSeq (tIfS t tu tNext) tz) G s e G' s' := sx_seq1 (sx_ifT h h2)
/-! ### raise C(..) -/
/-- what an own exception's __init__ promises: its fields by its arguments -/
def spIn (K : Fg) (nm : List Str) (g : List V → Option (List (Str × V))) : Sp := fun vs H Q _ => ∃ (a C : Addr) (ws : List V) (fs : List (Str × V)), vs = .ref a :: ws ∧ H a = some (exo a C none) ∧ OxK K C ∧ (∀ n ∈ nm, PySem.W.findIn K (.ref C) n = some none) ∧ g ws = some fs ∧
  ∀ d H', H d = none → H' a = some (exo a C (some d)) → H' d = some (exd d fs) → (∀ b, b ≠ a → b ≠ d → H' b = H b) → Q .non H'
def tRaiseX (C : Addr) (sp : Sp) (dvs : List V) (ta : TA) (W : WX) : TS := fun _ σ H => tMkX C sp dvs ta σ H fun cls d H' => W cls d σ H'
theorem mk_read {C : Addr} {nm : List Str} {g : List V → Option (List (Str × V))} {dvs : List V} {ta : TA} {σ : St} {H : Hp} {Q : XK} {fs : List (Str × V)} (ox : OxK K C) (hn : ∀ n ∈ nm, PySem.W.findIn K (.ref C) n = some none)
    (h : ta σ H fun vs H1 => vs.length ≤ 1000 ∧ g (vs ++ dvs) = some fs ∧ ∀ d, H1 d = none → Q (.ref C) (some d) (upd H1 d (.xd fs))) (mono : ∀ (Q1 Q2 : List V → Hp → Prop), (∀ vs H1, Q1 vs H1 → Q2 vs H1) → ta σ H Q1 → ta σ H Q2) : tMkX C (spIn K nm g) dvs ta σ H Q := by
  refine mono _ _ (fun vs H1 hq => ?_) h
  obtain ⟨hl, hg, q⟩ := hq
  refine ⟨hl, fun a ha => ⟨a, C, vs ++ dvs, fs, rfl, upd_same, ox, hn, hg, fun d H2 hd h1 h2 h3 => ?_⟩⟩
  have hda : d ≠ a := fun z => by rw [z, upd_same] at hd; cases hd
  rw [upd_ne hda] at hd
  refine ⟨rfl, d, fs, h1, h2, hd, ?_⟩
  have e : upd (del H2 a) d (.xd fs) = upd H1 d (.xd fs) := by
    funext b
    by_cases hb : b = d
    · rw [hb, upd_same, upd_same]
    · rw [upd_ne hb, upd_ne hb]
      by_cases ha2 : b = a
      · rw [ha2, del_same, ha]
      · rw [del_ne ha2, h3 b ha2 hb, upd_ne ha2]
  rw [e]
  exact q d hd
/-- raise C() -/
theorem sx_raise0 {c : Str} {nm : List Str} {g : List V → Option (List (Str × V))} {fs : List (Str × V)} (ox : OxK K (cs c)) (hn : ∀ n ∈ nm, PySem.W.findIn K (.ref (cs c)) n = some none) (hg : g [] = some fs) : SX K cs W (tRaiseX (cs c) (spIn K nm g) [] tNil W) G s ⟨c, fs⟩ G s := fun Wd B ad H0 H σ D S k => by
  refine mk_read ox hn ⟨by show 0 ≤ 1000; decide, hg, fun d hd => ?_⟩ (fun Q1 Q2 m h => m _ _ h)
  have e : Ex H (upd H d (.xd fs)) := Ex.new hd
  exact k d ad _ σ (S.ext e) (less_mono e) (S.fresh hd).1 upd_same
end
section
variable {Pg : Program} {w : World} {K : Fg} {mg : Str → Option Value} {base : Heap} {cs : Cs}
/-- what a def that may raise is read to do -/
def RdX (K : Fg) (cs : Cs) (W : WX) (t : TS) (G : Gam) (b : Bag) : Except Xw PyData → Prop
  | .ok x => SG K t G b (.rt x b)
  | .error e => ∃ G', SX K cs W t G b e G' b
/-- a def's own wish -/
abbrev WD (E : XK) : WX := fun cls d _ H => E cls d H
end
/-! ### try .. except C as why -/
section
variable {K : Fg} {cs : Cs} {G G' G1 : Gam} {s s1 s' : Bag} {x : PyData} {e : Xw}
end
end U

end
section
/-! Defs with defaults and keyword-only parameters; the refusals' own __init__. -/
namespace U
open PySem PyProof.Rows L2 Evl
section
variable {Pg : Program} {w : World} {K : Fg} {mg : Str → Option Value} {base : Heap} {cs : Cs}
theorem okPD {x qual : Str} {st : Stmt} {dvs : List V} {kws : List (Str × V)} {f : Addr} {fd : FuncData} {N ps : List Str} {k : Nat} {P : List PyData → PyData → Prop} (F : FunD K x qual (defArgs st) (defBody st) (defScope st) dvs kws f fd) (S : FnScope N ps (defScope st)) (hl : ∀ ds r, P ds r → ds.length = ps.length)
    (hb : ∀ ds r, P ds r → ∀ (cdv : Value) (A : Around) (outer : List Env) (sh : Shared) (H : Hp) (E : XK), Room k (A.deeper (envOfC qual (defScope st) sh.heap.objs.size f cdv)) →
      ∃ t, PSs (cxOf CX0 Pg w K mg base N qual (defScope st) f cdv A outer sh H E).nox (defBody st) t ∧ ∀ b, SG K t (frame N.length ds) b (.rt r b)) : FnOk Pg w K mg base CX0 (k + 1) f fd ps (spP K P) := by
  refine F.ok S (fun vs H Q E h => ?_) (fun cdv A outer sh H vs Q E hr h => ?_)
  · obtain ⟨W, ds, r, _, hd, hp, _⟩ := h
    rw [dpa_len hd]
    exact hl ds r hp
  · obtain ⟨W, ds, r, hW, hd, hp, q⟩ := h
    obtain ⟨t, ht, g⟩ := hb ds r hp cdv A outer sh H E hr
    refine ⟨t, ht.nox, g ⟨[], 0, 0⟩ W none (fun _ => 0) H H _ _ (sta0 hW hd _) fun v H' e _ d => q v H' (fun a o h => e a o h (fun ⟨_, _, z, _⟩ => by cases z)) (dp_mono (less_sub fun a z => .inl z) d)⟩
theorem okXD {x qual : Str} {st : Stmt} {dvs : List V} {kws : List (Str × V)} {f : Addr} {fd : FuncData} {N ps : List Str} {k : Nat} {P : List PyData → Except Xw PyData → Prop} (F : FunD K x qual (defArgs st) (defBody st) (defScope st) dvs kws f fd) (S : FnScope N ps (defScope st)) (hl : ∀ ds r, P ds r → ds.length = ps.length)
    (hb : ∀ ds r, P ds r → ∀ (cdv : Value) (A : Around) (outer : List Env) (sh : Shared) (H : Hp) (E : XK), Room k (A.deeper (envOfC qual (defScope st) sh.heap.objs.size f cdv)) →
      ∃ t, PSs (cxOf (L2.CX Pg w) Pg w K mg base N qual (defScope st) f cdv A outer sh H E) (defBody st) t ∧ ∀ b, RdX K cs (WD E) t (frame N.length ds) b r) :
    FnOk Pg w K mg base (L2.CX Pg w) (k + 1) f fd ps (spX K cs P) := by
  refine F.ok S (fun vs H Q E h => ?_) (fun cdv A outer sh H vs Q E hr h => ?_)
  · obtain ⟨W, ds, r, _, hd, hp, _⟩ := h
    rw [dpa_len hd]
    exact hl ds r hp
  · obtain ⟨W, ds, r, hW, hd, hp, q⟩ := h
    obtain ⟨t, ht, g⟩ := hb ds r hp cdv A outer sh H E hr
    refine ⟨t, ht, ?_⟩
    have nb : ∀ a, ¬ InB none a := fun a ⟨_, _, z, _⟩ => by cases z
    have S0 := sta0 (N := N) hW hd ⟨[], 0, 0⟩
    cases r with
    | ok x => exact g ⟨[], 0, 0⟩ W none (fun _ => 0) H H _ _ S0 fun v H' e _ d => q v H' (fun a o h => e a o h (nb a)) (dp_mono (less_sub fun a z => .inl z) d)
    | error e =>
      obtain ⟨G', g⟩ := g ⟨[], 0, 0⟩
      exact g W none (fun _ => 0) H H _ _ S0 fun d ad' H' σ' S' _ hn hx => q d H' (fun a o h => S'.base a o h (nb a)) hn hx
/-- all given though there are defaults -/
theorem binds_all {x qual : Str} {params : Arguments} {body : List Stmt} {scope : Scope} {dvs : List V} {kws : List (Str × V)} {f : Addr} {fd : FuncData} {ps : List Str} (F : FunD K x qual params body scope dvs kws f fd) (hd : dvs ≠ [])
    (h : ∀ (T : Addr) (kV doc pm : Value) (an : Option Addr) (cdv ct : Value) (us its : List Value), us.length = ps.length → its.length = dvs.length →
      ∃ k, bindArgs (PySem.W.fnOf x qual params body scope (.ref T) kV doc pm an cdv ct) ⟨us, []⟩ = seqItems? (.ref T) >>= k ∧ k (some its.toArray) = pure (ps.zip us)) : Binds K fd ps [] := by
  obtain ⟨ds, r, b⟩ := F.binds1 (ps := ps) ps.length dvs.length hd (by omega) (fun T kV doc pm an cdv ct us its l1 l2 => by
    obtain ⟨k, e1, e2⟩ := h T kV doc pm an cdv ct us its l1 l2
    refine ⟨k, e1, ?_⟩
    rw [e2, List.drop_eq_nil_of_le (by omega), List.append_nil])
  rw [List.drop_eq_nil_of_le (Nat.le_refl _)] at r
  cases r
  exact b
/-- keyword-only parameters, all given by name; the others by place -/
theorem kbinds_all {x qual : Str} {params : Arguments} {body : List Stmt} {scope : Scope} {kws : List (Str × V)} {f : Addr} {fd : FuncData} {ps ks : List Str} {n : Nat} (F : FunD K x qual params body scope [] kws f fd)
    (h : ∀ (kV doc pm : Value) (an : Option Addr) (cdv ct : Value) (us ws : List Value), us.length = n → ws.length = ks.length → bindArgs (PySem.W.fnOf x qual params body scope .none kV doc pm an cdv ct) ⟨us, ks.zip ws⟩ = pure (ps.zip (us ++ ws))) :
    KBn K fd ps n ks (fun us ws => us ++ ws) (fun vs zs => vs ++ zs) := by
  obtain ⟨oc, od, dV, kV, doc, pm, an, cdv, ct, osl, rfl, lk, hcd, hD, hK⟩ := F.ex
  rcases hD with ⟨_, rfl⟩ | ⟨e, _⟩
  · exact ⟨fun s us ws X l1 l2 => .of_eq (h kV doc pm an cdv ct us ws l1 l2), fun r1 r2 => r1.append r2⟩
  · exact absurd rfl e
end
section
variable {K : Fg} {cs : Cs} {W : WX} {G G' G1 G2 : Gam} {s s1 s2 s3 s' : Bag} {ta tb tc te : TE} {t u : TT} {x y z : PyData}
end
/-! ### Flat -/
abbrev gFlat : List V → Option (List (Str × V)) := fun ws => match ws with
  | [] => some [("word", .str "Flat")]
  | _ => none
def t_Flat (K : Fg) : TS := tOx K "word" (tVar 0) (tC (V.str "Flat"))
theorem rd_Flat {K : Fg} {a C : Addr} {H : Hp} {D : Ends} (ha : H a = some (exo a C none)) (ox : OxK K C) (hn : PySem.W.findIn K (.ref C) "word" = some none)
    (q : ∀ d H', H d = none → H' a = some (exo a C (some d)) → H' d = some (exd d [("word", .str "Flat")]) → (∀ b, b ≠ a → b ≠ d → H' b = H b) → D.nx [some (.ref a)] H') : t_Flat K D [some (.ref a)] H := by
  refine ⟨.ref a, rfl, a, C, rfl, ox, hn, .inl ⟨ha, fun d hd hda => ?_⟩⟩
  refine q d _ hd upd_same (by rw [upd_ne hda, upd_same]) fun b h1 h2 => by rw [upd_ne h1, upd_ne h2]
theorem okFlat {Pg : Program} {w : World} {K : Fg} {mg : Str → Option Value} {base : Heap} {st : Stmt} {qual : Str} {f : Addr} {fd : FuncData} {k : Nat} (F : Fun K "__init__" qual st f fd) (S : FnScope ["self"] ["self"] (defScope st))
    (hb : ∀ (cdv : Value) (A : Around) (outer : List Env) (sh : Shared) (H : Hp) (E : XK), PSs (cxOf CX0 Pg w K mg base ["self"] qual (defScope st) f cdv A outer sh H E).nox (defBody st) (t_Flat K)) : FnOk Pg w K mg base CX0 (k + 1) f fd ["self"] (spIn K ["word"] gFlat) := by
  refine F.ok S (fun vs H Q E h => ?_) (fun cdv A outer sh H vs Q E hr h => ?_)
  · obtain ⟨a, C, ws, fs, rfl, _, _, _, hg, _⟩ := h
    cases ws with
    | nil => rfl
    | cons _ _ => cases hg
  · obtain ⟨a, C, ws, fs, rfl, ha, ox, hn, hg, q⟩ := h
    cases ws with
    | cons _ _ => cases hg
    | nil =>
      cases hg
      exact ⟨_, hb cdv A outer sh H E, rd_Flat ha ox (hn _ (List.mem_singleton.mpr rfl)) q⟩
abbrev xFlat : Xw := ⟨"Flat", [("word", .str "Flat")]⟩
abbrev W0 : WX := fun _ _ _ _ => False
end U

end
section
namespace U
open PySem PyProof.Rows L2 Evl
/-- what is told of an own exception class by its name -/
structure ClsF (K : Fg) (cs : Cs) (c : Str) (nm : List Str) : Prop where
  ox : OxK K (cs c)
  no : ∀ n ∈ nm, PySem.W.findIn K (.ref (cs c)) n = some none
section
variable {K : Fg}
theorem fund_mk {x qual : Str} {st : Stmt} {f T : Addr} {oc ot : Value} {od odt an : Option Addr} {osl osT : Array (Option Value)} {kV doc pm cdv ct : Value} {its : List Value} {n : Nat} {dvs : List V}
    (l : K.lookup f = some ⟨oc, od, .func (PySem.W.fnOf x qual (defArgs st) (defBody st) (defScope st) (.ref T) kV doc pm an cdv ct), osl⟩)
    (c : PySem.W.codeIn K cdv qual = true) (k : PySem.W.keepIn K (.ref f) = true) (t : K.lookup T = some ⟨ot, odt, .seq its.toArray n, osT⟩) (r : Vals dvs its) (hd : dvs ≠ []) :
    FunD K x qual (defArgs st) (defBody st) (defScope st) dvs [] f (PySem.W.fnOf x qual (defArgs st) (defBody st) (defScope st) (.ref T) kV doc pm an cdv ct) :=
  ⟨⟨oc, od, _, kV, doc, pm, an, cdv, ct, osl, rfl, l, c, .inr ⟨hd, T, _, its, n, rfl, t, rfl, r⟩, .inl rfl⟩, k⟩
theorem fundk_mk {x qual : Str} {st : Stmt} {f D : Addr} {oc : Value} {od an : Option Addr} {osl : Array (Option Value)} {doc pm cdv ct : Value} {kws : List (Str × V)}
    (l : K.lookup f = some ⟨oc, od, .func (PySem.W.fnOf x qual (defArgs st) (defBody st) (defScope st) .none (.ref D) doc pm an cdv ct), osl⟩)
    (c : PySem.W.codeIn K cdv qual = true) (k : PySem.W.keepIn K (.ref f) = true) (h : ∀ q ∈ kws, ∃ u, PySem.W.nsIn K D q.1 = some (some u) ∧ RelV q.2 u) :
    FunD K x qual (defArgs st) (defBody st) (defScope st) [] kws f (PySem.W.fnOf x qual (defArgs st) (defBody st) (defScope st) .none (.ref D) doc pm an cdv ct) :=
  ⟨⟨oc, od, _, _, doc, pm, an, cdv, ct, osl, rfl, l, c, .inl ⟨rfl, rfl⟩, .inr ⟨D, rfl, h⟩⟩, k⟩
/-- exmOne of own classes -/
theorem em_of {C : Addr} {cls : Value} {b : Bool} (h1 : PySem.W.subIn K (.ref C) (.type "BaseException") = some true) (hdct : PySem.W.hasDictIn K C = true) (ht : PySem.W.typeIn K (.ref C) = some (.type "type")) (h4 : PySem.W.subIn K cls (.ref C) = some b) : PySem.W.exmOne K cls (.ref C) = some b := PySem.W.exm_ref h1 hdct ht h4
end
end U

end
section
/-! Own exceptions whose __init__ calls the base class's own. -/
namespace U
open PySem PySem.W PyProof.Rows L2 Evl
/-- C.m(e, ..), C an own class, m a plain def of it -/
theorem pe_up {X : Cx} {CX : CXT} {k : Nat} {x m : Str} {C g : Addr} {mc : Value} {fd : FuncData} {ps : List Str} {sp : Sp} {E : XK} {ds : List Value} {dvs : List V} {e : Expr} {es : List Expr} {t : TA} {p pos apos : Pos} {pl : Sem Bool}
    (hg : Gl X x) (hm : X.mg x = some (.ref C)) (rd : readsIn X.K C mc = true) (ga : specialIn X.K (.ref C) "__getattribute__" = some (some (.builtin "type.__getattribute__"))) (fa : findCls X.K (.ref C) mc m = some (.val (.ref g)))
    (hk : keepIn X.K (.ref g) = true) (F : FnOk X.prog X.w X.K X.mg X.base CX k g fd ps sp) (hr : Room k X.A) (hb : Binds X.K fd ps ds) (hd : Vals dvs ds) (hx : Passes CX X E) (ha : PA X (e :: es) t) (hdb : (x == ("__debug__" : Str)) = false := by decide)
    (ht : eval (.Call (.Attribute (.Name x p) m apos) (e :: es) [] pos) X.env = (do
      let ov ← eval (.Name x p) X.env
      standAt apos.atName
      let (f, first) ← holding [ov] (getMethod ov m pl)
      callWith pos f first (backTo pos (starEach (e :: es) X.env)) (backToKw pos (keywordEach [] X.env))) := by rfl)
    (he : starEach (e :: es) X.env = (false, eval e X.env) :: starEach es X.env := by rfl) (hpl : (backTo pos (starEach es X.env)).any (·.1) = false := by rfl) :
    PE X (.Call (.Attribute (.Name x p) m apos) (e :: es) [] pos) (tCall sp dvs E t) := by
  refine ⟨fun pins s σ H Q I h => ?_⟩
  refine methodCall_KW (pl := pl) (ld_glob I hg hm ?_ hdb) ht
  refine method_cls I.kIn ga (cls_value I.kIn rd fa rfl ?_)
  show wpAny _ _ (callWith pos (.ref g) [] (backTo pos (starEach (e :: es) X.env)) []) _ _ _
  refine callWith_K (h₀ := X.base) I.ok.mod.kin hk (thn (ha.run pos pins _ σ H _ (I.tok _) h) fun us s1 hh => ?_) he hpl
  obtain ⟨vs, H1, I1, r, q⟩ := hh
  exact ⟨I1.kIn, run_fn F hr hb hd hx I1 r q⟩
/-- self.word = word -/
abbrev gWd : List V → Option (List (Str × V)) := fun ws => match ws with
  | [v] => some [("word", v)]
  | _ => none
/-- a word that is always the same -/
abbrev gCw (w : Str) : List V → Option (List (Str × V)) := fun ws => match ws with
  | [] => some [("word", .str w)]
  | _ => none
def t_Wd (K : Fg) : TS := tOx K "word" (tVar 0) (tVar 1)
section
variable {Pg : Program} {w : World} {K : Fg} {mg : Str → Option Value} {base : Heap} {cs : Cs}
theorem okWd {st : Stmt} {qual : Str} {dvs : List V} {f : Addr} {fd : FuncData} {k : Nat} (F : FunD K "__init__" qual (defArgs st) (defBody st) (defScope st) dvs [] f fd) (S : FnScope ["self", "word"] ["self", "word"] (defScope st))
    (hb : ∀ (cdv : Value) (A : Around) (outer : List Env) (sh : Shared) (H : Hp) (E : XK), PSs (cxOf CX0 Pg w K mg base ["self", "word"] qual (defScope st) f cdv A outer sh H E) (defBody st) (t_Wd K)) : FnOk Pg w K mg base CX0 (k + 1) f fd ["self", "word"] (spIn K ["word"] gWd) := by
  refine F.ok S (fun vs H Q E h => ?_) (fun cdv A outer sh H vs Q E hr h => ?_)
  · obtain ⟨a, C, ws, fs, rfl, _, _, _, hg, _⟩ := h
    match ws, hg with
    | [v], _ => rfl
  · obtain ⟨a, C, ws, fs, rfl, ha, ox, hn, hg, q⟩ := h
    match ws, hg with
    | [v], hg =>
      cases hg
      refine ⟨_, hb cdv A outer sh H E, ?_⟩
      refine ⟨v, rfl, .ref a, rfl, a, C, rfl, ox, hn _ (List.mem_singleton.mpr rfl), .inl ⟨ha, fun d hd hda => ?_⟩⟩
      exact q d _ hd upd_same (by rw [upd_ne hda, upd_same]) fun b h1 h2 => by rw [upd_ne h1, upd_ne h2]
def t_Sub (K : Fg) (w : Str) : TS := tDrop (tCall (spIn K ["word"] gWd) [] E0 (tCons (tVar 0) (tCons (tC (V.str w)) tNil)))
theorem okSub (wd : Str) {st : Stmt} {qual : Str} {f : Addr} {fd : FuncData} {k : Nat} (F : Fun K "__init__" qual st f fd) (S : FnScope ["self"] ["self"] (defScope st))
    (hb : ∀ (cdv : Value) (A : Around) (outer : List Env) (sh : Shared) (H : Hp) (E : XK), Room k (A.deeper (envOfC qual (defScope st) sh.heap.objs.size f cdv)) → PSs (cxOf CX0 Pg w K mg base ["self"] qual (defScope st) f cdv A outer sh H E).nox (defBody st) (t_Sub K wd)) : FnOk Pg w K mg base CX0 (k + 1) f fd ["self"] (spIn K ["word"] (gCw wd)) := by
  refine F.ok S (fun vs H Q E h => ?_) (fun cdv A outer sh H vs Q E hr h => ?_)
  · obtain ⟨a, C, ws, fs, rfl, _, _, _, hg, _⟩ := h
    match ws, hg with
    | [], _ => rfl
  · obtain ⟨a, C, ws, fs, rfl, ha, ox, hn, hg, q⟩ := h
    match ws, hg with
    | [], hg =>
      cases hg
      refine ⟨_, hb cdv A outer sh H E hr, ?_⟩
      exact ⟨.ref a, rfl, a, C, [.str wd], _, rfl, ha, ox, hn, rfl, fun d H' h1 h2 h3 h4 => q d H' h1 h2 h3 h4⟩
end
abbrev xWd (c : Str) : Xw := ⟨c, [("word", .str c)]⟩
end U

end
section
namespace U
open PySem PyProof.Rows L2 Evl
/-- the values of a module's constants -/
abbrev Gs := Str → V
/-- for .. in a list or a tuple -/
def iSeq (K : Fg) (tl : TE) : TI := fun σ H R => tl σ H fun x H1 => ∃ a, x = .ref a ∧ (((∃ xs, SqL K H1 a xs) ∧ R (Itl K a) H1) ∨ ((∃ xs, SqT K H1 a xs) ∧ R (Itt K a) H1))
theorem pi_seq {X : Cx} {tg l : Expr} {tl : TE} (hl : PE X l tl) : PI X tg l (iSeq X.K tl) := by
  refine ⟨fun pins s σ H R I h => ?_⟩
  refine thn (hl.run pins s σ H _ I h) fun v s1 hh => ?_
  obtain ⟨x, H1, I1, r1, a, e, q1⟩ := hh
  subst e
  cases r1
  have fp : ∀ b, b ∈ [s1.heap.objs.size] → FpOk X pins H1 b := fun b hb => by
    have e : b = s1.heap.objs.size := by simpa using hb
    subst e
    exact I1.fpOk (Nat.le_refl _) (I1.hok.fresh (Nat.le_refl _))
  rcases q1 with ⟨⟨xs, hq⟩, q⟩ | ⟨⟨xs, hq⟩, q⟩
  · obtain ⟨its, rv, p, hz⟩ := I1.list hq
    refine wpAny_pyIter_list p.isList ?_
    exact ⟨s1.heap.objs.size, [s1.heap.objs.size], _, _, H1, rfl, I1.kept (t' := s1.toks) fun b o e => Heap.get?_push_of_some _ e, turn_list a _, ⟨_, Heap.get?_push_size _ rfl, rfl, rfl⟩, fp, q⟩
  · obtain ⟨its, rv, p, hz⟩ := I1.tuple hq
    refine wpAny_pyIter_tuple (show s1.heap.IsTuple a its.toArray from p) ?_
    exact ⟨s1.heap.objs.size, [s1.heap.objs.size], _, _, H1, rfl, I1.kept (t' := s1.toks) fun b o e => Heap.get?_push_of_some _ e, turn_tuple a _, ⟨_, Heap.get?_push_size _ rfl, rfl, rfl⟩, fp, q⟩
section
variable {K : Fg} {cs : Cs} {W : WX} {G G' G1 : Gam} {s s1 s2 s' : Bag} {ta tb te : TE} {x y : PyData} {e : Xw}
end
end U

end
section
namespace U
open PySem PySem.W PyProof.Rows L2 Evl
/-- *a, b = a tuple -/
def gStar (K : Fg) (t : TGs) : TG := fun v σ H Q => ∃ p ys x, v = .ref p ∧ SqT K H p (ys ++ [x]) ∧ ys.length ≤ 10000 ∧ ∀ l, H l = none → t [.ref l, x] σ (upd H l (.lst ys)) Q
section
variable {prog : Program} {w : World} {A : Around} {E : Value → Shared → Prop} {s : Shared}
theorem star_items {t : Addr} {items : Array Value} {Q : List Value → Shared → Prop} (hh : A.handled = none) (hl : IsTup s.heap t items) (h0 : 1 ≤ items.size) (hz : items.size ≤ 16384)
    (h : ∀ h' tk, Heap.ExtBut s.heap.objs.size s.heap h' → wpAny (model prog w) A (newList (items.toList.take (items.size - 1)) >>= fun d => pure ([d] ++ items.toList.drop (items.size - 1))) Q E { s with heap := h', toks := tk }) : wpAny (model prog w) A (unpackItems (.ref t) 2 (some 0)) Q E s := by
  have hlt : t ≠ s.heap.objs.size := by obtain ⟨o, ho, _⟩ := hl; exact Nat.ne_of_lt (Heap.lt_size ho)
  unfold unpackItems
  refine wpAny_bind ?_
  unfold notIterableAtAll
  refine wpAny_bind (wpAny_specialOf hl.typeIs slot_tuple_iter.lookup ?_)
  refine wpAny_pure ?_
  simp only [Bool.false_eq_true, if_false]
  refine wpAny_bind (wpAny_holding (iter_tuple hl ?_))
  refine wpAny_bind (wpAny_holding (draw_tuple hlt 0 0 _ _ ⟨_, Heap.get?_push_size _ rfl, rfl, rfl⟩ (hl.push _) (by omega) fun h₁ hit₁ hs₁ => ?_))
  have hl₁ : IsTup h₁ t items := (hl.push _).extBut hs₁.extBut hlt
  obtain ⟨oi, hoi, _⟩ := id hit₁
  obtain ⟨ol, hol, _⟩ := id hl₁
  rw [List.take_zero]
  rw [if_neg (by simp)]
  refine wpAny_bind (wpAny_holding (kun_collect (s := { s with heap := h₁ }) (T := "tuple_iterator") (.inr (.inr (.inr rfl))) (Walks.tuple (A := A.in1) hh s.heap.objs.size t hlt items) (fun j u st => st.1.typeIs) (k := 0) (by omega) ⟨hit₁, hl₁⟩ (Heap.lt_size hoi) (Heap.lt_size hol) (fun h₂ tk hk => ?_) (by rw [sizeLine_eq]; omega)))
  rw [List.drop_zero]
  have hrl : items.toList.length = items.size := Array.length_toList
  show wpAny _ _ (if items.toList.length < 2 - 1 - 0 then _ else _) _ _ _
  rw [if_neg (by rw [hrl]; omega)]
  have he : Heap.ExtBut s.heap.objs.size s.heap h₂ := fun b o hb e => hk b o hb (hs₁.extBut b o hb (Heap.get?_push_of_some _ e))
  have hh2 := h h₂ tk he
  rw [← hrl] at hh2
  exact hh2
end
theorem pg_star {X : Cx} {a b : Expr} {p pos : Pos} {k : Nat} {t : TGs} (hc : X.calm = true) (h : PGs X [a, b] t)
    (hn : (assignEach [.Starred a p, b] X.env).length = 2 := by rfl) (hst : (assignEach [.Starred a p, b] X.env).findIdx? (·.1) = some 0 := by rfl)
    (hm : (assignEach [.Starred a p, b] X.env).map (·.2) = (assignEach [a, b] X.env).map (·.2) := by rfl) : PG X (.Tuple [.Starred a p, b] k pos) (gStar X.K t) := by
  refine ⟨fun pins s σ H v u Q I r hw => ?_⟩
  obtain ⟨q, ys, x, e1, hq, hl, hw⟩ := hw
  subst e1
  cases r
  obtain ⟨its, rv, ht, hz⟩ := I.tuple hq
  have hlen : its.length = ys.length + 1 := by rw [← rv.length, List.length_append]; rfl
  obtain ⟨us, w, rfl, ru, rw'⟩ : ∃ us w, its = us ++ [w] ∧ Vals ys us ∧ RelV x w := by
    have key : ∀ (ys : List V) (x : V) (its : List Value), Vals (ys ++ [x]) its → ∃ us w, its = us ++ [w] ∧ Vals ys us ∧ RelV x w := fun ys => by
      induction ys with
      | nil =>
        intro x its r
        cases r with
        | cons a b => cases b; exact ⟨[], _, rfl, .nil, a⟩
      | cons y ys ih =>
        intro x its r
        cases r with
        | cons a b =>
          obtain ⟨us, w, rfl, r1, r2⟩ := ih _ _ b
          exact ⟨_ :: us, w, rfl, .cons a r1, r2⟩
    exact key ys x its rv
  have hus : us.length = ys.length := by simpa using hlen
  rw [assign_Tuple]
  refine wpAny_bind (wpAny_standAt ?_)
  unfold unpack
  rw [hn, hst, hm]
  refine wpAny_bind (wpAny_holding (star_items (I.ok.hd hc) ht (by simp) (by simp; omega) fun h' tk he => ?_))
  have e1 : (us ++ [w]).toArray.toList.take ((us ++ [w]).toArray.size - 1) = us := by simp
  have e2 : (us ++ [w]).toArray.toList.drop ((us ++ [w]).toArray.size - 1) = [w] := by simp
  rw [e1, e2]
  have I1 : Inv X pins σ H { s with heap := h', toks := tk } := I.kept (t' := tk) fun b o e => he b o (Nat.ne_of_lt (Heap.lt_size e)) e
  refine wpAny_bind (wpAny_newList ?_ (by rw [sizeLine_eq]; omega))
  refine wpAny_pure ?_
  have I2 := I1.lnew (t' := tk) ru (Nat.le_trans hl (by decide))
  exact h.run pins _ σ _ [.ref _, x] _ Q I2 (.cons rfl (.cons rw' .nil)) (hw _ I1.fresh)
end U

end
section
/-! The second data layer: what is wanted of a reading, and what suffices for it. Slots hold data, things of one's own, or the bag. -/
namespace U.N
open PySem L2 Evl
/-- a thing of one's own: what it holds, and how it stands in the heap -/
structure Own where
  flat : List PyData
  obj : Addr → List V → HO
/-- a list of one's own -/
def ol (xs : List PyData) : Own := ⟨xs, fun _ vs => .lst vs⟩
inductive En where
  | un
  | d (x : PyData)
  | ow (c : Own)
  | bag
  /-- a caught exception: itself, its dict, its fields -/
  | xc (a d : Addr) (fs : List (Str × V))
  /-- a thing that stays as it is -/
  | fz (c : Own)
abbrev Gam := List En
def Zs (W : Addr → Prop) (B : Option (Addr × Addr)) (ad : Nat → Addr) (G : Gam) : Addr → Prop := fun a => W a ∨ (∃ i c, G[i]? = some (.ow c) ∧ a = ad i) ∨ InB B a
def Slot (K : Fg) (B : Option (Addr × Addr)) (ad : Nat → Addr) (H : Hp) (Z : Addr → Prop) (i : Nat) (o : Option V) : En → Prop
  | .un => True
  | .d x => ∃ v, o = some v ∧ Dp K (less H Z) v x
  | .ow c => o = some (.ref (ad i)) ∧ ∃ vs, H (ad i) = some (c.obj (ad i) vs) ∧ DpAll K (less H Z) vs c.flat
  | .bag => ∃ b c, B = some (b, c) ∧ o = some (.ref b)
  | .xc a d fs => o = some (.ref a) ∧ less H Z d = some (.xd fs)
  | .fz c => ∃ a vs, o = some (.ref a) ∧ less H Z a = some (c.obj a vs) ∧ DpAll K (less H Z) vs c.flat
def BagOk (H : Hp) (B : Option (Addr × Addr)) : Prop := ∃ s : Bag, s.ok ∧ BagAt H B s
theorem BagOk.xb {H H2 : Hp} {B : Option (Addr × Addr)} (h : BagOk H B) (e : ∀ a, InB B a → H2 a = H a) : BagOk H2 B := by
  obtain ⟨s, ok, h⟩ := h
  refine ⟨s, ok, ?_⟩
  rcases B with _ | ⟨b, c⟩
  · trivial
  · have h : H b = _ ∧ _ := h
    exact ⟨(e b ⟨b, c, rfl, .inl rfl⟩).trans h.1, (e c ⟨b, c, rfl, .inr rfl⟩).trans h.2.1, h.2.2⟩
theorem BagOk.there {H : Hp} {B : Option (Addr × Addr)} (h : BagOk H B) {a : Addr} (z : InB B a) : ∃ o, H a = some o := by
  obtain ⟨s, ok, h⟩ := h
  exact bag_there h z
theorem BagOk.ext {H H2 : Hp} {B : Option (Addr × Addr)} (h : BagOk H B) (e : Ex H H2) : BagOk H2 B := h.xb fun a z => by
  obtain ⟨o, q⟩ := h.there z
  rw [q, e _ _ q]
theorem BagOk.upd {H : Hp} {B : Option (Addr × Addr)} (h : BagOk H B) {p : Addr} {o : HO} (n : ¬ InB B p) : BagOk (upd H p o) B := h.xb fun a z => upd_ne fun e => n (e ▸ z)
/-- the state of a def's frame: slots, heap, bag, against the heap H0 at its entry -/
structure Sta (K : Fg) (W : Addr → Prop) (B : Option (Addr × Addr)) (ad : Nat → Addr) (H0 H : Hp) (σ : St) (G : Gam) : Prop where
  len : σ.length = G.length
  at_ : ∀ i e, G[i]? = some e → ∃ o, σ[i]? = some o ∧ Slot K B ad H (Zs W B ad G) i o e
  inj : ∀ i j c c', G[i]? = some (.ow c) → G[j]? = some (.ow c') → ad i = ad j → i = j
  sep : ∀ i c, G[i]? = some (.ow c) → H0 (ad i) = none ∧ ¬ InB B (ad i) ∧ ¬ W (ad i)
  base : ∀ a o, H0 a = some o → ¬ InB B a → H a = some o
  bag : BagOk H B
  wd : ∀ a, W a → ∃ o, H a = some o
section
variable {K : Fg} {W : Addr → Prop} {B : Option (Addr × Addr)} {ad : Nat → Addr} {H0 H H2 : Hp} {σ : St} {G G' : Gam}
theorem Slot.mono {Z Z' : Addr → Prop} {i : Nat} {o : Option V} {e : En} (h : Slot K B ad H Z i o e) (x : Ex (less H Z) (less H2 Z')) (y : ∀ c u, e = .ow c → H (ad i) = some u → H2 (ad i) = some u) : Slot K B ad H2 Z' i o e := by
  cases e with
  | un => trivial
  | d d => obtain ⟨v, e, h⟩ := h; exact ⟨v, e, dp_mono x h⟩
  | ow c => obtain ⟨e, vs, h1, h2⟩ := h; exact ⟨e, vs, y c _ rfl h1, dpa_mono x h2⟩
  | bag => exact h
  | xc a d fs => exact ⟨h.1, x _ _ h.2⟩
  | fz c => obtain ⟨a, vs, e, h1, h2⟩ := h; exact ⟨a, vs, e, x _ _ h1, dpa_mono x h2⟩
theorem Sta.there (S : Sta K W B ad H0 H σ G) (a : Addr) (z : Zs W B ad G a) : ∃ o, H a = some o := by
  rcases z with z | ⟨i, c, g, rfl⟩ | z
  · exact S.wd _ z
  · obtain ⟨_, _, _, vs, h1, _⟩ := S.at_ i _ g
    exact ⟨_, h1⟩
  · exact S.bag.there z
/-- everything stays -/
theorem Sta.ext (S : Sta K W B ad H0 H σ G) (e : Ex H H2) : Sta K W B ad H0 H2 σ G where
  len := S.len
  at_ := fun i en h => by
    obtain ⟨o, h1, h2⟩ := S.at_ i en h
    exact ⟨o, h1, h2.mono (less_mono e) fun _ _ _ q => e _ _ q⟩
  inj := S.inj
  sep := S.sep
  base := fun a o h n => e _ _ (S.base a o h n)
  bag := S.bag.ext e
  wd := fun a z => by
    obtain ⟨o, h⟩ := S.wd a z
    exact ⟨o, e _ _ h⟩
/-- all but the bag stays -/
theorem Sta.drawn (S : Sta K W B ad H0 H σ G) (e : Xb B H H2) (b : BagOk H2 B) : Sta K W B ad H0 H2 σ G where
  len := S.len
  at_ := fun i en h => by
    obtain ⟨o, h1, h2⟩ := S.at_ i en h
    refine ⟨o, h1, h2.mono (less_but fun a o q z => e a o q fun y => z (.inr (.inr y))) fun c vs q q2 => ?_⟩
    subst q
    exact e _ _ q2 (S.sep i c h).2.1
  inj := S.inj
  sep := S.sep
  base := fun a o h n => e a o (S.base a o h n) n
  bag := b
  wd := fun a z => by
    by_cases hb : InB B a
    · exact b.there hb
    · obtain ⟨o, h⟩ := S.wd a z
      exact ⟨o, e _ _ h hb⟩
theorem Xb.lz {H H2 : Hp} (a : Xb B H H2) : Ex (less H (Zs W B ad G)) (less H2 (Zs W B ad G)) := less_but fun p o h n => a p o h fun z => n (.inr (.inr z))
theorem Zs.set_of {i : Nat} {e : En} (he : ∀ c, e ≠ .ow c) {a : Addr} (h : Zs W B ad (G.set i e) a) : Zs W B ad G a := by
  rcases h with h | ⟨j, c, h, r⟩ | h
  · exact .inl h
  · rcases get_set h with ⟨rfl, _, e'⟩ | ⟨_, h⟩
    · exact absurd e' (he c)
    · exact .inr (.inl ⟨j, c, h, r⟩)
  · exact .inr (.inr h)
/-- a slot gets a thing that is not of one's own -/
theorem Sta.set (S : Sta K W B ad H0 H σ G) {i : Nat} {e : En} {o : Option V} (he : ∀ c, e ≠ .ow c) (h : Slot K B ad H (Zs W B ad G) i o e) : Sta K W B ad H0 H (σ.set i o) (G.set i e) where
  len := by rw [List.length_set, List.length_set]; exact S.len
  at_ := fun j en g => by
    rcases get_set g with ⟨rfl, l, rfl⟩ | ⟨z, g⟩
    · refine ⟨o, List.getElem?_set_self (by rw [S.len]; exact l), h.mono (less_sub fun a q => Zs.set_of he q) fun _ _ _ q => q⟩
    · obtain ⟨o', h1, h2⟩ := S.at_ j en g
      exact ⟨o', by rw [List.getElem?_set_ne z]; exact h1, h2.mono (less_sub fun a q => Zs.set_of he q) fun _ _ _ q => q⟩
  inj := fun j k c c' g g' q => by
    rcases get_set g with ⟨rfl, l, e⟩ | ⟨z, g⟩
    · exact absurd e (he c)
    · rcases get_set g' with ⟨rfl, l, e⟩ | ⟨z', g'⟩
      · exact absurd e (he c')
      · exact S.inj j k c c' g g' q
  sep := fun j c g => by
    rcases get_set g with ⟨rfl, l, e⟩ | ⟨z, g⟩
    · exact absurd e (he c)
    · exact S.sep j c g
  base := S.base
  bag := S.bag
  wd := S.wd
theorem Sta.setD (S : Sta K W B ad H0 H σ G) {i : Nat} {v : V} {x : PyData} (h : Dp K (less H (Zs W B ad G)) v x) : Sta K W B ad H0 H (σ.set i (some v)) (G.set i (.d x)) :=
  S.set (fun _ z => by cases z) ⟨v, rfl, h⟩
theorem Sta.setU (S : Sta K W B ad H0 H σ G) {i : Nat} {o : Option V} : Sta K W B ad H0 H (σ.set i o) (G.set i .un) :=
  S.set (fun _ z => by cases z) trivial
theorem Sta.fresh (S : Sta K W B ad H0 H σ G) {p : Addr} (h : H p = none) : H0 p = none ∧ ¬ InB B p ∧ ¬ Zs W B ad G p := by
  have hZ : ¬ Zs W B ad G p := fun z => by
    obtain ⟨o, q⟩ := S.there p z
    rw [h] at q; cases q
  have hB : ¬ InB B p := fun z => hZ (.inr (.inr z))
  refine ⟨?_, hB, hZ⟩
  cases e : H0 p with
  | none => rfl
  | some o => rw [S.base p o e hB] at h; cases h
theorem own_ex {i : Nat} {p : Addr} {u : HO} {c : Own} (hp : H p = none) : Ex (less H (Zs W B ad G)) (less (upd H p u) (Zs W B (swp ad i p) (G.set i (.ow c)))) := fun a o q => by
  obtain ⟨q1, q2⟩ := less_some q
  have na : a ≠ p := ne_of_none q2 hp
  refine less_of (fun z => ?_) (by rw [upd_ne na]; exact q2)
  rcases z with z | ⟨j, c, g, r⟩ | z
  · exact q1 (.inl z)
  · rcases get_set g with ⟨rfl, l, e⟩ | ⟨z, g⟩
    · rw [swp_same] at r; exact na r
    · rw [swp_ne z] at r
      exact q1 (.inr (.inl ⟨j, c, g, r⟩))
  · exact q1 (.inr (.inr z))
/-- a new thing of one's own -/
theorem Sta.setOwn (S : Sta K W B ad H0 H σ G) {i : Nat} {p : Addr} {vs : List V} {c : Own} (hp : H p = none) (h : DpAll K (less H (Zs W B ad G)) vs c.flat) :
    Sta K W B (swp ad i p) H0 (upd H p (c.obj p vs)) (σ.set i (some (.ref p))) (G.set i (.ow c)) := by
  obtain ⟨h0, hB, hZ⟩ := S.fresh hp
  have ex : Ex (less H (Zs W B ad G)) (less (upd H p (c.obj p vs)) (Zs W B (swp ad i p) (G.set i (.ow c)))) := own_ex hp
  have hne : ∀ j c', G[j]? = some (.ow c') → ad j ≠ p := fun j c' g z => hZ (.inr (.inl ⟨j, c', g, z.symm⟩))
  refine ⟨by rw [List.length_set, List.length_set]; exact S.len, fun j en g => ?_, fun j k ys zs g g' q => ?_, fun j ys g => ?_, fun a o q n => ?_, S.bag.upd hB, fun a z => (S.wd a z).elim fun o q => upd_there q⟩
  · rcases get_set g with ⟨rfl, l, rfl⟩ | ⟨z, g⟩
    · exact ⟨_, List.getElem?_set_self (by rw [S.len]; exact l), by rw [swp_same], vs, by rw [swp_same]; exact upd_same, dpa_mono ex h⟩
    · obtain ⟨o', h1, h2⟩ := S.at_ j en g
      refine ⟨o', by rw [List.getElem?_set_ne z]; exact h1, ?_⟩
      cases en with
      | un => trivial
      | d d => obtain ⟨v, e, h⟩ := h2; exact ⟨v, e, dp_mono ex h⟩
      | ow ys =>
        obtain ⟨e, us, h3, h4⟩ := h2
        have hj : swp ad i p j = ad j := swp_ne z
        exact ⟨by rw [hj]; exact e, us, by rw [hj, upd_ne (hne j ys g)]; exact h3, dpa_mono ex h4⟩
      | bag => exact h2
      | xc a d fs => exact ⟨h2.1, ex _ _ h2.2⟩
      | fz c => obtain ⟨a, vs, e, h1, h2⟩ := h2; exact ⟨a, vs, e, ex _ _ h1, dpa_mono ex h2⟩
  · rcases get_set g with ⟨rfl, l, e⟩ | ⟨z, g⟩
    · rcases get_set g' with ⟨rfl, l', e'⟩ | ⟨z', g'⟩
      · rfl
      · rw [swp_same, swp_ne z'] at q
        exact absurd q.symm (hne k zs g')
    · rcases get_set g' with ⟨rfl, l', e'⟩ | ⟨z', g'⟩
      · rw [swp_same, swp_ne z] at q
        exact absurd q (hne j ys g)
      · rw [swp_ne z, swp_ne z'] at q
        exact S.inj j k ys zs g g' q
  · rcases get_set g with ⟨rfl, l, e⟩ | ⟨z, g⟩
    · rw [swp_same]
      refine ⟨h0, hB, fun z => hZ (.inl z)⟩
    · rw [swp_ne z]; exact S.sep j ys g
  · rw [upd_ne (fun z => by rw [z, h0] at q; cases q)]
    exact S.base a o q n
theorem chg_zz {i : Nat} {c c' : Own} (hi : G[i]? = some (.ow c)) (a : Addr) : Zs W B ad (G.set i (.ow c')) a ↔ Zs W B ad G a := by
  have il : i < G.length := (List.getElem?_eq_some_iff.mp hi).1
  constructor
  · rintro (h | ⟨j, zs, g, r⟩ | h)
    · exact .inl h
    · rcases get_set g with ⟨rfl, l, e⟩ | ⟨z, g⟩
      · exact .inr (.inl ⟨i, c, hi, r⟩)
      · exact .inr (.inl ⟨j, zs, g, r⟩)
    · exact .inr (.inr h)
  · rintro (h | ⟨j, zs, g, r⟩ | h)
    · exact .inl h
    · by_cases z : i = j
      · subst z
        exact .inr (.inl ⟨i, c', List.getElem?_set_self il, r⟩)
      · exact .inr (.inl ⟨j, zs, by rw [List.getElem?_set_ne z]; exact g, r⟩)
    · exact .inr (.inr h)
theorem chg_ex {i : Nat} {c c' : Own} {u : HO} (hi : G[i]? = some (.ow c)) : Ex (less H (Zs W B ad G)) (less (upd H (ad i) u) (Zs W B ad (G.set i (.ow c')))) := fun a o q => by
  obtain ⟨q1, q2⟩ := less_some q
  refine less_of (fun z => q1 ((chg_zz hi a).mp z)) ?_
  rw [upd_ne (fun z => q1 (.inr (.inl ⟨i, c, hi, z⟩)))]; exact q2
/-- a thing of one's own is changed -/
theorem Sta.chg (S : Sta K W B ad H0 H σ G) {i : Nat} {c c' : Own} {vs : List V} (hi : G[i]? = some (.ow c)) (h : DpAll K (less H (Zs W B ad G)) vs c'.flat) : Sta K W B ad H0 (upd H (ad i) (c'.obj (ad i) vs)) σ (G.set i (.ow c')) := by
  have ex : Ex (less H (Zs W B ad G)) (less (upd H (ad i) (c'.obj (ad i) vs)) (Zs W B ad (G.set i (.ow c')))) := chg_ex hi
  obtain ⟨s0, sB, sW⟩ := S.sep i c hi
  refine ⟨by rw [List.length_set]; exact S.len, fun j en g => ?_, fun j k ys' zs g g' q => ?_, fun j zs g => ?_, fun a o q n => ?_, S.bag.upd sB, fun a z => (S.wd a z).elim fun o q => upd_there q⟩
  · rcases get_set g with ⟨rfl, l, rfl⟩ | ⟨z, g⟩
    · obtain ⟨o', h1, h2, _⟩ := S.at_ i _ hi
      exact ⟨o', h1, h2, vs, upd_same, dpa_mono ex h⟩
    · obtain ⟨o', h1, h2⟩ := S.at_ j en g
      refine ⟨o', h1, ?_⟩
      cases en with
      | un => trivial
      | d d => obtain ⟨v, e, h⟩ := h2; exact ⟨v, e, dp_mono ex h⟩
      | ow zs =>
        obtain ⟨e, us, h3, h4⟩ := h2
        exact ⟨e, us, by rw [upd_ne (fun w => z (S.inj i j c zs hi g w.symm))]; exact h3, dpa_mono ex h4⟩
      | bag => exact h2
      | xc a d fs => exact ⟨h2.1, ex _ _ h2.2⟩
      | fz c => obtain ⟨a, vs, e, h1, h2⟩ := h2; exact ⟨a, vs, e, ex _ _ h1, dpa_mono ex h2⟩
  · rcases get_set g with ⟨rfl, l, e⟩ | ⟨z, g⟩
    · rcases get_set g' with ⟨rfl, l', e'⟩ | ⟨z', g'⟩
      · rfl
      · exact S.inj i k c zs hi g' q
    · rcases get_set g' with ⟨rfl, l', e'⟩ | ⟨z', g'⟩
      · exact S.inj j i ys' c g hi q
      · exact S.inj j k ys' zs g g' q
  · rcases get_set g with ⟨rfl, l, e⟩ | ⟨z, g⟩
    · exact S.sep i c hi
    · exact S.sep j zs g
  · rw [upd_ne (fun z => by rw [z, s0] at q; cases q)]
    exact S.base a o q n
/-- a list of one's own is from now on data -/
theorem Sta.freeze (S : Sta K W B ad H0 H σ G) {i : Nat} {xs : List PyData} (hi : G[i]? = some (.ow (ol xs))) : Sta K W B ad H0 H σ (G.set i (.d (.list xs))) := by
  have ex : Ex (less H (Zs W B ad G)) (less H (Zs W B ad (G.set i (.d (.list xs))))) := less_sub fun a q => Zs.set_of (fun _ z => by cases z) q
  refine ⟨by rw [List.length_set]; exact S.len, fun j en g => ?_, fun j k ys' zs g g' q => ?_, fun j zs g => ?_, S.base, S.bag, S.wd⟩
  · rcases get_set g with ⟨rfl, l, rfl⟩ | ⟨z, g⟩
    · obtain ⟨o', h1, h2, vs, h3, h4⟩ := S.at_ i _ hi
      refine ⟨o', h1, _, h2, .lst (sq_of (less_of ?_ h3)) (dpa_mono ex h4)⟩
      rintro (z | ⟨j, zs, g, r⟩ | z)
      · exact (S.sep i _ hi).2.2 z
      · rcases get_set g with ⟨rfl, _, e⟩ | ⟨z, g⟩
        · cases e
        · exact z (S.inj i j _ zs hi g r)
      · exact (S.sep i _ hi).2.1 z
    · obtain ⟨o', h1, h2⟩ := S.at_ j en g
      exact ⟨o', h1, h2.mono ex fun _ _ _ q => q⟩
  · rcases get_set g with ⟨rfl, l, e⟩ | ⟨z, g⟩
    · cases e
    · rcases get_set g' with ⟨rfl, l', e'⟩ | ⟨z', g'⟩
      · cases e'
      · exact S.inj j k ys' zs g g' q
  · rcases get_set g with ⟨rfl, l, e⟩ | ⟨z, g⟩
    · cases e
    · exact S.sep j zs g
/-- a thing of one's own stays from now on as it is -/
theorem Sta.freezeO (S : Sta K W B ad H0 H σ G) {i : Nat} {c : Own} (hi : G[i]? = some (.ow c)) : Sta K W B ad H0 H σ (G.set i (.fz c)) := by
  have ex : Ex (less H (Zs W B ad G)) (less H (Zs W B ad (G.set i (.fz c)))) := less_sub fun a q => Zs.set_of (fun _ z => by cases z) q
  refine ⟨by rw [List.length_set]; exact S.len, fun j en g => ?_, fun j k ys' zs g g' q => ?_, fun j zs g => ?_, S.base, S.bag, S.wd⟩
  · rcases get_set g with ⟨rfl, l, rfl⟩ | ⟨z, g⟩
    · obtain ⟨o', h1, h2, vs, h3, h4⟩ := S.at_ i _ hi
      refine ⟨o', h1, _, _, h2, less_of ?_ h3, dpa_mono ex h4⟩
      rintro (z | ⟨j, zs, g, r⟩ | z)
      · exact (S.sep i _ hi).2.2 z
      · rcases get_set g with ⟨rfl, _, e⟩ | ⟨z, g⟩
        · cases e
        · exact z (S.inj i j _ zs hi g r)
      · exact (S.sep i _ hi).2.1 z
    · obtain ⟨o', h1, h2⟩ := S.at_ j en g
      exact ⟨o', h1, h2.mono ex fun _ _ _ q => q⟩
  · rcases get_set g with ⟨rfl, l, e⟩ | ⟨z, g⟩
    · cases e
    · rcases get_set g' with ⟨rfl, l', e'⟩ | ⟨z', g'⟩
      · cases e'
      · exact S.inj j k ys' zs g g' q
  · rcases get_set g with ⟨rfl, l, e⟩ | ⟨z, g⟩
    · cases e
    · exact S.sep j zs g
/-- a thing of another's, which is new to this def, is changed -/
theorem Sta.foreign (S : Sta K W B ad H0 H σ G) {p : Addr} {o : HO} (hw : W p) (h0 : H0 p = none) (hB : ¬ InB B p) : Sta K W B ad H0 (upd H p o) σ G ∧ less (upd H p o) (Zs W B ad G) = less H (Zs W B ad G) := by
  have el : less (upd H p o) (Zs W B ad G) = less H (Zs W B ad G) := by
    funext a
    by_cases z : Zs W B ad G a
    · rw [less_yes z, less_yes z]
    · rw [less_no z, less_no z, upd_ne (fun e => z (.inl (by rw [e]; exact hw)))]
  refine ⟨⟨S.len, fun i e h => ?_, S.inj, S.sep, fun a u q n => ?_, S.bag.upd hB, fun a z => (S.wd a z).elim fun o q => upd_there q⟩, el⟩
  · obtain ⟨u, g1, g2⟩ := S.at_ i e h
    refine ⟨u, g1, g2.mono (by rw [el]; exact Ex.refl _) fun c vs q q2 => ?_⟩
    subst q
    rw [upd_ne (fun z => (S.sep i c h).2.2 (by rw [z]; exact hw))]; exact q2
  · rw [upd_ne (fun z => by rw [z, h0] at q; cases q)]; exact S.base a u q n
/-- a new thing is for a while another's -/
theorem Sta.lend (S : Sta K W B ad H0 H σ G) {p : Addr} {o : HO} (hp : H p = none) : Sta K (fun a => W a ∨ a = p) B ad H0 (upd H p o) σ G ∧ less (upd H p o) (Zs (fun a => W a ∨ a = p) B ad G) = less H (Zs W B ad G) := by
  obtain ⟨_, _, np⟩ := S.fresh hp
  have zz : ∀ a, Zs (fun a => W a ∨ a = p) B ad G a ↔ Zs W B ad G a ∨ a = p := fun a => by
    constructor
    · rintro ((z | z) | z | z)
      · exact .inl (.inl z)
      · exact .inr z
      · exact .inl (.inr (.inl z))
      · exact .inl (.inr (.inr z))
    · rintro ((z | z | z) | z)
      · exact .inl (.inl z)
      · exact .inr (.inl z)
      · exact .inr (.inr z)
      · exact .inl (.inr z)
  have el : less (upd H p o) (Zs (fun a => W a ∨ a = p) B ad G) = less H (Zs W B ad G) := by
    funext a
    by_cases e : a = p
    · rw [less_yes ((zz a).mpr (.inr e)), e, less_no np, hp]
    · by_cases z : Zs W B ad G a
      · rw [less_yes z, less_yes ((zz a).mpr (.inl z))]
      · rw [less_no z, less_no (fun y => ((zz a).mp y).elim z e), upd_ne e]
  have ex : Ex H (upd H p o) := Ex.new hp
  have S' := S.ext ex
  refine ⟨⟨S.len, fun i e h => ?_, S.inj, fun i c h => ⟨(S.sep i c h).1, (S.sep i c h).2.1, fun z => z.elim (S.sep i c h).2.2 fun z => np (by rw [← z]; exact .inr (.inl ⟨i, c, h, rfl⟩))⟩, S'.base, S'.bag, fun a z => z.elim (fun z => S'.wd a z) fun z => ⟨o, by rw [z]; exact upd_same⟩⟩, el⟩
  obtain ⟨u, g1, g2⟩ := S.at_ i e h
  exact ⟨u, g1, g2.mono (by rw [el]; exact Ex.refl _) fun c vs q q2 => ex _ _ q2⟩
/-- .. and is given back -/
theorem Sta.back {p : Addr} (S : Sta K (fun a => W a ∨ a = p) B ad H0 H σ G) : Sta K W B ad H0 H σ G ∧ Ex (less H (Zs (fun a => W a ∨ a = p) B ad G)) (less H (Zs W B ad G)) := by
  have ex : Ex (less H (Zs (fun a => W a ∨ a = p) B ad G)) (less H (Zs W B ad G)) := less_sub fun a z => z.elim (fun z => .inl (.inl z)) .inr
  refine ⟨⟨S.len, fun i e h => ?_, S.inj, fun i c h => ⟨(S.sep i c h).1, (S.sep i c h).2.1, fun z => (S.sep i c h).2.2 (.inl z)⟩, S.base, S.bag, fun a z => S.wd a (.inl z)⟩, ex⟩
  obtain ⟨u, g1, g2⟩ := S.at_ i e h
  exact ⟨u, g1, g2.mono ex fun _ _ _ q => q⟩
theorem new_ex (S : Sta K W B ad H0 H σ G) {p : Addr} {o : HO} (h : H p = none) :
    Sta K W B ad H0 (upd H p o) σ G ∧ Xb B H (upd H p o) ∧ less (upd H p o) (Zs W B ad G) p = some o := by
  have e : Ex H (upd H p o) := Ex.new h
  exact ⟨S.ext e, .of e, less_of (S.fresh h).2.2 upd_same⟩
end
end U.N

end
section
namespace U.N
open PySem PyProof.Rows L2 Evl
/-! ### relations by name -/
@[irreducible] def rAddI : R2 := rI0 fun i j => .int (i + j)
@[irreducible] def rSubI : R2 := rI0 fun i j => .int (i - j)
@[irreducible] def rMulI : R2 := rI CMulW fun i j => .int (i * j)
@[irreducible] def rDivI : R2 := rI CDvX fun i j => .int (i.fdiv j)
@[irreducible] def rModI : R2 := rI CNz fun i j => .int (i.fmod j)
@[irreducible] def rPowI : R2 := rI CPow fun i j => .int (i ^ j.toNat)
@[irreducible] def rLtI : R2 := rI0 fun i j => .bl (decide (i < j))
@[irreducible] def rLeI : R2 := rI0 fun i j => .bl (decide (i ≤ j))
@[irreducible] def rGtI : R2 := rI0 fun i j => .bl (decide (j < i))
@[irreducible] def rNegI : V → Hp → VK → Prop := rU fun i => .int (-i)
section
variable {X : Cx}
theorem op_addI : OpR X (binaryOp .Add) rAddI := by unfold rAddI; exact op_add
theorem op_subI : OpR X (binaryOp .Sub) rSubI := by unfold rSubI; exact op_sub
theorem op_mulI : OpR X (binaryOp .Mult) rMulI := by unfold rMulI; exact op_mulW
theorem op_divI : OpR X (binaryOp .FloorDiv) rDivI := by unfold rDivI; exact op_fdivX
theorem op_modI : OpR X (binaryOp .Mod) rModI := by unfold rModI; exact op_modX
theorem op_powI : OpR X (binaryOp .Pow) rPowI := by unfold rPowI; exact op_pow
theorem op_ltI : OpR X (compareOp .Lt) rLtI := by unfold rLtI; exact op_lt
theorem op_leI : OpR X (compareOp .LtE) rLeI := by unfold rLeI; exact op_le
theorem op_gtI : OpR X (compareOp .Gt) rGtI := by unfold rGtI; exact op_gt
theorem un_negI : UnR X (unaryOp .USub) rNegI := by unfold rNegI; exact un_neg
end
/-! ### what is wanted -/
section
variable (K : Fg) (cs : Cs) (W : WX)
/-- what may leave by raising -/
def XP (Wd : Addr → Prop) (B : Option (Addr × Addr)) (ad : Nat → Addr) (H0 H : Hp) (σ : St) (G : Gam) (ε : Xw → Prop) : Prop :=
  ∀ e, ε e → ∀ d H2, Sta K Wd B ad H0 H2 σ G → Xb B H H2 → H0 d = none → less H2 (Zs Wd B ad G) d = some (.xd e.fs) → W (.ref (cs e.cls)) (some d) σ H2
def EW (te : TE) (G : Gam) (φ : PyData → Prop) (ε : Xw → Prop) : Prop :=
  ∀ Wd B ad H0 H σ, Sta K Wd B ad H0 H σ G → ∀ Q : VK, (∀ x, φ x → ∀ v H2, Sta K Wd B ad H0 H2 σ G → Xb B H H2 → Dp K (less H2 (Zs Wd B ad G)) v x → Q v H2) → XP K cs W Wd B ad H0 H σ G ε → te σ H Q
/-- a new thing of one's own -/
def EF (te : TE) (G : Gam) (ψ : Own → Prop) (ε : Xw → Prop) : Prop :=
  ∀ Wd B ad H0 H σ, Sta K Wd B ad H0 H σ G → ∀ Q : VK, (∀ c, ψ c → ∀ a vs H2, Sta K Wd B ad H0 H2 σ G → Xb B H H2 → H2 a = none → DpAll K (less H2 (Zs Wd B ad G)) vs c.flat → Q (.ref a) (upd H2 a (c.obj a vs))) → XP K cs W Wd B ad H0 H σ G ε → te σ H Q
def TW (tt : TT) (G : Gam) (ψ : Bool → Prop) (ε : Xw → Prop) : Prop :=
  ∀ Wd B ad H0 H σ, Sta K Wd B ad H0 H σ G → ∀ Q : Bool → Hp → Prop, (∀ b, ψ b → ∀ H2, Sta K Wd B ad H0 H2 σ G → Xb B H H2 → Q b H2) → XP K cs W Wd B ad H0 H σ G ε → tt σ H Q
def AW (ta : TA) (G : Gam) (α : List PyData → Prop) (ε : Xw → Prop) : Prop :=
  ∀ Wd B ad H0 H σ, Sta K Wd B ad H0 H σ G → ∀ Q : List V → Hp → Prop, (∀ xs, α xs → ∀ vs H2, Sta K Wd B ad H0 H2 σ G → Xb B H H2 → DpAll K (less H2 (Zs Wd B ad G)) vs xs → Q vs H2) → XP K cs W Wd B ad H0 H σ G ε → ta σ H Q
def IW (wi : TI) (G : Gam) (ι : List PyData → Prop) (ε : Xw → Prop) : Prop :=
  ∀ Wd B ad H0 H σ, Sta K Wd B ad H0 H σ G → ∀ R : It → Hp → Prop, (∀ ds, ι ds → ∀ J H1, Sta K Wd B ad H0 H1 σ G → Xb B H H1 → ItOk K J ds (less H1 (Zs Wd B ad G)) → R J H1) → XP K cs W Wd B ad H0 H σ G ε → wi σ H R
def OW (to : TO) (G : Gam) (ψ : Option Int → Prop) (ε : Xw → Prop) : Prop :=
  ∀ Wd B ad H0 H σ, Sta K Wd B ad H0 H σ G → ∀ Q : Option Int → Hp → Prop, (∀ o, ψ o → ∀ H2, Sta K Wd B ad H0 H2 σ G → Xb B H H2 → Q o H2) → XP K cs W Wd B ad H0 H σ G ε → to σ H Q
inductive Out where
  | nx (G : Gam)
  | rt (x : PyData)
  | rl (c : Own)
  | bk (G : Gam)
  | ct (G : Gam)
  | ex (e : Xw) (G : Gam)
def PostO (Wd : Addr → Prop) (B : Option (Addr × Addr)) (H0 M : Hp) (D : Ends) : Out → Prop
  | .nx G => ∀ ad H σ, Sta K Wd B ad H0 H σ G → Ex M (less H (Zs Wd B ad G)) → D.nx σ H
  | .rt x => ∀ v H, Xb B H0 H → BagOk H B → Dp K (less H fun a => Wd a ∨ InB B a) v x → D.rt v H
  | .rl c => ∀ a vs H, Xb B H0 H → BagOk H B → H0 a = none → H a = some (c.obj a vs) → DpAll K (less H fun b => (Wd b ∨ InB B b) ∨ b = a) vs c.flat → D.rt (.ref a) H
  | .bk G => ∀ ad H σ, Sta K Wd B ad H0 H σ G → Ex M (less H (Zs Wd B ad G)) → D.bk σ H
  | .ct G => ∀ ad H σ, Sta K Wd B ad H0 H σ G → Ex M (less H (Zs Wd B ad G)) → D.ct σ H
  | .ex e G => ∀ d ad H σ, Sta K Wd B ad H0 H σ G → Ex M (less H (Zs Wd B ad G)) → H0 d = none → less H (Zs Wd B ad G) d = some (.xd e.fs) → W (.ref (cs e.cls)) (some d) σ H
def SW (ts : TS) (G : Gam) (Φ : Out → Prop) : Prop :=
  ∀ Wd B ad H0 H σ (D : Ends), Sta K Wd B ad H0 H σ G → (∀ o, Φ o → PostO K cs W Wd B H0 (less H (Zs Wd B ad G)) D o) → ts D σ H
end
def Cnd (b : Bool) (P Q : Prop) : Prop := (b = true → P) ∧ (b = false → Q)
section
variable {P Q : Prop} {b : Bool}
theorem cnd_t (p : P) : Cnd true P Q := ⟨fun _ => p, (nomatch ·)⟩
theorem cnd_f (q : Q) : Cnd false P Q := ⟨(nomatch ·), fun _ => q⟩
theorem cnd_nt (q : Q) : Cnd (!true) P Q := cnd_f q
theorem cnd_nf (p : P) : Cnd (!false) P Q := cnd_t p
theorem cnd_T (h : b = true) (p : P) : Cnd b P Q := ⟨fun _ => p, fun h' => by rw [h] at h'; cases h'⟩
theorem cnd_F (h : b = false) (q : Q) : Cnd b P Q := ⟨fun h' => (by rw [h] at h'; cases h'), fun _ => q⟩
theorem cnd_b (p : b = true → P) (q : b = false → Q) : Cnd b P Q := ⟨p, q⟩
theorem cnd_yes {p : Prop} [Decidable p] (h : p) (x : P) : Cnd (decide p) P Q := cnd_T (decide_eq_true h) x
theorem cnd_no {p : Prop} [Decidable p] (h : ¬ p) (x : Q) : Cnd (decide p) P Q := cnd_F (decide_eq_false h) x
theorem cnd_d {p : Prop} [Decidable p] (x : p → P) (y : ¬ p → Q) : Cnd (decide p) P Q := ⟨fun h => x (of_decide_eq_true h), fun h => y (of_decide_eq_false h)⟩
theorem cnd_nd {p : Prop} [Decidable p] (x : ¬ p → P) (y : p → Q) : Cnd (!decide p) P Q := ⟨fun h => x (fun z => by rw [decide_eq_true z] at h; cases h), fun h => y (Classical.byContradiction fun z => by rw [decide_eq_false z] at h; cases h)⟩
end
section
variable {K : Fg} {cs : Cs} {W : WX} {G G' G1 G2 : Gam} {ta tb tc te : TE} {t u : TT} {φ : PyData → Prop} {ε : Xw → Prop} {ψ : Bool → Prop} {α : List PyData → Prop} {ι : List PyData → Prop} {χ : Own → Prop} {ω : Option Int → Prop}
variable {Wd : Addr → Prop} {B : Option (Addr × Addr)} {ad : Nat → Addr} {H0 H H1 H2 : Hp} {σ : St}
theorem XP.go (h : XP K cs W Wd B ad H0 H σ G ε) (x : Xb B H H1) : XP K cs W Wd B ad H0 H1 σ G ε := fun e he d H2 S y hd hx => h e he d H2 S (x.trans y) hd hx
theorem ew_mono {φ' : PyData → Prop} (h : EW K cs W te G φ ε) (m : ∀ x, φ x → φ' x) : EW K cs W te G φ' ε := fun Wd B ad H0 H σ S Q q x => h Wd B ad H0 H σ S Q (fun y hy => q y (m y hy)) x
theorem aw_mono {α' : List PyData → Prop} {ta : TA} (h : AW K cs W ta G α ε) (m : ∀ x, α x → α' x) : AW K cs W ta G α' ε := fun Wd B ad H0 H σ S Q q x => h Wd B ad H0 H σ S Q (fun y hy => q y (m y hy)) x
theorem tw_mono {ψ' : Bool → Prop} (h : TW K cs W t G ψ ε) (m : ∀ x, ψ x → ψ' x) : TW K cs W t G ψ' ε := fun Wd B ad H0 H σ S Q q x => h Wd B ad H0 H σ S Q (fun y hy => q y (m y hy)) x
/-! ### values -/
theorem ew_var {i : Nat} {x : PyData} (h : G[i]? = some (.d x)) (p : φ x) : EW K cs W (tVar i) G φ ε := fun Wd B ad H0 H σ S Q q _ => by
  obtain ⟨o, h1, v, rfl, h2⟩ := S.at_ i _ h
  exact ⟨v, h1, q x p v H S Xb.refl h2⟩
theorem ew_glob {v : V} {x : PyData} (h : ∀ H, Dp K H v x) (p : φ x) : EW K cs W (tC v) G φ ε := fun Wd B ad H0 H σ S Q q _ => q x p _ H S Xb.refl (h _)
theorem ew_int {i : Int} (p : φ (.int i)) : EW K cs W (tC (.int i)) G φ ε := ew_glob (fun _ => .int i) p
theorem ew_str {b : Str} (p : φ (.str b)) : EW K cs W (tC (.str b)) G φ ε := ew_glob (fun _ => .str b) p
/-! ### arguments, displays -/
theorem aw_nil (p : α []) : AW K cs W tNil G α ε := fun Wd B ad H0 H σ S Q q _ => q _ p _ H S Xb.refl .nil
theorem aw_cons {tr : TA} (h : EW K cs W ta G (fun x => AW K cs W tr G (fun xs => α (x :: xs)) ε) ε) : AW K cs W (tCons ta tr) G α ε := fun Wd B ad H0 H σ S Q q x =>
  h Wd B ad H0 H σ S _ (fun x1 p1 v H1 S1 e1 d1 => p1 Wd B ad H0 H1 σ S1 _ (fun xs p2 vs H2 S2 e2 d2 => q _ p2 _ H2 S2 (e1.trans e2) (.cons (dp_mono (Xb.lz e2) d1) d2)) (x.go e1)) x
theorem ew_ef (h : EF K cs W te G (fun c => ∃ xs, c = ol xs ∧ φ (.list xs)) ε) : EW K cs W te G φ ε := fun Wd B ad H0 H σ S Q q x =>
  h Wd B ad H0 H σ S _ (fun c p a vs H2 S2 e2 hn d => by
    obtain ⟨xs, rfl, p⟩ := p
    obtain ⟨S3, e3, g⟩ := new_ex (o := .lst vs) S2 hn
    exact q _ p _ _ S3 (e2.trans e3) (.lst (sq_of g) (dpa_mono (Xb.lz e3) d))) x
theorem ew_tup {ta : TA} (h : AW K cs W ta G (fun xs => xs.length ≤ 16000000 ∧ φ (.tuple xs)) ε) : EW K cs W (tTup ta) G φ ε := fun Wd B ad H0 H σ S Q q x =>
  h Wd B ad H0 H σ S _ (fun xs p vs H1 S1 e1 d1 => ⟨by rw [dpa_len d1]; exact sz_line p.1, fun a ha => by
    obtain ⟨S2, e2, g⟩ := new_ex (o := .tup vs) S1 ha
    exact q _ p.2 _ _ S2 (e1.trans e2) (.tup (st_of g) (dpa_mono (Xb.lz e2) d1))⟩) x
theorem ef_lst {ta : TA} (h : AW K cs W ta G (fun xs => xs.length ≤ 16000000 ∧ χ (ol xs)) ε) : EF K cs W (tLst ta) G χ ε := fun Wd B ad H0 H σ S Q q x =>
  h Wd B ad H0 H σ S _ (fun xs p vs H1 S1 e1 d1 => ⟨by rw [dpa_len d1]; exact sz_line p.1, fun a ha => q _ p.2 a vs H1 S1 e1 ha d1⟩) x
theorem ew_lst {ta : TA} (h : AW K cs W ta G (fun xs => xs.length ≤ 16000000 ∧ φ (.list xs)) ε) : EW K cs W (tLst ta) G φ ε := ew_ef (ef_lst (aw_mono h fun xs p => ⟨p.1, xs, rfl, p.2⟩))
/-! ### operators -/
theorem ew_op {r : R2} (h : EW K cs W ta G (fun x => EW K cs W tb G (fun y => ∀ Wd B ad H0 H σ v w, Sta K Wd B ad H0 H σ G → Dp K (less H (Zs Wd B ad G)) v x → Dp K (less H (Zs Wd B ad G)) w y → ∀ Q : VK, (∀ z, φ z → ∀ v H2, Sta K Wd B ad H0 H2 σ G → Xb B H H2 → Dp K (less H2 (Zs Wd B ad G)) v z → Q v H2) → r v w H Q) ε) ε) : EW K cs W (tOp r ta tb) G φ ε := fun Wd B ad H0 H σ S Q q x =>
  h Wd B ad H0 H σ S _ (fun x1 p1 v H1 S1 e1 d1 => p1 Wd B ad H0 H1 σ S1 _ (fun y p2 w H2 S2 e2 d2 => p2 Wd B ad H0 H2 σ v w S2 (dp_mono (Xb.lz e2) d1) d2 Q fun z p v H3 S3 e3 d3 => q z p v H3 S3 ((e1.trans e2).trans e3) d3) (x.go e1)) x
theorem ew_I0 {g : Int → Int → V} {f : Int → Int → PyData} (hg : ∀ i j H, Dp K H (g i j) (f i j)) (h : EW K cs W ta G (fun x => ∃ i, x = .int i ∧ EW K cs W tb G (fun y => ∃ j, y = .int j ∧ φ (f i j)) ε) ε) : EW K cs W (tOp (rI0 g) ta tb) G φ ε :=
  ew_op (ew_mono h fun x ⟨i, e, h⟩ => ew_mono h fun y ⟨j, e2, p⟩ => fun Wd B ad H0 H σ v w S d1 d2 Q q => by
    subst e; subst e2
    cases d1; cases d2
    exact ⟨i, j, rfl, rfl, q _ p _ H S Xb.refl (hg i j _)⟩)
theorem ew_I {C : Int → Int → Prop} {g : Int → Int → V} {f : Int → Int → PyData} (hg : ∀ i j H, Dp K H (g i j) (f i j)) (h : EW K cs W ta G (fun x => ∃ i, x = .int i ∧ EW K cs W tb G (fun y => ∃ j, y = .int j ∧ C i j ∧ φ (f i j)) ε) ε) : EW K cs W (tOp (rI C g) ta tb) G φ ε :=
  ew_op (ew_mono h fun x ⟨i, e, h⟩ => ew_mono h fun y ⟨j, e2, c, p⟩ => fun Wd B ad H0 H σ v w S d1 d2 Q q => by
    subst e; subst e2
    cases d1; cases d2
    exact ⟨i, j, rfl, rfl, c, q _ p _ H S Xb.refl (hg i j _)⟩)
theorem ew_add (h : EW K cs W ta G (fun x => ∃ i, x = .int i ∧ EW K cs W tb G (fun y => ∃ j, y = .int j ∧ φ (.int (i + j))) ε) ε) : EW K cs W (tOp rAddI ta tb) G φ ε := by unfold rAddI; exact ew_I0 (f := fun i j => .int (i + j)) (fun _ _ _ => .int _) h
theorem ew_sub (h : EW K cs W ta G (fun x => ∃ i, x = .int i ∧ EW K cs W tb G (fun y => ∃ j, y = .int j ∧ φ (.int (i - j))) ε) ε) : EW K cs W (tOp rSubI ta tb) G φ ε := by unfold rSubI; exact ew_I0 (f := fun i j => .int (i - j)) (fun _ _ _ => .int _) h
theorem ew_mul (h : EW K cs W ta G (fun x => ∃ i, x = .int i ∧ EW K cs W tb G (fun y => ∃ j, y = .int j ∧ CMulW i j ∧ φ (.int (i * j))) ε) ε) : EW K cs W (tOp rMulI ta tb) G φ ε := by unfold rMulI; exact ew_I (f := fun i j => .int (i * j)) (fun _ _ _ => .int _) h
theorem ew_div (h : EW K cs W ta G (fun x => ∃ i, x = .int i ∧ EW K cs W tb G (fun y => ∃ j, y = .int j ∧ CDvX i j ∧ φ (.int (i.fdiv j))) ε) ε) : EW K cs W (tOp rDivI ta tb) G φ ε := by unfold rDivI; exact ew_I (f := fun i j => .int (i.fdiv j)) (fun _ _ _ => .int _) h
theorem ew_mod (h : EW K cs W ta G (fun x => ∃ i, x = .int i ∧ EW K cs W tb G (fun y => ∃ j, y = .int j ∧ CNz i j ∧ φ (.int (i.fmod j))) ε) ε) : EW K cs W (tOp rModI ta tb) G φ ε := by unfold rModI; exact ew_I (f := fun i j => .int (i.fmod j)) (fun _ _ _ => .int _) h
theorem ew_pow (h : EW K cs W ta G (fun x => ∃ i, x = .int i ∧ EW K cs W tb G (fun y => ∃ j, y = .int j ∧ CPow i j ∧ φ (.int (i ^ j.toNat))) ε) ε) : EW K cs W (tOp rPowI ta tb) G φ ε := by unfold rPowI; exact ew_I (f := fun i j => .int (i ^ j.toNat)) (fun _ _ _ => .int _) h
theorem ew_lt (h : EW K cs W ta G (fun x => ∃ i, x = .int i ∧ EW K cs W tb G (fun y => ∃ j, y = .int j ∧ φ (.bool (decide (i < j)))) ε) ε) : EW K cs W (tOp rLtI ta tb) G φ ε := by unfold rLtI; exact ew_I0 (f := fun i j => .bool (decide (i < j))) (fun _ _ _ => .bl _) h
theorem ew_le (h : EW K cs W ta G (fun x => ∃ i, x = .int i ∧ EW K cs W tb G (fun y => ∃ j, y = .int j ∧ φ (.bool (decide (i ≤ j)))) ε) ε) : EW K cs W (tOp rLeI ta tb) G φ ε := by unfold rLeI; exact ew_I0 (f := fun i j => .bool (decide (i ≤ j))) (fun _ _ _ => .bl _) h
theorem ew_gt (h : EW K cs W ta G (fun x => ∃ i, x = .int i ∧ EW K cs W tb G (fun y => ∃ j, y = .int j ∧ φ (.bool (decide (j < i)))) ε) ε) : EW K cs W (tOp rGtI ta tb) G φ ε := by unfold rGtI; exact ew_I0 (f := fun i j => .bool (decide (j < i))) (fun _ _ _ => .bl _) h
theorem ew_neg (h : EW K cs W ta G (fun x => ∃ i, x = .int i ∧ φ (.int (-i))) ε) : EW K cs W (tUn rNegI ta) G φ ε := by
 unfold rNegI
 exact fun Wd B ad H0 H σ S Q q x => h Wd B ad H0 H σ S _ (fun y ⟨i, e, p⟩ v H1 S1 e1 d1 => by
    subst e
    cases d1
    exact ⟨i, rfl, q _ p _ H1 S1 e1 (.int _)⟩) x
/-- == of scalars -/
def scEq : PyData → PyData → Option Bool
  | .int i, .int j => some (decide (i = j))
  | .str i, .str j => some (decide (i = j))
  | .bool i, .bool j => some (decide (i = j))
  | .none, .none => some true
  | _, _ => none
theorem sc_eq {H : Hp} {v w : V} {x y : PyData} {b : Bool} (d1 : Dp K H v x) (d2 : Dp K H w y) (h : scEq x y = some b) : scal v w = true ∧ decide (v = w) = b := by
  cases d1 <;> cases d2 <;> first | (cases h; done) | skip
  · cases h; exact ⟨rfl, rfl⟩
  · cases h; exact ⟨rfl, by simp⟩
  · cases h; exact ⟨rfl, by simp⟩
  · cases h; exact ⟨rfl, by simp⟩
theorem ew_eq (h : EW K cs W ta G (fun x => EW K cs W tb G (fun y => ∃ b, scEq x y = some b ∧ φ (.bool b)) ε) ε) : EW K cs W (tOp rEq ta tb) G φ ε :=
  ew_op (ew_mono h fun x h => ew_mono h fun y ⟨b, e, p⟩ => fun Wd B ad H0 H σ v w S d1 d2 Q q => by
    obtain ⟨h1, h2⟩ := sc_eq d1 d2 e
    exact ⟨h1, by rw [h2]; exact q _ p _ H S Xb.refl (.bl _)⟩)
theorem ew_ne (h : EW K cs W ta G (fun x => EW K cs W tb G (fun y => ∃ b, scEq x y = some b ∧ φ (.bool (!b))) ε) ε) : EW K cs W (tOp rNe ta tb) G φ ε :=
  ew_op (ew_mono h fun x h => ew_mono h fun y ⟨b, e, p⟩ => fun Wd B ad H0 H σ v w S d1 d2 Q q => by
    obtain ⟨h1, h2⟩ := sc_eq d1 d2 e
    exact ⟨h1, by rw [h2]; exact q _ p _ H S Xb.refl (.bl _)⟩)
theorem ew_chain {r r' : R2} {f f' : Int → Int → Bool} (hr : ∀ i j H Q, Q (V.bl (f i j)) H → r (.int i) (.int j) H Q) (hr' : ∀ i j H Q, Q (V.bl (f' i j)) H → r' (.int i) (.int j) H Q)
    (h : EW K cs W ta G (fun x => ∃ i, x = .int i ∧ EW K cs W tb G (fun y => ∃ j, y = .int j ∧ Cnd (f i j) (EW K cs W tc G (fun z => ∃ k, z = .int k ∧ φ (.bool (f' j k))) ε) (φ (.bool false))) ε) ε) : EW K cs W (tChain r r' ta tb tc) G φ ε := fun Wd B ad H0 H σ S Q q x =>
  h Wd B ad H0 H σ S _ (fun x1 ⟨i, ei, p1⟩ v H1 S1 e1 d1 => p1 Wd B ad H0 H1 σ S1 _ (fun y ⟨j, ej, p2⟩ w H2 S2 e2 d2 => by
    subst ei; subst ej
    cases d1; cases d2
    refine hr i j H2 _ ⟨f i j, rfl, ?_⟩
    cases hf : f i j with
    | false => exact q _ (p2.2 hf) _ H2 S2 (e1.trans e2) (.bl _)
    | true =>
      refine p2.1 hf Wd B ad H0 H2 σ S2 _ (fun z ⟨k, ek, p3⟩ u H3 S3 e3 d3 => ?_) ((x.go e1).go e2)
      subst ek
      cases d3
      exact hr' j k H3 _ (q _ p3 _ H3 S3 ((e1.trans e2).trans e3) (.bl _))) (x.go e1)) x
theorem ew_leLe (h : EW K cs W ta G (fun x => ∃ i, x = .int i ∧ EW K cs W tb G (fun y => ∃ j, y = .int j ∧ Cnd (decide (i ≤ j)) (EW K cs W tc G (fun z => ∃ k, z = .int k ∧ φ (.bool (decide (j ≤ k)))) ε) (φ (.bool false))) ε) ε) : EW K cs W (tChain rLeI rLeI ta tb tc) G φ ε :=
  ew_chain (fun i j H Q q => by unfold rLeI; exact ⟨i, j, rfl, rfl, q⟩) (fun i j H Q q => by unfold rLeI; exact ⟨i, j, rfl, rfl, q⟩) h
end
end U.N

end
section
namespace U
open PySem PyProof.Rows L2 Evl
local macro_rules | `(tactic| walk_at "ev1") => `(tactic| first
  | exact ev_int | exact ev_bl | exact ev_str | exact ev_non | exact ev_var rfl | exact ea_nil | exact eo_none
  | with_reducible apply ev_ixDisp | with_reducible apply ev_fst | with_reducible apply ev_snd
  | with_reducible apply ev_add | with_reducible apply ev_sub | with_reducible apply ev_mul | with_reducible apply ev_fdiv | with_reducible apply ev_mod | with_reducible apply ev_pow
  | with_reducible apply ev_lt | with_reducible apply ev_le | with_reducible apply ev_gt | with_reducible apply ev_ge
  | with_reducible apply ev_eqI | with_reducible apply ev_neI
  | with_reducible apply ev_neg | with_reducible apply ev_subB | with_reducible apply ev_isNo | with_reducible apply ev_noNo
  | with_reducible apply ev_not | with_reducible apply et_test | with_reducible apply et_B | with_reducible apply et_not
  | with_reducible apply ev_abs | with_reducible apply ev_max | with_reducible apply ev_min | with_reducible apply ev_intB
  | with_reducible apply ev_gcd | with_reducible apply ev_frac | with_reducible apply ev_fadd | with_reducible apply ev_sign | with_reducible apply ev_cmpF
  | with_reducible apply ev_pull rfl
  | with_reducible apply ev_like
  | with_reducible apply ev_tup | with_reducible apply ev_lst | with_reducible apply ea_cons | with_reducible apply eo_some
  | with_reducible apply ev_order | exact ev_part rfl | exact ev_far rfl | exact ev_farPart rfl
  | (with_reducible show List.length _ ≤ 16000000; (simp; done)) | (with_reducible show (0 : Int) < _; decide) | (with_reducible show (_ : Int) < 1000000000000; decide) | (with_reducible show CPow _ _; (unfold CPow; decide)) | (with_reducible show CNz _ _; (unfold CNz; decide))
  | with_reducible apply sg_ret | with_reducible apply sg_asg | with_reducible apply sg_next)
local macro_rules | `(tactic| walk_at "ln") => `(tactic| first | walk_at "ev1" | with_reducible apply sg_seq)

theorem kit_dict_bool : kitB "dict" "bool" = some false := by decide +kernel
theorem kit_dict_int : kitB "dict" "int" = some false := by decide +kernel
theorem kit_dict_list : kitB "dict" "list" = some false := by decide +kernel
theorem kit_dict_tuple : kitB "dict" "tuple" = some false := by decide +kernel
def isTup : PyData → Bool
  | .tuple _ => true
  | _ => false
def isLst : PyData → Bool
  | .list _ => true
  | _ => false
def isBool : PyData → Bool
  | .bool _ => true
  | _ => false
def isInt : PyData → Bool
  | .int _ => true
  | .bool _ => true
  | _ => false
def isWhole : PyData → Bool
  | .int _ => true
  | _ => false
theorem kit_tup (x : PyData) : kitB (tyN x) "tuple" = some (isTup x) := by
  cases x
  all_goals first | exact kit_NoneType_tuple | exact kit_bool_tuple | exact kit_int_tuple | exact kit_str_tuple | exact kit_list_tuple | exact kit_tuple_tuple | exact kit_dict_tuple
theorem kit_lst (x : PyData) : kitB (tyN x) "list" = some (isLst x) := by
  cases x
  all_goals first | exact kit_NoneType_list | exact kit_bool_list | exact kit_int_list | exact kit_str_list | exact kit_list_list | exact kit_tuple_list | exact kit_dict_list
theorem kit_int (x : PyData) : kitB (tyN x) "int" = some (isInt x) := by
  cases x
  all_goals first | exact kit_NoneType_int | exact kit_bool_int | exact kit_int_int | exact kit_str_int | exact kit_list_int | exact kit_tuple_int | exact kit_dict_int
theorem kit_bool (x : PyData) : kitB (tyN x) "bool" = some (isBool x) := by
  cases x
  all_goals first | exact kit_NoneType_bool | exact kit_bool_bool | exact kit_int_bool | exact kit_str_bool | exact kit_list_bool | exact kit_tuple_bool | exact kit_dict_bool
def P_isWhole : List PyData → PyData → Prop := fun ds r => ∃ x, ds = [x] ∧ r = .bool (isWhole x)
def isPart2 : PyData → PyData → Bool
  | .int a, .int b => decide (0 < b) && decide (gI a b = 1)
  | _, _ => false
def isPart : PyData → Bool
  | .tuple [p, q] => isPart2 p q
  | _ => false
def P_isPart : List PyData → PyData → Prop := fun ds r => ∃ x, ds = [x] ∧ r = .bool (isPart x)
section
variable {K : Fg} {G : Gam} {s s1 s2 s' : Bag} {ta tb te : TE} {x y : PyData} {E : XK}
theorem ev_isWhole (h : EvG K ta G s x s1) : EvG K (tCall (spP K P_isWhole) [] E (tCons ta tNil)) G s (.bool (isWhole x)) s1 := ev_call (ea_cons h ea_nil) (fun _ => .nil) ⟨x, rfl, rfl⟩
theorem ev_isPart (h : EvG K ta G s x s1) : EvG K (tCall (spP K P_isPart) [] E (tCons ta tNil)) G s (.bool (isPart x)) s1 := ev_call (ea_cons h ea_nil) (fun _ => .nil) ⟨x, rfl, rfl⟩
end
section
variable {K : Fg}
def t_is_whole (K : Fg) : TS := (tRet (tAndV (tCB (rIsi K) (tCons (tVar 0) (tCons (tC (V.ty "int")) tNil))) (tNotV (tCB (rIsi K) (tCons (tVar 0) (tCons (tC (V.ty "bool")) tNil))))))
-- slots of is_whole: 0 thing
theorem ln_is_whole : ∀ ds r, P_isWhole ds r → ds.length = 1 := fun ds r h => by obtain ⟨p, rfl, _⟩ := h; rfl
theorem rd_is_whole {ds r} (h : P_isWhole ds r) (b : Bag) : SG K (t_is_whole K) (frame 1 ds) b (.rt r b) := by
  obtain ⟨x, rfl, rfl⟩ := h
  unfold t_is_whole
  refine sg_ret (ev_is (ev_and (ev_isi (ev_var rfl) (kit_int x)) fun _ => ev_not (ev_isi (ev_var rfl) (kit_bool x))) ?_)
  cases x <;> rfl
def t_shared (K : Fg) : TS := (tSeq (tPar 0 1 (tCons (tCB rAbs (tCons (tVar 0) tNil)) (tCons (tCB rAbs (tCons (tVar 1) tNil)) tNil)))
  (tSeq (tWhile (tTest (tOp (rI0 fun i j => V.bl (decide (j < i))) (tVar 1) (tC (V.int 0)))) (tPar 0 1 (tCons (tVar 1) (tCons (tOp (rI CNz fun i j => V.int (i.fmod j)) (tVar 0) (tVar 1)) tNil))))
  (tRet (tCB rMx (tCons (tVar 0) (tCons (tC (V.int 1)) tNil))))))
-- slots of shared: 0 one, 1 other
theorem ln_shared : ∀ ds r, P_gcd ds r → ds.length = 2 := fun ds r h => by obtain ⟨p, q, rfl, _⟩ := h; rfl
theorem rd_shared {ds r} (h : P_gcd ds r) (b : Bag) : SG K (t_shared K) (frame 2 ds) b (.rt r b) := by
  obtain ⟨x, y, rfl, rfl⟩ := h
  unfold t_shared
  obtain ⟨n, h1, h2⟩ := eu_end y.natAbs x.natAbs
  apply sg_is
  apply sg_seq
  · apply sg_par
    (repeat' walk_at "ev1")
  apply sg_seq
  · refine sg_while (s' := b) (fun i => [.d (.int (eu x.natAbs y.natAbs i).1), .d (.int (eu x.natAbs y.natAbs i).2)]) (fun _ => b) (fun _ => b) n ?_ rfl (fun i hi => ?_) (fun i hi => .inl ?_) ?_
    · show Wk [.d (.int (absI x)), .d (.int (absI y))] _
      rw [absI_nat, absI_nat]
      exact .refl _
    · refine et_is (by (repeat' walk_at "ev1")) ?_
      have := h2 i hi
      simp; omega
    · have hy := h2 i hi
      refine sg_is (sg_par (ea_cons (ev_var rfl) (ea_cons (ev_mod (ev_var rfl) (ev_var rfl) ?_) ea_nil))) ?_
      · show ((eu x.natAbs y.natAbs i).2 : Int) ≠ 0
        omega
      · rw [fmod_nat]
        rfl
    · refine et_is (by (repeat' walk_at "ev1")) ?_
      rw [h1]
      rfl
  · rw [h1]
    (repeat' walk_at "ev1")
  · show Out.rt (.int (maxI _ 1)) b = _
    rw [gN_max]
def t_is_part (K : Fg) : TS := (tSeq (tIfS (tOr (tNot (tB (tCB (rIsi K) (tCons (tVar 0) (tCons (tC (V.ty "tuple")) tNil))))) (tTest (tOp rNe (tCB (rLenQ K) (tCons (tVar 0) tNil)) (tC (V.int 2))))) (tRet (tC (V.bl false))) tNext)
  (tSeq (tIfS (tOr (tNot (tB (tCall (spP K P_isWhole) [] E0 (tCons (tOp (rIx K) (tVar 0) (tC (V.int 0))) tNil)))) (tNot (tB (tCall (spP K P_isWhole) [] E0 (tCons (tOp (rIx K) (tVar 0) (tC (V.int 1))) tNil))))) (tRet (tC (V.bl false))) tNext)
  (tRet (tAndV (tOp (rI0 fun i j => V.bl (decide (j < i))) (tOp (rIx K) (tVar 0) (tC (V.int 1))) (tC (V.int 0))) (tOp rEq (tCall (spP K P_gcd) [] E0 (tCons (tOp (rIx K) (tVar 0) (tC (V.int 0))) (tCons (tOp (rIx K) (tVar 0) (tC (V.int 1))) tNil))) (tC (V.int 1)))))))
-- slots of is_part: 0 thing
theorem ln_is_part : ∀ ds r, P_isPart ds r → ds.length = 1 := fun ds r h => by obtain ⟨p, rfl, _⟩ := h; rfl
theorem rd_is_part {ds r} (h : P_isPart ds r) (b : Bag) : SG K (t_is_part K) (frame 1 ds) b (.rt r b) := by
  obtain ⟨x, rfl, rfl⟩ := h
  have v0 : EvG K (tVar 0) (frame 1 [x]) b x b := ev_var rfl
  have no : isTup x = false → SG K (t_is_part K) (frame 1 [x]) b (.rt (.bool (isPart x)) b) := fun hx => by
    unfold t_is_part
    refine sg_when (et_orT (et_is (et_not (et_B (ev_isi v0 (kit_tup x)))) (by rw [hx]; rfl))) (fun _ => ?_) (fun h => by cases h)
    refine sg_seqR (sg_is (sg_ret ev_bl) ?_)
    cases x <;> first | rfl | cases hx
  cases x with
  | tuple xs =>
    unfold t_is_part
    by_cases hl : xs.length = 2
    · obtain ⟨p, q, rfl⟩ : ∃ p q, xs = [p, q] := by
        match xs, hl with
        | [p, q], _ => exact ⟨p, q, rfl⟩
      refine sg_when (et_orF (et_not (et_B (ev_isi v0 kit_tuple_tuple))) (et_test (ev_neI (ev_lenT v0) ev_int))) (fun h => by cases h) fun _ => ?_
      have w0 : EvG K (tOp (rIx K) (tVar 0) (tC (.int 0))) (frame 1 [.tuple [p, q]]) b p b := ev_ixT v0 ev_int rfl
      have w1 : EvG K (tOp (rIx K) (tVar 0) (tC (.int 1))) (frame 1 [.tuple [p, q]]) b q b := ev_ixT v0 ev_int rfl
      refine sg_when (et_or (et_not (et_B (ev_isWhole w0))) fun _ => et_not (et_B (ev_isWhole w1))) (fun h => ?_) fun h => ?_
      · refine sg_seqR (sg_is (sg_ret ev_bl) ?_)
        cases p <;> cases q <;> first | rfl | cases h
      · cases p <;> first | cases h | skip
        cases q <;> first | cases h | skip
        exact sg_ret (ev_and (ev_gt w1 ev_int) fun _ => ev_eqI (ev_gcd w0 w1) ev_int)
    · refine sg_when (et_orF (et_not (et_B (ev_isi v0 kit_tuple_tuple))) (et_is (b' := true) (et_test (ev_neI (ev_lenT v0) ev_int)) ?_)) (fun _ => ?_) (fun h => by cases h)
      · have : ¬ ((xs.length : Int) = 2) := by omega
        simp [this]
      · refine sg_seqR (sg_is (sg_ret ev_bl) ?_)
        match xs, hl with
        | [], _ => rfl
        | [_], _ => rfl
        | [_, _], h => exact absurd rfl h
        | _ :: _ :: _ :: _, _ => rfl
  | _ => exact no rfl
-- slots of _law_wild: 0 _law_bag_here, 1 _law_things
end
end U


end
section
namespace U
open PySem PyProof.Rows L2 Evl
local macro_rules | `(tactic| walk_at "ev1") => `(tactic| first
  | exact ev_int | exact ev_bl | exact ev_str | exact ev_non | exact ev_var rfl | exact ea_nil | exact eo_none
  | with_reducible apply ev_ixDisp | with_reducible apply ev_fst | with_reducible apply ev_snd
  | with_reducible apply ev_add | with_reducible apply ev_sub | with_reducible apply ev_mul | with_reducible apply ev_fdiv | with_reducible apply ev_mod | with_reducible apply ev_pow
  | with_reducible apply ev_lt | with_reducible apply ev_le | with_reducible apply ev_gt | with_reducible apply ev_ge
  | with_reducible apply ev_eqI | with_reducible apply ev_neI
  | with_reducible apply ev_neg | with_reducible apply ev_subB | with_reducible apply ev_isNo | with_reducible apply ev_noNo
  | with_reducible apply ev_not | with_reducible apply et_test | with_reducible apply et_B | with_reducible apply et_not
  | with_reducible apply ev_abs | with_reducible apply ev_max | with_reducible apply ev_min | with_reducible apply ev_intB
  | with_reducible apply ev_gcd | with_reducible apply ev_frac | with_reducible apply ev_fadd | with_reducible apply ev_sign | with_reducible apply ev_cmpF
  | with_reducible apply ev_pull rfl
  | with_reducible apply ev_like
  | with_reducible apply ev_tup | with_reducible apply ev_lst | with_reducible apply ea_cons | with_reducible apply eo_some
  | with_reducible apply ev_order | exact ev_part rfl | exact ev_far rfl | exact ev_farPart rfl
  | (with_reducible show List.length _ ≤ 16000000; (simp; done)) | (with_reducible show (0 : Int) < _; decide) | (with_reducible show (_ : Int) < 1000000000000; decide) | (with_reducible show CPow _ _; (unfold CPow; decide)) | (with_reducible show CNz _ _; (unfold CNz; decide))
  | with_reducible apply sg_ret | with_reducible apply sg_asg | with_reducible apply sg_next)
local macro_rules | `(tactic| walk_at "ln") => `(tactic| first | walk_at "ev1" | with_reducible apply sg_seq)

/-! ### part -/
theorem fdiv_neg2 (a g : Int) : a.fdiv (-g) = (-a).fdiv g := by
  have h := Int.neg_fdiv_neg (-a) g
  rw [Int.neg_neg] at h
  exact h
theorem gI_neg (a b : Int) : gI (-a) (-b) = gI a b := by unfold gI gN; rw [Int.natAbs_neg, Int.natAbs_neg]
theorem gI_one (a : Int) : gI a 1 = 1 := by
  unfold gI gN
  show ((max (Nat.gcd a.natAbs 1) 1 : Nat) : Int) = 1
  rw [Nat.gcd_one_right]
  rfl
def partR (a b : Int) : Except Xw PyData := if b = 0 then .error xFlat else .ok (fr (fracF a b))
def P_partX : List PyData → Except Xw PyData → Prop := fun ds r => ∃ a b : Int, ds = [.int a, .int b] ∧ Bd 8000 a ∧ Bd 8000 b ∧ r = partR a b
theorem partR_ok {a b : Int} (h : b ≠ 0) : partR a b = .ok (fr (fracF a b)) := if_neg h
section
variable {K : Fg} {cs : Cs} {W : WX} {G : Gam} {s s1 s2 s' : Bag} {ta tb te : TE} {x y : PyData} {E : St → XK}
theorem ev_partX {a b : Int} (h1 : EvG K ta G s (.int a) s1) (h2 : EvG K tb G s1 (.int b) s2) (ha : Bd 8000 a) (hb : Bd 8000 b) (h0 : b ≠ 0) : EvG K (tCallSD (spX K cs P_partX) [] E (tCons ta (tCons tb tNil))) G s (fr (fracF a b)) s2 :=
  ev_callX (ea_cons h1 (ea_cons h2 ea_nil)) (fun _ => .nil) ⟨a, b, rfl, ha, hb, (partR_ok h0).symm⟩
end
section
variable {K : Fg} {cs : Cs}
def t_part (K : Fg) (cs : Cs) (W : WX) : TS := (tSeq (tIfS (tTest (tOp rEq (tVar 1) (tC (V.int 0)))) (tRaiseX (cs "Flat") (spIn K ["word"] gFlat) [] tNil W) tNext)
  (tSeq (tIfS (tTest (tOp (rI0 fun i j => V.bl (decide (i < j))) (tVar 1) (tC (V.int 0)))) (tPar 0 1 (tCons (tUn (rU fun i => V.int (-i)) (tVar 0)) (tCons (tUn (rU fun i => V.int (-i)) (tVar 1)) tNil))) tNext)
  (tSeq (tAsg (tCall (spP K P_gcd) [] E0 (tCons (tVar 0) (tCons (tVar 1) tNil))) (gName 2))
  (tRet (tTup (tCons (tOp (rI CDvX fun i j => V.int (i.fdiv j)) (tVar 0) (tVar 2)) (tCons (tOp (rI CDvX fun i j => V.int (i.fdiv j)) (tVar 1) (tVar 2)) tNil)))))))
-- slots of part: 0 above, 1 below, 2 divisor
theorem ln_part : ∀ ds r, P_partX ds r → ds.length = 2 := fun ds r h => by obtain ⟨p, q, rfl, _⟩ := h; rfl
theorem rd_part {ds r} (cf : ClsF K cs "Flat" ["word"]) (h : P_partX ds r) (W : WX) (b : Bag) : RdX K cs W (t_part K cs W) (frame 3 ds) b r := by
  obtain ⟨x, y, rfl, hx, hy, rfl⟩ := h
  by_cases h0 : y = 0
  · subst h0
    refine ⟨_, sx_whenT (et_is (et_test (ev_eqI (ev_var rfl) ev_int)) rfl) (sx_raise0 cf.ox cf.no rfl)⟩
  · rw [partR_ok h0]
    show SG K (t_part K cs W) _ _ _
    unfold t_part
    refine sg_when (et_is (et_test (ev_eqI (ev_var rfl) ev_int)) (decide_eq_false h0)) (fun h => by cases h) fun _ => ?_
    have hg := gI_pos x y
    have hb : Bd 8001 (gI x y) := Bd.g hx hy
    have dv : ∀ z : Int, CDvX z (gI x y) := fun z => by
      refine ⟨by omega, ?_⟩
      have h2 : (gI x y).natAbs < 2 ^ 8002 := hb.mono (by decide)
      have := PySem.Flt.log2_lt_of (by decide) h2
      omega
    by_cases hn : y < 0
    · refine sg_is (sg_seq (sg_ifT (et_is (et_test (ev_lt (ev_var rfl) ev_int)) (decide_eq_true hn)) (sg_par (ea_cons (ev_neg (ev_var rfl)) (ea_cons (ev_neg (ev_var rfl)) ea_nil)))) (sg_seq (sg_asg (ev_is (ev_gcd (ev_var rfl) (ev_var rfl)) (congrArg PyData.int (gI_neg x y)))) (sg_ret (ev_tup (ea_cons (ev_fdiv (ev_var rfl) (ev_var rfl) (dv _)) (ea_cons (ev_fdiv (ev_var rfl) (ev_var rfl) (dv _)) ea_nil)) (by show 2 ≤ 16000000; decide))))) ?_
      show Out.rt (fr ((-x).fdiv (gI x y), (-y).fdiv (gI x y))) b = Out.rt (fr (fracF x y)) b
      unfold fracF
      rw [if_pos hn, fdiv_neg2, fdiv_neg2]
    · refine sg_is (sg_seq (sg_ifF (et_is (et_test (ev_lt (ev_var rfl) ev_int)) (decide_eq_false hn)) sg_next) (sg_seq (sg_asg (ev_gcd (ev_var rfl) (ev_var rfl))) (sg_ret (ev_tup (ea_cons (ev_fdiv (ev_var rfl) (ev_var rfl) (dv _)) (ea_cons (ev_fdiv (ev_var rfl) (ev_var rfl) (dv _)) ea_nil)) (by show 2 ≤ 16000000; decide))))) ?_
      show Out.rt (fr (x.fdiv (gI x y), y.fdiv (gI x y))) b = Out.rt (fr (fracF x y)) b
      unfold fracF
      rw [if_neg hn]
-- slots of told01: 0 _law_above, 1 _law_below, 2 why
end
end U


end
section
namespace U
open PySem PyProof.Rows L2 Evl
local macro_rules | `(tactic| walk_at "ev1") => `(tactic| first
  | exact ev_int | exact ev_bl | exact ev_str | exact ev_non | exact ev_var rfl | exact ea_nil | exact eo_none
  | with_reducible apply ev_ixDisp | with_reducible apply ev_fst | with_reducible apply ev_snd
  | with_reducible apply ev_add | with_reducible apply ev_sub | with_reducible apply ev_mul | with_reducible apply ev_fdiv | with_reducible apply ev_mod | with_reducible apply ev_pow
  | with_reducible apply ev_lt | with_reducible apply ev_le | with_reducible apply ev_gt | with_reducible apply ev_ge
  | with_reducible apply ev_eqI | with_reducible apply ev_neI
  | with_reducible apply ev_neg | with_reducible apply ev_subB | with_reducible apply ev_isNo | with_reducible apply ev_noNo
  | with_reducible apply ev_not | with_reducible apply et_test | with_reducible apply et_B | with_reducible apply et_not
  | with_reducible apply ev_abs | with_reducible apply ev_max | with_reducible apply ev_min | with_reducible apply ev_intB
  | with_reducible apply ev_gcd | with_reducible apply ev_frac | with_reducible apply ev_fadd | with_reducible apply ev_sign | with_reducible apply ev_cmpF
  | with_reducible apply ev_pull rfl
  | with_reducible apply ev_like
  | with_reducible apply ev_tup | with_reducible apply ev_lst | with_reducible apply ea_cons | with_reducible apply eo_some
  | with_reducible apply ev_order | exact ev_part rfl | exact ev_far rfl | exact ev_farPart rfl
  | (with_reducible show List.length _ ≤ 16000000; (simp; done)) | (with_reducible show (0 : Int) < _; decide) | (with_reducible show (_ : Int) < 1000000000000; decide) | (with_reducible show CPow _ _; (unfold CPow; decide)) | (with_reducible show CNz _ _; (unfold CNz; decide))
  | with_reducible apply sg_ret | with_reducible apply sg_asg | with_reducible apply sg_next)
local macro_rules | `(tactic| walk_at "ln") => `(tactic| first | walk_at "ev1" | with_reducible apply sg_seq)

def subF (p q : Fr) : Fr := fracF (p.1 * q.2 - q.1 * p.2) (p.2 * q.2)
def mulF (p q : Fr) : Fr := fracF (p.1 * q.1) (p.2 * q.2)
theorem Sz.subF {n m : Nat} {p q : Fr} (hp : Sz n p) (hq : Sz m q) : Sz (n + m + 1) (U.subF p q) :=
  Sz.frac (Bd.sub (hp.1.mul hq.2) (by rw [Nat.add_comm n m]; exact hq.1.mul hp.2)) ((hp.2.mul hq.2).mono (Nat.le_succ _))
theorem Sz.mulF {n m : Nat} {p q : Fr} (hp : Sz n p) (hq : Sz m q) : Sz (n + m) (U.mulF p q) := Sz.frac (hp.1.mul hq.1) (hp.2.mul hq.2)
theorem fdiv_pos {c g : Int} (hg : 0 < g) (h : g ≤ c) : 0 < c.fdiv g := by
  rw [Int.fdiv_eq_ediv_of_nonneg _ (Int.le_of_lt hg)]
  have : 1 ≤ c / g := Int.le_ediv_of_mul_le hg (by omega)
  omega
theorem gI_le_right {a b : Int} (hb : b ≠ 0) : gI a b ≤ (b.natAbs : Int) := by
  unfold gI gN
  have h1 : 0 < b.natAbs := Int.natAbs_pos.mpr hb
  have h2 := Nat.gcd_le_right (m := a.natAbs) (n := b.natAbs) h1
  have : max (Nat.gcd a.natAbs b.natAbs) 1 ≤ b.natAbs := Nat.max_le.mpr ⟨h2, h1⟩
  omega
theorem fracF_pos {a b : Int} (hb : b ≠ 0) : 0 < (fracF a b).2 := by
  have hg := gI_pos a b
  have hl := gI_le_right (a := a) hb
  unfold fracF
  by_cases h : b < 0
  · show 0 < b.fdiv (if b < 0 then -gI a b else gI a b)
    rw [if_pos h, fdiv_neg2]
    exact fdiv_pos hg (by omega)
  · rw [if_neg h]
    exact fdiv_pos hg (by omega)
theorem addF_pos {p q : Fr} (hp : p.2 ≠ 0) (hq : q.2 ≠ 0) : 0 < (addF p q).2 := fracF_pos (Int.mul_ne_zero hp hq)
theorem subF_pos {p q : Fr} (hp : p.2 ≠ 0) (hq : q.2 ≠ 0) : 0 < (subF p q).2 := fracF_pos (Int.mul_ne_zero hp hq)
theorem mulF_pos {p q : Fr} (hp : p.2 ≠ 0) (hq : q.2 ≠ 0) : 0 < (mulF p q).2 := fracF_pos (Int.mul_ne_zero hp hq)
/-- .. their sizes together -/
def P_fg (N : Nat) (C : Fr → Fr → Prop) (f : Fr → Fr → PyData) : List PyData → PyData → Prop := fun ds r => ∃ (n m : Nat) (p q : Fr), ds = [fr p, fr q] ∧ Sz n p ∧ Sz m q ∧ n + m ≤ N ∧ C p q ∧ r = f p q
theorem ln_fg {N : Nat} {C : Fr → Fr → Prop} {f : Fr → Fr → PyData} : ∀ ds r, P_fg N C f ds r → ds.length = 2 := fun ds r h => by obtain ⟨_, _, p, q, rfl, _⟩ := h; rfl
abbrev Nz2 (p q : Fr) : Prop := p.2 ≠ 0 ∧ q.2 ≠ 0
def P_plus := P_fg 7800 Nz2 fun p q => fr (addF p q)
def P_minus := P_fg 7800 Nz2 fun p q => fr (subF p q)
def P_times := P_fg 7800 Nz2 fun p q => fr (mulF p q)
def P_lmul := P_fg 7800 (fun _ _ => True) fun p q => fr (mulF p q)
section
variable {K : Fg} {cs : Cs} {W : WX} {G : Gam} {s s1 s2 s' : Bag} {ta tb te : TE} {x y : PyData} {E : St → XK} {E' : XK} {p q : Fr}
theorem ev_fg {n N : Nat} {C : Fr → Fr → Prop} {f : Fr → Fr → PyData} (h1 : EvG K ta G s (fr p) s1) (h2 : EvG K tb G s1 (fr q) s2) (hp : Sz n p) (hq : Sz n q) (hN : n + n ≤ N) (hc : C p q) : EvG K (tCall (spP K (P_fg N C f)) [] E' (tCons ta (tCons tb tNil))) G s (f p q) s2 :=
  ev_call (ea_cons h1 (ea_cons h2 ea_nil)) (fun _ => .nil) ⟨n, n, p, q, rfl, hp, hq, hN, hc, rfl⟩
theorem ev_minus (h1 : EvG K ta G s (fr p) s1) (h2 : EvG K tb G s1 (fr q) s2) (hp : Sz 3900 p) (hq : Sz 3900 q) (hc : Nz2 p q) : EvG K (tCall (spP K P_minus) [] E' (tCons ta (tCons tb tNil))) G s (fr (subF p q)) s2 := ev_fg h1 h2 hp hq (by decide) hc
theorem ev_times (h1 : EvG K ta G s (fr p) s1) (h2 : EvG K tb G s1 (fr q) s2) (hp : Sz 3900 p) (hq : Sz 3900 q) (hc : Nz2 p q) : EvG K (tCall (spP K P_times) [] E' (tCons ta (tCons tb tNil))) G s (fr (mulF p q)) s2 := ev_fg h1 h2 hp hq (by decide) hc
def t_plus (K : Fg) (cs : Cs) : TS := (tRet (tCallSD (spX K cs P_partX) [] (WE W0) (tCons (tOp (rI0 fun i j => V.int (i + j)) (tOp (rI CMulW fun i j => V.int (i * j)) (tOp (rIx K) (tVar 0) (tC (V.int 0))) (tOp (rIx K) (tVar 1) (tC (V.int 1)))) (tOp (rI CMulW fun i j => V.int (i * j)) (tOp (rIx K) (tVar 1) (tC (V.int 0))) (tOp (rIx K) (tVar 0) (tC (V.int 1))))) (tCons (tOp (rI CMulW fun i j => V.int (i * j)) (tOp (rIx K) (tVar 0) (tC (V.int 1))) (tOp (rIx K) (tVar 1) (tC (V.int 1)))) tNil))))
-- slots of plus: 0 one, 1 other
theorem ln_plus : ∀ ds r, P_plus ds r → ds.length = 2 := ln_fg
theorem rd_plus {ds r} (h : P_plus ds r) (b : Bag) : SG K (t_plus K cs) (frame 2 ds) b (.rt r b) := by
  obtain ⟨n, m, p, q, rfl, hp, hq, hl, hc, rfl⟩ := h
  exact sg_ret (ev_partX (ev_add (ev_mul (ev_fst (ev_var rfl)) (ev_snd (ev_var rfl)) (hp.1.cm hq.2 (by omega))) (ev_mul (ev_fst (ev_var rfl)) (ev_snd (ev_var rfl)) (hq.1.cm hp.2 (by omega)))) (ev_mul (ev_snd (ev_var rfl)) (ev_snd (ev_var rfl)) (hp.2.cm hq.2 (by omega)))
    ((Bd.add (hp.1.mul hq.2) (by rw [Nat.add_comm n m]; exact hq.1.mul hp.2)).mono (by omega)) ((hp.2.mul hq.2).mono (by omega)) (Int.mul_ne_zero hc.1 hc.2))
def t_minus (K : Fg) (cs : Cs) : TS := (tRet (tCallSD (spX K cs P_partX) [] (WE W0) (tCons (tOp (rI0 fun i j => V.int (i - j)) (tOp (rI CMulW fun i j => V.int (i * j)) (tOp (rIx K) (tVar 0) (tC (V.int 0))) (tOp (rIx K) (tVar 1) (tC (V.int 1)))) (tOp (rI CMulW fun i j => V.int (i * j)) (tOp (rIx K) (tVar 1) (tC (V.int 0))) (tOp (rIx K) (tVar 0) (tC (V.int 1))))) (tCons (tOp (rI CMulW fun i j => V.int (i * j)) (tOp (rIx K) (tVar 0) (tC (V.int 1))) (tOp (rIx K) (tVar 1) (tC (V.int 1)))) tNil))))
-- slots of minus: 0 one, 1 other
theorem ln_minus : ∀ ds r, P_minus ds r → ds.length = 2 := ln_fg
theorem rd_minus {ds r} (h : P_minus ds r) (b : Bag) : SG K (t_minus K cs) (frame 2 ds) b (.rt r b) := by
  obtain ⟨n, m, p, q, rfl, hp, hq, hl, hc, rfl⟩ := h
  exact sg_ret (ev_partX (ev_sub (ev_mul (ev_fst (ev_var rfl)) (ev_snd (ev_var rfl)) (hp.1.cm hq.2 (by omega))) (ev_mul (ev_fst (ev_var rfl)) (ev_snd (ev_var rfl)) (hq.1.cm hp.2 (by omega)))) (ev_mul (ev_snd (ev_var rfl)) (ev_snd (ev_var rfl)) (hp.2.cm hq.2 (by omega)))
    ((Bd.sub (hp.1.mul hq.2) (by rw [Nat.add_comm n m]; exact hq.1.mul hp.2)).mono (by omega)) ((hp.2.mul hq.2).mono (by omega)) (Int.mul_ne_zero hc.1 hc.2))
def t_times (K : Fg) (cs : Cs) : TS := (tRet (tCallSD (spX K cs P_partX) [] (WE W0) (tCons (tOp (rI CMulW fun i j => V.int (i * j)) (tOp (rIx K) (tVar 0) (tC (V.int 0))) (tOp (rIx K) (tVar 1) (tC (V.int 0)))) (tCons (tOp (rI CMulW fun i j => V.int (i * j)) (tOp (rIx K) (tVar 0) (tC (V.int 1))) (tOp (rIx K) (tVar 1) (tC (V.int 1)))) tNil))))
-- slots of times: 0 one, 1 other
theorem ln_times : ∀ ds r, P_times ds r → ds.length = 2 := ln_fg
theorem rd_times {ds r} (h : P_times ds r) (b : Bag) : SG K (t_times K cs) (frame 2 ds) b (.rt r b) := by
  obtain ⟨n, m, p, q, rfl, hp, hq, hl, hc, rfl⟩ := h
  exact sg_ret (ev_partX (ev_mul (ev_fst (ev_var rfl)) (ev_fst (ev_var rfl)) (hp.1.cm hq.1 (by omega))) (ev_mul (ev_snd (ev_var rfl)) (ev_snd (ev_var rfl)) (hp.2.cm hq.2 (by omega)))
    ((hp.1.mul hq.1).mono (by omega)) ((hp.2.mul hq.2).mono (by omega)) (Int.mul_ne_zero hc.1 hc.2))
-- slots of over: 0 one, 1 other
-- slots of middle: 0 one, 1 other
-- slots of _law_sub: 0 _law_one, 1 _law_other
def t__law_mul (K : Fg) : TS := (tRet (tCall (spP K P_frac) [] E0 (tCons (tOp (rI CMulW fun i j => V.int (i * j)) (tOp (rIx K) (tVar 0) (tC (V.int 0))) (tOp (rIx K) (tVar 1) (tC (V.int 0)))) (tCons (tOp (rI CMulW fun i j => V.int (i * j)) (tOp (rIx K) (tVar 0) (tC (V.int 1))) (tOp (rIx K) (tVar 1) (tC (V.int 1)))) tNil))))
-- slots of _law_mul: 0 _law_one, 1 _law_other
theorem ln__law_mul : ∀ ds r, P_lmul ds r → ds.length = 2 := ln_fg
theorem rd__law_mul {ds r} (h : P_lmul ds r) (b : Bag) : SG K (t__law_mul K) (frame 2 ds) b (.rt r b) := by
  obtain ⟨n, m, p, q, rfl, hp, hq, hl, hc, rfl⟩ := h
  exact sg_ret (ev_fracN (ev_mul (ev_fst (ev_var rfl)) (ev_fst (ev_var rfl)) (hp.1.cm hq.1 (by omega))) (ev_mul (ev_snd (ev_var rfl)) (ev_snd (ev_var rfl)) (hp.2.cm hq.2 (by omega)))
    ((hp.1.mul hq.1).mono (by omega)) ((hp.2.mul hq.2).mono (by omega)))
-- slots of _law_div: 0 _law_one, 1 _law_other
-- slots of told03: 0 _law_one, 1 _law_other, 2 why
end
end U


end
section
namespace U
open PySem PyProof.Rows L2 Evl
local macro_rules | `(tactic| walk_at "ev1") => `(tactic| first
  | exact ev_int | exact ev_bl | exact ev_str | exact ev_non | exact ev_var rfl | exact ea_nil | exact eo_none
  | with_reducible apply ev_ixDisp | with_reducible apply ev_fst | with_reducible apply ev_snd
  | with_reducible apply ev_add | with_reducible apply ev_sub | with_reducible apply ev_mul | with_reducible apply ev_fdiv | with_reducible apply ev_mod | with_reducible apply ev_pow
  | with_reducible apply ev_lt | with_reducible apply ev_le | with_reducible apply ev_gt | with_reducible apply ev_ge
  | with_reducible apply ev_eqI | with_reducible apply ev_neI
  | with_reducible apply ev_neg | with_reducible apply ev_subB | with_reducible apply ev_isNo | with_reducible apply ev_noNo
  | with_reducible apply ev_not | with_reducible apply et_test | with_reducible apply et_B | with_reducible apply et_not
  | with_reducible apply ev_abs | with_reducible apply ev_max | with_reducible apply ev_min | with_reducible apply ev_intB
  | with_reducible apply ev_gcd | with_reducible apply ev_frac | with_reducible apply ev_fadd | with_reducible apply ev_sign | with_reducible apply ev_cmpF
  | with_reducible apply ev_pull rfl
  | with_reducible apply ev_like
  | with_reducible apply ev_tup | with_reducible apply ev_lst | with_reducible apply ea_cons | with_reducible apply eo_some
  | with_reducible apply ev_order | exact ev_part rfl | exact ev_far rfl | exact ev_farPart rfl
  | (with_reducible show List.length _ ≤ 16000000; (simp; done)) | (with_reducible show (0 : Int) < _; decide) | (with_reducible show (_ : Int) < 1000000000000; decide) | (with_reducible show CPow _ _; (unfold CPow; decide)) | (with_reducible show CNz _ _; (unfold CNz; decide))
  | with_reducible apply sg_ret | with_reducible apply sg_asg | with_reducible apply sg_next)
local macro_rules | `(tactic| walk_at "ln") => `(tactic| first | walk_at "ev1" | with_reducible apply sg_seq)

/-! ### fractions in lowest terms -/
theorem gI_dvd_left {a b : Int} (hb : b ≠ 0) : ∃ c, a = gI a b * c := by
  have e : gI a b = (Nat.gcd a.natAbs b.natAbs : Nat) := by
    unfold gI gN
    have : 0 < Nat.gcd a.natAbs b.natAbs := Nat.gcd_pos_of_pos_right _ (Int.natAbs_pos.mpr hb)
    have : max (Nat.gcd a.natAbs b.natAbs) 1 = Nat.gcd a.natAbs b.natAbs := Nat.max_eq_left this
    omega
  rw [e]
  exact Int.ofNat_dvd_left.mpr (Nat.gcd_dvd_left _ _)
theorem gI_dvd_right {a b : Int} (hb : b ≠ 0) : ∃ c, b = gI a b * c := by
  have e : gI a b = (Nat.gcd a.natAbs b.natAbs : Nat) := by
    unfold gI gN
    have : 0 < Nat.gcd a.natAbs b.natAbs := Nat.gcd_pos_of_pos_right _ (Int.natAbs_pos.mpr hb)
    have : max (Nat.gcd a.natAbs b.natAbs) 1 = Nat.gcd a.natAbs b.natAbs := Nat.max_eq_left this
    omega
  rw [e]
  exact Int.ofNat_dvd_left.mpr (Nat.gcd_dvd_right _ _)
/-- fracF by its factor -/
theorem fracF_spec {a b : Int} (hb : b ≠ 0) : ∃ k : Int, k ≠ 0 ∧ a = k * (fracF a b).1 ∧ b = k * (fracF a b).2 ∧ k.natAbs = Nat.gcd a.natAbs b.natAbs := by
  have hg := gI_pos a b
  have hn : gI a b = (Nat.gcd a.natAbs b.natAbs : Nat) := by
    unfold gI gN
    have : 0 < Nat.gcd a.natAbs b.natAbs := Nat.gcd_pos_of_pos_right _ (Int.natAbs_pos.mpr hb)
    have : max (Nat.gcd a.natAbs b.natAbs) 1 = Nat.gcd a.natAbs b.natAbs := Nat.max_eq_left this
    omega
  obtain ⟨c, hc⟩ := gI_dvd_left (a := a) hb
  obtain ⟨d, hd⟩ := gI_dvd_right (a := a) hb
  have fd : ∀ (g x : Int), g ≠ 0 → (g * x).fdiv g = x := fun g x h => Int.mul_fdiv_cancel_left x h
  unfold fracF
  by_cases h : b < 0
  · rw [if_pos h]
    refine ⟨-gI a b, by omega, ?_, ?_, by rw [Int.natAbs_neg, hn, Int.natAbs_natCast]⟩
    · have : a = -gI a b * -c := by rw [Int.neg_mul_neg]; exact hc
      show a = -gI a b * a.fdiv (-gI a b)
      have e := fd (-gI a b) (-c) (by omega)
      rw [← this] at e
      rw [e]; exact this
    · have : b = -gI a b * -d := by rw [Int.neg_mul_neg]; exact hd
      show b = -gI a b * b.fdiv (-gI a b)
      have e := fd (-gI a b) (-d) (by omega)
      rw [← this] at e
      rw [e]; exact this
  · rw [if_neg h]
    refine ⟨gI a b, by omega, ?_, ?_, by rw [hn, Int.natAbs_natCast]⟩
    · show a = gI a b * a.fdiv (gI a b)
      have e := fd (gI a b) c (by omega)
      rw [← hc] at e
      rw [e]; exact hc
    · show b = gI a b * b.fdiv (gI a b)
      have e := fd (gI a b) d (by omega)
      rw [← hd] at e
      rw [e]; exact hd
theorem fracF_low {a b : Int} (hb : b ≠ 0) : gI (fracF a b).1 (fracF a b).2 = 1 := by
  obtain ⟨k, hk, h1, h2, h3⟩ := fracF_spec (a := a) hb
  have hpos : 0 < k.natAbs := Int.natAbs_pos.mpr hk
  generalize (fracF a b).1 = x at *
  generalize (fracF a b).2 = y at *
  have : Nat.gcd (k * x).natAbs (k * y).natAbs = k.natAbs * Nat.gcd x.natAbs y.natAbs := by
    rw [Int.natAbs_mul, Int.natAbs_mul, Nat.gcd_mul_left]
  rw [← h1, ← h2, ← h3] at this
  have g1 : Nat.gcd x.natAbs y.natAbs = 1 := Nat.eq_of_mul_eq_mul_left hpos (by rw [← this, Nat.mul_one])
  unfold gI gN
  rw [g1]
  rfl
/-! ### spots -/
def isSpotL (room : Int) (xs : List PyData) : Bool := decide ((xs.length : Int) = room) && xs.all isPart
def isSpot (room : Int) : PyData → Bool
  | .tuple xs => [1, 2].contains room && isSpotL room xs
  | _ => false
def P_isSpot : List PyData → PyData → Prop := fun ds r => ∃ (x : PyData) (n : Int), ds = [x, .int n] ∧ r = .bool (isSpot n x)
section
variable {K : Fg} {cs : Cs} {W : WX} {G : Gam} {s s1 s2 s' : Bag} {ta tb te : TE} {x y : PyData} {E : XK}
def t_is_spot (K : Fg) : TS := (tSeq (tIfS (tOr (tTest (tOp (rIn K true) (tVar 1) (tTup (tCons (tC (V.int 1)) (tCons (tC (V.int 2)) tNil))))) (tOr (tNot (tB (tCB (rIsi K) (tCons (tVar 0) (tCons (tC (V.ty "tuple")) tNil))))) (tTest (tOp rNe (tCB (rLenQ K) (tCons (tVar 0) tNil)) (tVar 1))))) (tRet (tC (V.bl false))) tNext)
  (tRet (tCB (rAll K) (tCons (tLc (iTup K (tVar 0)) (gName 2) tYes (tCall (spP K P_isPart) [] E0 (tCons (tVar 2) tNil)) [2]) tNil))))
-- slots of is_spot: 0 thing, 1 room, 2 one
theorem ln_is_spot : ∀ ds r, P_isSpot ds r → ds.length = 2 := fun ds r h => by obtain ⟨p, q, rfl, _⟩ := h; rfl
theorem rd_is_spot {ds r} (h : P_isSpot ds r) (b : Bag) : SG K (t_is_spot K) (frame 3 ds) b (.rt r b) := by
  obtain ⟨x, n, rfl, rfl⟩ := h
  unfold t_is_spot
  have v0 : EvG K (tVar 0) (frame 3 [x, .int n]) b x b := ev_var rfl
  have v1 : EvG K (tVar 1) (frame 3 [x, .int n]) b (.int n) b := ev_var rfl
  have t1 : EvT K (tTest (tOp (rIn K true) (tVar 1) (tTup (tCons (tC (V.int 1)) (tCons (tC (V.int 2)) tNil))))) (frame 3 [x, .int n]) b (!([1, 2] : List Int).contains n) b := et_test (ev_inT (ns := [1, 2]) (neg := true) v1 (ev_tup (ea_cons ev_int (ea_cons ev_int ea_nil)) (by show 2 ≤ 16000000; decide)))
  cases hx : isTup x with
  | false =>
    refine sg_when (et_is (et_or t1 fun _ => et_orT (et_is (et_not (et_B (ev_isi v0 (kit_tup x)))) (by rw [hx]; rfl))) (b' := true) (by simp)) (fun _ => ?_) (fun h => by cases h)
    refine sg_seqR (sg_is (sg_ret ev_bl) ?_)
    cases x <;> first | rfl | cases hx
  | true =>
    cases x <;> first | cases hx | skip
    rename_i xs
    refine sg_when (et_or t1 fun _ => et_or (et_not (et_B (ev_isi v0 kit_tuple_tuple))) fun _ => et_test (ev_neI (ev_lenT v0) v1)) (fun h => ?_) fun h => ?_
    · refine sg_seqR (sg_is (sg_ret ev_bl) ?_)
      have : isSpot n (.tuple xs) = false := by
        show ([1, 2].contains n && (decide ((xs.length : Int) = n) && xs.all isPart)) = false
        cases hc : ([1, 2] : List Int).contains n with
        | false => rfl
        | true =>
          rw [hc] at h
          have h : (!decide ((xs.length : Int) = n)) = true := by simpa using h
          cases hd : decide ((xs.length : Int) = n) with
          | false => rfl
          | true => rw [hd] at h; cases h
      rw [this]
    · have h1 : ([1, 2] : List Int).contains n = true := by
        cases hc : ([1, 2] : List Int).contains n with
        | false => rw [hc] at h; cases h
        | true => rfl
      rw [h1] at h
      have h : (!decide ((xs.length : Int) = n)) = false := by simpa using h
      have h2 : decide ((xs.length : Int) = n) = true := by simpa using h
      have hl : xs.length ≤ 2 := by
        have e := of_decide_eq_true h2
        have : n = 1 ∨ n = 2 := by
          simp only [List.contains_cons, List.contains_nil, Bool.or_false, Bool.or_eq_true, beq_iff_eq] at h1
          exact h1
        omega
      refine sg_is (sg_ret (ev_all (bs := xs.map isPart) (ev_is (ev_lcM (src_tup v0) (fun y => .bool (isPart y)) (un_at rfl) (by omega) fun y hy => ⟨_, tgt_name, ev_isPart (ev_var rfl)⟩) ?_))) ?_
      · rw [List.map_map]; rfl
      · show Out.rt (.bool ((xs.map isPart).all id)) b = Out.rt (.bool ([1, 2].contains n && (decide ((xs.length : Int) = n) && xs.all isPart))) b
        rw [h1, h2, List.all_map]
        rfl
-- slots of _law_spot: 0 _law_bag_here, 1 _law_rank, 2 _law_at
end
end U


end
section
namespace U
open PySem PyProof.Rows L2 Evl
/-! ### fractions as rational numbers -/
def val (p : Fr) : Rat := (p.1 : Rat) / (p.2 : Rat)
structure Gd (n : Nat) (p : Fr) : Prop where
  sz : Sz n p
  pos : 0 < p.2
  low : gI p.1 p.2 = 1
theorem Gd.mono {n m : Nat} {p : Fr} (h : Gd n p) (l : n ≤ m) : Gd m p := ⟨h.sz.mono l, h.pos, h.low⟩
theorem Gd.ne {n : Nat} {p : Fr} (h : Gd n p) : p.2 ≠ 0 := Int.ne_of_gt h.pos
theorem qne {a : Int} (h : a ≠ 0) : (a : Rat) ≠ 0 := fun e => h (by exact_mod_cast e)
theorem qpos {a : Int} (h : 0 < a) : 0 < (a : Rat) := Rat.intCast_pos.mpr h
theorem Gd.qpos {n : Nat} {p : Fr} (h : Gd n p) : 0 < (p.2 : Rat) := U.qpos h.pos
theorem Gd.qne {n : Nat} {p : Fr} (h : Gd n p) : (p.2 : Rat) ≠ 0 := U.qne h.ne
theorem Gd.add {n m : Nat} {p q : Fr} (hp : Gd n p) (hq : Gd m q) : Gd (n + m + 1) (addF p q) := ⟨Sz.add hp.sz hq.sz, addF_pos hp.ne hq.ne, fracF_low (Int.mul_ne_zero hp.ne hq.ne)⟩
theorem Gd.sub {n m : Nat} {p q : Fr} (hp : Gd n p) (hq : Gd m q) : Gd (n + m + 1) (subF p q) := ⟨Sz.subF hp.sz hq.sz, subF_pos hp.ne hq.ne, fracF_low (Int.mul_ne_zero hp.ne hq.ne)⟩
theorem Gd.mul {n m : Nat} {p q : Fr} (hp : Gd n p) (hq : Gd m q) : Gd (n + m) (mulF p q) := ⟨Sz.mulF hp.sz hq.sz, mulF_pos hp.ne hq.ne, fracF_low (Int.mul_ne_zero hp.ne hq.ne)⟩
theorem val_frac {a b : Int} (hb : b ≠ 0) : val (fracF a b) = (a : Rat) / (b : Rat) := by
  obtain ⟨k, hk, h1, h2, _⟩ := fracF_spec (a := a) hb
  have hy := Int.ne_of_gt (fracF_pos (a := a) hb)
  unfold val
  generalize (fracF a b).1 = x at *
  generalize (fracF a b).2 = y at *
  have k0 := qne hk
  have y0 := qne hy
  rw [h1, h2, Rat.intCast_mul, Rat.intCast_mul]
  grind
theorem val_add {n m : Nat} {p q : Fr} (hp : Gd n p) (hq : Gd m q) : val (addF p q) = val p + val q := by
  unfold addF
  rw [val_frac (Int.mul_ne_zero hp.ne hq.ne), Rat.intCast_add, Rat.intCast_mul, Rat.intCast_mul, Rat.intCast_mul]
  have := hp.qne
  have := hq.qne
  unfold val
  grind
theorem val_sub {n m : Nat} {p q : Fr} (hp : Gd n p) (hq : Gd m q) : val (subF p q) = val p - val q := by
  unfold subF
  rw [val_frac (Int.mul_ne_zero hp.ne hq.ne), Rat.intCast_sub, Rat.intCast_mul, Rat.intCast_mul, Rat.intCast_mul]
  have := hp.qne
  have := hq.qne
  unfold val
  grind
theorem val_mul {n m : Nat} {p q : Fr} (hp : Gd n p) (hq : Gd m q) : val (mulF p q) = val p * val q := by
  unfold mulF
  rw [val_frac (Int.mul_ne_zero hp.ne hq.ne), Rat.intCast_mul, Rat.intCast_mul]
  have := hp.qne
  have := hq.qne
  unfold val
  grind
/-! ### signs -/
theorem tri (x : Rat) : x < 0 ∨ x = 0 ∨ 0 < x := by grind
def sgnQ (x : Rat) : Int := if 0 < x then 1 else if x < 0 then -1 else 0
theorem sgn_eq (a : Int) : sgn a = if 0 < a then 1 else if a < 0 then -1 else 0 := by
  unfold sgn
  by_cases h1 : 0 < a <;> by_cases h2 : a < 0 <;> simp [h1, h2] <;> omega
theorem sgn_int (a : Int) : sgn a = sgnQ (a : Rat) := by
  rw [sgn_eq]
  unfold sgnQ
  have e1 : (0 : Rat) < (a : Rat) ↔ 0 < a := Rat.intCast_pos
  have e2 : (a : Rat) < 0 ↔ a < 0 := by
    have := Rat.intCast_lt_intCast (a := a) (b := 0)
    simpa using this
  simp only [e1, e2]
theorem sgnQ_mul {k x : Rat} (hk : 0 < k) : sgnQ (k * x) = sgnQ x := by
  unfold sgnQ
  have e1 : 0 < k * x ↔ 0 < x := by
    constructor
    · intro h
      rcases tri x with z | z | z
      · have := Rat.mul_pos hk (show 0 < -x by grind)
        grind
      · rw [z, Rat.mul_zero] at h; exact absurd h (by decide)
      · exact z
    · exact fun h => Rat.mul_pos hk h
  have e2 : k * x < 0 ↔ x < 0 := by
    constructor
    · intro h
      rcases tri x with z | z | z
      · exact z
      · rw [z, Rat.mul_zero] at h; exact absurd h (by decide)
      · have := Rat.mul_pos hk z
        grind
    · intro h
      have := Rat.mul_pos hk (show 0 < -x by grind)
      grind
  simp only [e1, e2]
theorem ord_sgn (p q : Fr) : ordF p q = sgn (p.1 * q.2 - q.1 * p.2) := by
  unfold ordF sgn
  generalize p.1 * q.2 - q.1 * p.2 = g
  by_cases h1 : 0 < g <;> by_cases h2 : g < 0 <;> simp [h1, h2, b2i]
theorem ord_val {n m : Nat} {p q : Fr} (hp : Gd n p) (hq : Gd m q) : ordF p q = sgnQ (val p - val q) := by
  rw [ord_sgn, sgn_int, Rat.intCast_sub, Rat.intCast_mul, Rat.intCast_mul]
  have e : (p.1 : Rat) * q.2 - q.1 * p.2 = ((p.2 : Rat) * q.2) * (val p - val q) := by
    have := hp.qne
    have := hq.qne
    unfold val
    grind
  rw [e, sgnQ_mul (Rat.mul_pos hp.qpos hq.qpos)]
end U

end
section
namespace U
open PySem PyProof.Rows L2 Evl
local macro_rules | `(tactic| walk_at "ev1") => `(tactic| first
  | exact ev_int | exact ev_bl | exact ev_str | exact ev_non | exact ev_var rfl | exact ea_nil | exact eo_none
  | with_reducible apply ev_ixDisp | with_reducible apply ev_fst | with_reducible apply ev_snd
  | with_reducible apply ev_add | with_reducible apply ev_sub | with_reducible apply ev_mul | with_reducible apply ev_fdiv | with_reducible apply ev_mod | with_reducible apply ev_pow
  | with_reducible apply ev_lt | with_reducible apply ev_le | with_reducible apply ev_gt | with_reducible apply ev_ge
  | with_reducible apply ev_eqI | with_reducible apply ev_neI
  | with_reducible apply ev_neg | with_reducible apply ev_subB | with_reducible apply ev_isNo | with_reducible apply ev_noNo
  | with_reducible apply ev_not | with_reducible apply et_test | with_reducible apply et_B | with_reducible apply et_not
  | with_reducible apply ev_abs | with_reducible apply ev_max | with_reducible apply ev_min | with_reducible apply ev_intB
  | with_reducible apply ev_gcd | with_reducible apply ev_frac | with_reducible apply ev_fadd | with_reducible apply ev_sign | with_reducible apply ev_cmpF
  | with_reducible apply ev_pull rfl
  | with_reducible apply ev_like
  | with_reducible apply ev_tup | with_reducible apply ev_lst | with_reducible apply ea_cons | with_reducible apply eo_some
  | with_reducible apply ev_order | exact ev_part rfl | exact ev_far rfl | exact ev_farPart rfl
  | (with_reducible show List.length _ ≤ 16000000; (simp; done)) | (with_reducible show (0 : Int) < _; decide) | (with_reducible show (_ : Int) < 1000000000000; decide) | (with_reducible show CPow _ _; (unfold CPow; decide)) | (with_reducible show CNz _ _; (unfold CNz; decide))
  | with_reducible apply sg_ret | with_reducible apply sg_asg | with_reducible apply sg_next)
local macro_rules | `(tactic| walk_at "ln") => `(tactic| first | walk_at "ev1" | with_reducible apply sg_seq)

/-! ### rows of fractions -/
abbrev frs (ps : List Fr) : PyData := .tuple (ps.map fr)
def Gds (n : Nat) (ps : List Fr) : Prop := ∀ p ∈ ps, Gd n p
theorem Gds.mono {n m : Nat} {ps : List Fr} (h : Gds n ps) (l : n ≤ m) : Gds m ps := fun p hp => (h p hp).mono l
theorem Gds.two {n : Nat} {p q : Fr} (hp : Gd n p) (hq : Gd n q) : Gds n [p, q] := fun x hx => by
  rcases List.mem_cons.mp hx with rfl | hx
  · exact hp
  · rw [List.mem_singleton.mp hx]; exact hq
theorem Gds.fst {n : Nat} {p q : Fr} (h : Gds n [p, q]) : Gd n p := h p (List.mem_cons_self ..)
theorem Gds.snd {n : Nat} {p q : Fr} (h : Gds n [p, q]) : Gd n q := h q (List.mem_cons_of_mem _ (List.mem_cons_self ..))
section
variable {K : Fg} {cs : Cs} {W : WX} {G : Gam} {s s1 s2 s3 s' : Bag} {ta tb tc te : TE} {x y : PyData} {E : XK}
/-- [elt for target in ..], nothing drawn, by what each turn gives -/
theorem ev_lcI {wi : TI} {g : TG} {vs : List Nat} {ds es : List PyData} (h : Src K wi G s ds s1) (hl : es.length = ds.length) (hu : ∀ i e, i ∈ vs → G[i]? = some e → e = .un) (hz : ds.length ≤ 16000000)
    (hs : ∀ (i : Nat) x y, ds[i]? = some x → es[i]? = some y → ∃ Gt, Tgt K g vs G x Gt ∧ EvG K te Gt s1 y s1) : EvG K (tLc wi g tYes te vs) G s (.list es) s1 := by
  have k := ev_lc (K := K) (te := te) (tt := tYes) h (fun i => es[i]?) (fun _ => s1) rfl hu hz fun i x hx => by
    have il := (List.getElem?_eq_some_iff.mp hx).1
    have hy : es[i]? = some (es[i]'(by omega)) := List.getElem?_eq_getElem _
    obtain ⟨Gt, a, b⟩ := hs i x _ hx hy
    refine ⟨Gt, s1, a, ?_, fun y e => ?_, fun hn => rfl⟩
    · rw [hy]; exact et_yes
    · rw [hy] at e
      cases e
      exact b
  have e := range_fm_map (ds := es) id
  rw [List.map_id, hl] at e
  have e2 : (fun i : Nat => (es[i]?).map id) = fun i : Nat => es[i]? := by funext i; simp
  rw [e2] at e
  rw [e] at k
  exact k
theorem ev_minusG {p q : Fr} (h1 : EvG K ta G s (fr p) s1) (h2 : EvG K tb G s1 (fr q) s2) (hp : Gd 3900 p) (hq : Gd 3900 q) : EvG K (tCall (spP K P_minus) [] E (tCons ta (tCons tb tNil))) G s (fr (subF p q)) s2 := ev_minus h1 h2 hp.sz hq.sz ⟨hp.ne, hq.ne⟩
theorem ev_timesG {p q : Fr} (h1 : EvG K ta G s (fr p) s1) (h2 : EvG K tb G s1 (fr q) s2) (hp : Gd 3900 p) (hq : Gd 3900 q) : EvG K (tCall (spP K P_times) [] E (tCons ta (tCons tb tNil))) G s (fr (mulF p q)) s2 := ev_times h1 h2 hp.sz hq.sz ⟨hp.ne, hq.ne⟩
/-! step_from, across, side_of -/
def stepF (ps qs : List Fr) : List Fr := List.zipWith (fun p q => subF q p) ps qs
def P_step : List PyData → PyData → Prop := fun ds r => ∃ ps qs : List Fr, ds = [frs ps, frs qs] ∧ ps.length = qs.length ∧ ps.length ≤ 1000 ∧ Gds 3900 ps ∧ Gds 3900 qs ∧ r = frs (stepF ps qs)
def acrossF (a b c d : Fr) : Fr := subF (mulF a d) (mulF b c)
def P_across : List PyData → PyData → Prop := fun ds r => ∃ a b c d : Fr, ds = [frs [a, b], frs [c, d]] ∧ Gd 1900 a ∧ Gd 1900 b ∧ Gd 1900 c ∧ Gd 1900 d ∧ r = fr (acrossF a b c d)
def sideF (a b c d e f : Fr) : Int := ordF (acrossF (subF c a) (subF d b) (subF e a) (subF f b)) (0, 1)
def P_side : List PyData → PyData → Prop := fun ds r => ∃ a b c d e f : Fr, ds = [frs [a, b], frs [c, d], frs [e, f]] ∧ Gd 900 a ∧ Gd 900 b ∧ Gd 900 c ∧ Gd 900 d ∧ Gd 900 e ∧ Gd 900 f ∧ r = .int (sideF a b c d e f)
theorem ev_step {ps qs : List Fr} (h1 : EvG K ta G s (frs ps) s1) (h2 : EvG K tb G s1 (frs qs) s2) (hl : ps.length = qs.length) (hn : ps.length ≤ 1000) (hp : Gds 3900 ps) (hq : Gds 3900 qs) : EvG K (tCall (spP K P_step) [] E (tCons ta (tCons tb tNil))) G s (frs (stepF ps qs)) s2 :=
  ev_call (ea_cons h1 (ea_cons h2 ea_nil)) (fun _ => .nil) ⟨ps, qs, rfl, hl, hn, hp, hq, rfl⟩
theorem ev_across {a b c d : Fr} (h1 : EvG K ta G s (frs [a, b]) s1) (h2 : EvG K tb G s1 (frs [c, d]) s2) (ha : Gd 1900 a) (hb : Gd 1900 b) (hc : Gd 1900 c) (hd : Gd 1900 d) : EvG K (tCall (spP K P_across) [] E (tCons ta (tCons tb tNil))) G s (fr (acrossF a b c d)) s2 :=
  ev_call (ea_cons h1 (ea_cons h2 ea_nil)) (fun _ => .nil) ⟨a, b, c, d, rfl, ha, hb, hc, hd, rfl⟩
theorem Gd.across {n : Nat} {a b c d : Fr} (ha : Gd n a) (hb : Gd n b) (hc : Gd n c) (hd : Gd n d) : Gd (n + n + (n + n) + 1) (acrossF a b c d) := (ha.mul hd).sub (hb.mul hc)
theorem val_across {n : Nat} {a b c d : Fr} (ha : Gd n a) (hb : Gd n b) (hc : Gd n c) (hd : Gd n d) : val (acrossF a b c d) = val a * val d - val b * val c := by
  unfold acrossF
  rw [val_sub (ha.mul hd) (hb.mul hc), val_mul ha hd, val_mul hb hc]
theorem gd01 : Gd 1 (0, 1) := ⟨⟨by unfold Bd; decide, by unfold Bd; decide⟩, by decide, by decide⟩
def crossQ (a b c d e f : Rat) : Rat := (c - a) * (f - b) - (d - b) * (e - a)
theorem side_val {n : Nat} {a b c d e f : Fr} (ha : Gds n [a, b]) (hc : Gds n [c, d]) (he : Gds n [e, f]) : sideF a b c d e f = sgnQ (crossQ (val a) (val b) (val c) (val d) (val e) (val f)) := by
  unfold sideF crossQ
  have g1 := hc.fst.sub ha.fst
  have g2 := hc.snd.sub ha.snd
  have g3 := he.fst.sub ha.fst
  have g4 := he.snd.sub ha.snd
  rw [ord_val (g1.across g2 g3 g4) gd01, val_across g1 g2 g3 g4, val_sub hc.fst ha.fst, val_sub hc.snd ha.snd, val_sub he.fst ha.fst, val_sub he.snd ha.snd]
  have : val (0, 1) = 0 := by show ((0 : Int) : Rat) / ((1 : Int) : Rat) = 0; grind
  rw [this]
  congr 1
  grind
def t_step_from (K : Fg) : TS := (tRet (tCB (rTupQ K) (tCons (tLc (RZ.iZipA K (tCons (tVar 0) (tCons (tVar 1) tNil))) (gTup K 2 (gCons (gName 2) (gCons (gName 3) gNil))) tYes (tCall (spP K P_minus) [] E0 (tCons (tVar 3) (tCons (tVar 2) tNil))) [2, 3]) tNil)))
-- slots of step_from: 0 one, 1 other, 2 first, 3 second
theorem ln_step_from : ∀ ds r, P_step ds r → ds.length = 2 := fun ds r h => by obtain ⟨p, q, rfl, _⟩ := h; rfl
theorem zip_get {ps qs : List Fr} {i : Nat} {x : PyData} (h : (List.zipWith (fun x y => PyData.tuple [x, y]) (ps.map fr) (qs.map fr))[i]? = some x) : ∃ p q, ps[i]? = some p ∧ qs[i]? = some q ∧ x = .tuple [fr p, fr q] := by
  rw [List.getElem?_zipWith, List.getElem?_map, List.getElem?_map] at h
  cases hp : ps[i]? with
  | none => rw [hp] at h; cases h
  | some p =>
    cases hq : qs[i]? with
    | none => rw [hp, hq] at h; cases h
    | some q =>
      rw [hp, hq] at h
      cases h
      exact ⟨p, q, rfl, rfl, rfl⟩
theorem un_at2 {G : Gam} {j k : Nat} (h : G[j]? = some .un) (h2 : G[k]? = some .un) : ∀ i e, i ∈ [j, k] → G[i]? = some e → e = .un := fun i e hi g => by
  rcases List.mem_cons.mp hi with rfl | hi
  · rw [h] at g; exact (Option.some.inj g).symm
  · rw [List.mem_singleton.mp hi, h2] at g
    exact (Option.some.inj g).symm
theorem rd_step_from {ds r} (h : P_step ds r) (b : Bag) : SG K (t_step_from K) (frame 4 ds) b (.rt r b) := by
  obtain ⟨ps, qs, rfl, hl, hn, hp, hq, rfl⟩ := h
  refine sg_ret (ev_tupL (ev_lcI (es := (stepF ps qs).map fr) (src_zipT (ea_cons (ev_var rfl) (ea_cons (ev_var rfl) ea_nil)) (by rw [List.length_map, List.length_map, hl])) ?_ (un_at2 rfl rfl) ?_ fun i x y hx hy => ?_))
  · simp [stepF]
  · simp; omega
  · obtain ⟨p, q, h1, h2, rfl⟩ := zip_get hx
    refine ⟨_, tgt_tup (is := [2, 3]) rfl rfl, ev_is (ev_minusG (ev_var rfl) (ev_var rfl) (hq q (List.mem_of_getElem? h2)) (hp p (List.mem_of_getElem? h1))) ?_⟩
    unfold stepF at hy
    rw [List.getElem?_map, List.getElem?_zipWith, h1, h2] at hy
    exact Option.some.inj hy
def t_across (K : Fg) : TS := (tRet (tCall (spP K P_minus) [] E0 (tCons (tCall (spP K P_times) [] E0 (tCons (tOp (rIx K) (tVar 0) (tC (V.int 0))) (tCons (tOp (rIx K) (tVar 1) (tC (V.int 1))) tNil))) (tCons (tCall (spP K P_times) [] E0 (tCons (tOp (rIx K) (tVar 0) (tC (V.int 1))) (tCons (tOp (rIx K) (tVar 1) (tC (V.int 0))) tNil))) tNil))))
-- slots of across: 0 one, 1 other
theorem ln_across : ∀ ds r, P_across ds r → ds.length = 2 := fun ds r h => by obtain ⟨_, _, _, _, rfl, _⟩ := h; rfl
theorem rd_across {ds r} (h : P_across ds r) (b : Bag) : SG K (t_across K) (frame 2 ds) b (.rt r b) := by
  obtain ⟨p, q, u, v, rfl, hp, hq, hu, hv, rfl⟩ := h
  exact sg_ret (ev_minusG (ev_timesG (ev_ixT (ev_var rfl) ev_int rfl) (ev_ixT (ev_var rfl) ev_int rfl) (hp.mono (by decide)) (hv.mono (by decide))) (ev_timesG (ev_ixT (ev_var rfl) ev_int rfl) (ev_ixT (ev_var rfl) ev_int rfl) (hq.mono (by decide)) (hu.mono (by decide))) ((hp.mul hv).mono (by decide)) ((hq.mul hu).mono (by decide)))
def t_side_of (K : Fg) : TS := (tRet (tCall (spP K P_order) [] E0 (tCons (tCall (spP K P_across) [] E0 (tCons (tCall (spP K P_step) [] E0 (tCons (tVar 0) (tCons (tVar 1) tNil))) (tCons (tCall (spP K P_step) [] E0 (tCons (tVar 0) (tCons (tVar 2) tNil))) tNil))) (tCons (tTup (tCons (tC (V.int 0)) (tCons (tC (V.int 1)) tNil))) tNil))))
-- slots of side_of: 0 start, 1 end, 2 spot
theorem ln_side_of : ∀ ds r, P_side ds r → ds.length = 3 := fun ds r h => by obtain ⟨_, _, _, _, _, _, rfl, _⟩ := h; rfl
theorem rd_side_of {ds r} (h : P_side ds r) (b : Bag) : SG K (t_side_of K) (frame 3 ds) b (.rt r b) := by
  obtain ⟨p, q, u, v, x, y, rfl, hp, hq, hu, hv, hx, hy, rfl⟩ := h
  have s1 : ∀ {a b c d : Fr}, Gd 900 a → Gd 900 b → Gd 900 c → Gd 900 d → Gds 3900 [a, b] ∧ Gd 1900 (subF c a) ∧ Gd 1900 (subF d b) := fun ha hb hc hd => ⟨Gds.two (ha.mono (by decide)) (hb.mono (by decide)), (hc.sub ha).mono (by decide), (hd.sub hb).mono (by decide)⟩
  obtain ⟨a1, a2, a3⟩ := s1 hp hq hu hv
  obtain ⟨_, b2, b3⟩ := s1 hp hq hx hy
  refine sg_ret (ev_order (ev_across (ev_step (ps := [p, q]) (qs := [u, v]) (ev_var rfl) (ev_var rfl) rfl (by show 2 ≤ 1000; decide) a1 (Gds.two (hu.mono (by decide)) (hv.mono (by decide)))) (ev_step (ps := [p, q]) (qs := [x, y]) (ev_var rfl) (ev_var rfl) rfl (by show 2 ≤ 1000; decide) a1 (Gds.two (hx.mono (by decide)) (hy.mono (by decide)))) a2 a3 b2 b3) (ev_tup (ea_cons ev_int (ea_cons ev_int ea_nil)) (by show 2 ≤ 16000000; decide)) ((a2.across a3 b2 b3).sz.mono (by decide)) (gd01.sz.mono (by decide)))
/-! ### the law's own -/
theorem two_of {ps : List Fr} (h : ps.length = 2) : ∃ p q, ps = [p, q] := by
  match ps, h with
  | [p, q], _ => exact ⟨p, q, rfl⟩
-- slots of _law_hom: 0 _law_spot_here
-- slots of _law_det: 0 _law_one, 1 _law_two, 2 _law_three, 3 _law_first, 4 _law_second
-- slots of _law_turn: 0 _law_one, 1 _law_two, 2 _law_three
-- slots of _law_along: 0 _law_one, 1 _law_two, 2 _law_share, 3 _law_steps, 4 _law_at
end
end U


end
section
namespace U
open PySem PyProof.Rows L2 Evl
local macro_rules | `(tactic| walk_at "ev1") => `(tactic| first
  | exact ev_int | exact ev_bl | exact ev_str | exact ev_non | exact ev_var rfl | exact ea_nil | exact eo_none
  | with_reducible apply ev_ixDisp | with_reducible apply ev_fst | with_reducible apply ev_snd
  | with_reducible apply ev_add | with_reducible apply ev_sub | with_reducible apply ev_mul | with_reducible apply ev_fdiv | with_reducible apply ev_mod | with_reducible apply ev_pow
  | with_reducible apply ev_lt | with_reducible apply ev_le | with_reducible apply ev_gt | with_reducible apply ev_ge
  | with_reducible apply ev_eqI | with_reducible apply ev_neI
  | with_reducible apply ev_neg | with_reducible apply ev_subB | with_reducible apply ev_isNo | with_reducible apply ev_noNo
  | with_reducible apply ev_not | with_reducible apply et_test | with_reducible apply et_B | with_reducible apply et_not
  | with_reducible apply ev_abs | with_reducible apply ev_max | with_reducible apply ev_min | with_reducible apply ev_intB
  | with_reducible apply ev_gcd | with_reducible apply ev_frac | with_reducible apply ev_fadd | with_reducible apply ev_sign | with_reducible apply ev_cmpF
  | with_reducible apply ev_pull rfl
  | with_reducible apply ev_like
  | with_reducible apply ev_tup | with_reducible apply ev_lst | with_reducible apply ea_cons | with_reducible apply eo_some
  | with_reducible apply ev_order | exact ev_part rfl | exact ev_far rfl | exact ev_farPart rfl
  | (with_reducible show List.length _ ≤ 16000000; (simp; done)) | (with_reducible show (0 : Int) < _; decide) | (with_reducible show (_ : Int) < 1000000000000; decide) | (with_reducible show CPow _ _; (unfold CPow; decide)) | (with_reducible show CNz _ _; (unfold CNz; decide))
  | with_reducible apply sg_ret | with_reducible apply sg_asg | with_reducible apply sg_next)
local macro_rules | `(tactic| walk_at "ln") => `(tactic| first | walk_at "ev1" | with_reducible apply sg_seq)

section
variable {K : Fg} {cs : Cs} {W : WX} {G : Gam} {s s1 s2 s3 s4 s' : Bag} {ta tb tc td te : TE} {x y : PyData} {E : XK} {E2 : St → XK}
-- slots of gone: 0 spot, 1 step, 2 many, 3 first, 4 second
/-! crossing -/
-- slots of crossing: 0 start, 1 end, 2 other_start, 3 other_end, 4 step, 5 other_step, 6 span, 7 many
-- slots of told09: 0 _law_one, 1 _law_two, 2 _law_three, 3 _law_four, 4 why
/-! the law's own -/
-- slots of _law_mid: 0 _law_one, 1 _law_two, 2 _law_at
-- slots of _law_lowest: 0 _law_one, 1 _law_number
-- slots of _law_right: 0 _law_found, 1 _law_one, 2 _law_two, 3 _law_three, 4 _law_four, 5 _law_first, 6 _law_second
end
end U


end
section
namespace U
open PySem PyProof.Rows L2 Evl
local macro_rules | `(tactic| walk_at "ev1") => `(tactic| first
  | exact ev_int | exact ev_bl | exact ev_str | exact ev_non | exact ev_var rfl | exact ea_nil | exact eo_none
  | with_reducible apply ev_ixDisp | with_reducible apply ev_fst | with_reducible apply ev_snd
  | with_reducible apply ev_add | with_reducible apply ev_sub | with_reducible apply ev_mul | with_reducible apply ev_fdiv | with_reducible apply ev_mod | with_reducible apply ev_pow
  | with_reducible apply ev_lt | with_reducible apply ev_le | with_reducible apply ev_gt | with_reducible apply ev_ge
  | with_reducible apply ev_eqI | with_reducible apply ev_neI
  | with_reducible apply ev_neg | with_reducible apply ev_subB | with_reducible apply ev_isNo | with_reducible apply ev_noNo
  | with_reducible apply ev_not | with_reducible apply et_test | with_reducible apply et_B | with_reducible apply et_not
  | with_reducible apply ev_abs | with_reducible apply ev_max | with_reducible apply ev_min | with_reducible apply ev_intB
  | with_reducible apply ev_gcd | with_reducible apply ev_frac | with_reducible apply ev_fadd | with_reducible apply ev_sign | with_reducible apply ev_cmpF
  | with_reducible apply ev_pull rfl
  | with_reducible apply ev_like
  | with_reducible apply ev_tup | with_reducible apply ev_lst | with_reducible apply ea_cons | with_reducible apply eo_some
  | with_reducible apply ev_order | exact ev_part rfl | exact ev_far rfl | exact ev_farPart rfl
  | (with_reducible show List.length _ ≤ 16000000; (simp; done)) | (with_reducible show (0 : Int) < _; decide) | (with_reducible show (_ : Int) < 1000000000000; decide) | (with_reducible show CPow _ _; (unfold CPow; decide)) | (with_reducible show CNz _ _; (unfold CNz; decide))
  | with_reducible apply sg_ret | with_reducible apply sg_asg | with_reducible apply sg_next)
local macro_rules | `(tactic| walk_at "ln") => `(tactic| first | walk_at "ev1" | with_reducible apply sg_seq)

/-! ### lists or tuples -/
def itemsOf : PyData → Option (List PyData)
  | .list xs => some xs
  | .tuple xs => some xs
  | _ => none
theorem items_cases {x : PyData} {xs : List PyData} (h : itemsOf x = some xs) : x = .list xs ∨ x = .tuple xs := by
  cases x <;> first | cases h | skip
  · exact .inl rfl
  · exact .inr rfl
section
variable {K : Fg} {cs : Cs} {gs : Gs} {W : WX} {G : Gam} {s s1 s2 s3 s' : Bag} {ta tb tc te : TE} {x y : PyData} {E : XK} {xs : List PyData}
/-! ### maps -/
abbrev mp (m : List (List Fr)) : PyData := .tuple (m.map frs)
-- slots of map_of: 0 rows, 1 row, 2 one
end
end U


end
section
namespace U
open PySem PyProof.Rows L2 Evl
local macro_rules | `(tactic| walk_at "ev1") => `(tactic| first
  | exact ev_int | exact ev_bl | exact ev_str | exact ev_non | exact ev_var rfl | exact ea_nil | exact eo_none
  | with_reducible apply ev_ixDisp | with_reducible apply ev_fst | with_reducible apply ev_snd
  | with_reducible apply ev_add | with_reducible apply ev_sub | with_reducible apply ev_mul | with_reducible apply ev_fdiv | with_reducible apply ev_mod | with_reducible apply ev_pow
  | with_reducible apply ev_lt | with_reducible apply ev_le | with_reducible apply ev_gt | with_reducible apply ev_ge
  | with_reducible apply ev_eqI | with_reducible apply ev_neI
  | with_reducible apply ev_neg | with_reducible apply ev_subB | with_reducible apply ev_isNo | with_reducible apply ev_noNo
  | with_reducible apply ev_not | with_reducible apply et_test | with_reducible apply et_B | with_reducible apply et_not
  | with_reducible apply ev_abs | with_reducible apply ev_max | with_reducible apply ev_min | with_reducible apply ev_intB
  | with_reducible apply ev_gcd | with_reducible apply ev_frac | with_reducible apply ev_fadd | with_reducible apply ev_sign | with_reducible apply ev_cmpF
  | with_reducible apply ev_pull rfl
  | with_reducible apply ev_like
  | with_reducible apply ev_tup | with_reducible apply ev_lst | with_reducible apply ea_cons | with_reducible apply eo_some
  | with_reducible apply ev_order | exact ev_part rfl | exact ev_far rfl | exact ev_farPart rfl
  | (with_reducible show List.length _ ≤ 16000000; (simp; done)) | (with_reducible show (0 : Int) < _; decide) | (with_reducible show (_ : Int) < 1000000000000; decide) | (with_reducible show CPow _ _; (unfold CPow; decide)) | (with_reducible show CNz _ _; (unfold CNz; decide))
  | with_reducible apply sg_ret | with_reducible apply sg_asg | with_reducible apply sg_next)
local macro_rules | `(tactic| walk_at "ln") => `(tactic| first | walk_at "ev1" | with_reducible apply sg_seq)

theorem cutD_init (xs : List PyData) : cutD xs none (some (-1)) = xs.dropLast := by
  unfold cutD
  rw [HT.sIx_none, List.drop_zero, Nat.sub_zero, List.dropLast_eq_take]
  congr 1
  have e : HT.sIx xs.length xs.length (some (-1)) = ((-1 : Int) + (xs.length : Int)).toNat := by
    show (if (-1 : Int) < 0 then ((-1 : Int) + (xs.length : Int)).toNat else min (-1 : Int).toNat xs.length) = _
    rw [if_pos (by decide)]
  rw [e]
  omega
section
variable {K : Fg} {cs : Cs} {gs : Gs} {W : WX} {G : Gam} {s s1 s2 s3 s' : Bag} {ta tb tc te : TE} {x y : PyData} {E : XK} {xs : List PyData}
-- slots of still: 0 room
-- slots of straightened: 0 way, 1 row
/-! ### drawn maps -/
-- slots of _law_whole_part: 0 _law_bag_here
-- slots of _law_entry: 0 _law_bag_here
/-- a map of n rows of m + 1 fractions -/
structure Mp (k n m : Nat) (a : List (List Fr)) : Prop where
  len : a.length = n
  row : ∀ r ∈ a, r.length = m + 1 ∧ Gds k r
-- slots of _law_map: 0 _law_bag_here, 1 _law_start, 2 _law_goal, 3 _law_row, 4 _law_at
-- slots of told15: 0 _law_rows, 1 why
end
end U


end
section
namespace U
open PySem PyProof.Rows L2 Evl
section
variable {K : Fg} {cs : Cs} {gs : Gs} {W : WX} {G GI G1 : Gam} {s s1 s2 s3 s' : Bag} {ta tb tc te : TE} {x y : PyData} {E : XK} {xs : List PyData}
end
end U


end
section
namespace U.N
open PySem PyProof.Rows L2 Evl
section
variable {K : Fg} {cs : Cs} {W : WX} {G G' G1 G2 : Gam} {ta tb tc te : TE} {t u : TT} {φ : PyData → Prop} {ε : Xw → Prop} {ψ : Bool → Prop} {α : List PyData → Prop} {ι : List PyData → Prop} {χ : Own → Prop} {ω : Option Int → Prop}
variable {Wd : Addr → Prop} {B : Option (Addr × Addr)} {ad : Nat → Addr} {H0 H H1 H2 : Hp} {σ : St}
/-! ### items -/
/-- an item of a list or a tuple -/
theorem ew_ix (h : EW K cs W ta G (fun x => ∃ xs, itemsOf x = some xs ∧ EW K cs W tb G (fun y => ∃ j, y = .int j ∧ ∃ z, atI xs j = some z ∧ φ z) ε) ε) : EW K cs W (tOp (rIx K) ta tb) G φ ε :=
  ew_op (ew_mono h fun x ⟨xs, e, h⟩ => ew_mono h fun y ⟨j, e2, z, hz, p⟩ => fun Wd B ad H0 H σ v w S d1 d2 Q q => by
    subst e2
    cases d2
    rcases items_cases e with rfl | rfl
    · cases d1 with
      | lst g t =>
        obtain ⟨v, g1, g2⟩ := dpa_atI t hz
        exact .inl ⟨_, _, j, v, rfl, rfl, ex_l less_ex g, g1, q _ p _ H S Xb.refl g2⟩
    · cases d1 with
      | tup g t =>
        obtain ⟨v, g1, g2⟩ := dpa_atI t hz
        exact .inr (.inl ⟨_, _, j, v, rfl, rfl, ex_t less_ex g, g1, q _ p _ H S Xb.refl g2⟩))
/-- an item of a list of one's own -/
theorem ew_ixO {xs : List PyData} {i : Nat} (hi : G[i]? = some (.ow (ol xs))) (h : EW K cs W tb G (fun y => ∃ j, y = .int j ∧ ∃ z, atI xs j = some z ∧ φ z) ε) : EW K cs W (tOp (rIx K) (tVar i) tb) G φ ε := fun Wd B ad H0 H σ S Q q x => by
  obtain ⟨o, g1, rfl, _⟩ := S.at_ i _ hi
  refine ⟨_, g1, h Wd B ad H0 H σ S _ (fun y ⟨j, e, z, hz, p⟩ w H2 S2 e2 d2 => ?_) x⟩
  subst e
  cases d2
  obtain ⟨_, _, _, vs, g3, g4⟩ := S2.at_ i _ hi
  have g3 : H2 (ad i) = some (.lst vs) := g3
  have g4 : DpAll K _ vs xs := g4
  obtain ⟨v, g5, g6⟩ := dpa_atI g4 hz
  exact .inl ⟨_, _, j, v, rfl, rfl, sq_of g3, g5, q _ p _ H2 S2 e2 g6⟩
/-! ### tests -/
theorem tw_test (h : EW K cs W te G (fun x => ∃ b, x = .bool b ∧ ψ b) ε) : TW K cs W (tTest te) G ψ ε := fun Wd B ad H0 H σ S Q q x => h Wd B ad H0 H σ S _ (fun y ⟨b, e, p⟩ v H1 S1 e1 d1 => by
  subst e
  cases d1
  exact ⟨b, rfl, q b p H1 S1 e1⟩) x
theorem tw_B (h : EW K cs W te G (fun x => ∃ b, x = .bool b ∧ ψ b) ε) : TW K cs W (tB te) G ψ ε := tw_test h
theorem tw_yes (h : ψ true) : TW K cs W tYes G ψ ε := fun Wd B ad H0 H σ S Q q x => q true h H S Xb.refl
theorem tw_not (h : TW K cs W t G (fun b => ψ (!b)) ε) : TW K cs W (tNot t) G ψ ε := fun Wd B ad H0 H σ S Q q x => h Wd B ad H0 H σ S _ (fun b p => q (!b) p) x
theorem tw_and (h : TW K cs W t G (fun b => Cnd b (TW K cs W u G ψ ε) (ψ false)) ε) : TW K cs W (tAnd t u) G ψ ε := fun Wd B ad H0 H σ S Q q x => h Wd B ad H0 H σ S _ (fun b p H1 S1 e1 => by
  cases b with
  | true => exact iteT (p.1 rfl Wd B ad H0 H1 σ S1 _ (fun b p H2 S2 e2 => q b p H2 S2 (e1.trans e2)) (x.go e1))
  | false => exact iteF (q _ (p.2 rfl) H1 S1 e1)) x
theorem tw_or (h : TW K cs W t G (fun b => Cnd b (ψ true) (TW K cs W u G ψ ε)) ε) : TW K cs W (tOr t u) G ψ ε := fun Wd B ad H0 H σ S Q q x => h Wd B ad H0 H σ S _ (fun b p H1 S1 e1 => by
  cases b with
  | false => exact iteF (p.2 rfl Wd B ad H0 H1 σ S1 _ (fun b p H2 S2 e2 => q b p H2 S2 (e1.trans e2)) (x.go e1))
  | true => exact iteT (q _ (p.1 rfl) H1 S1 e1)) x
theorem ew_if (h : TW K cs W t G (fun b => Cnd b (EW K cs W ta G φ ε) (EW K cs W tb G φ ε)) ε) : EW K cs W (tIf t ta tb) G φ ε := fun Wd B ad H0 H σ S Q q x => h Wd B ad H0 H σ S _ (fun b p H1 S1 e1 => by
  cases b with
  | true => exact iteT (p.1 rfl Wd B ad H0 H1 σ S1 _ (fun b p v H2 S2 e2 d2 => q b p v H2 S2 (e1.trans e2) d2) (x.go e1))
  | false => exact iteF (p.2 rfl Wd B ad H0 H1 σ S1 _ (fun b p v H2 S2 e2 d2 => q b p v H2 S2 (e1.trans e2) d2) (x.go e1))) x
/-! ### promises -/
inductive Rs where
  | ok (x : PyData)
  | fl (c : Own)
  | er (e : Xw)
abbrev Pr := List PyData → (Rs → Prop) → Prop
def okRs (H : Hp) (K : Fg) (Wd : Addr → Prop) (Q : VK) (A : Rs → Prop) : Prop :=
  (∀ x, A (.ok x) → ∀ v H', Ex H H' → Dp K (less H' Wd) v x → Q v H') ∧
  (∀ c, A (.fl c) → ∀ a vs H', Ex H H' → H a = none → H' a = some (c.obj a vs) → DpAll K (less H' fun b => Wd b ∨ b = a) vs c.flat → Q (.ref a) H')
/-- a def that never raises -/
def spW0 (K : Fg) (P : Pr) : Sp := fun vs H Q _ => ∃ (Wd : Addr → Prop) (ds : List PyData) (A : Rs → Prop), (∀ a, Wd a → ∃ o, H a = some o) ∧ DpAll K (less H Wd) vs ds ∧ P ds A ∧ okRs H K Wd Q A
/-- a def that may raise -/
def spW (K : Fg) (cs : Cs) (P : Pr) : Sp := fun vs H Q E => ∃ (Wd : Addr → Prop) (ds : List PyData) (A : Rs → Prop), (∀ a, Wd a → ∃ o, H a = some o) ∧ DpAll K (less H Wd) vs ds ∧ P ds A ∧ okRs H K Wd Q A ∧
  ∀ e, A (.er e) → ∀ d H', Ex H H' → H d = none → H' d = some (.xd e.fs) → E (.ref (cs e.cls)) (some d) H'
/-- what is wanted of a call's answer -/
def rE (φ : PyData → Prop) (ε : Xw → Prop) : Rs → Prop
  | .ok x => φ x
  | .fl c => ∃ xs, c = ol xs ∧ φ (.list xs)
  | .er e => ε e
theorem fl_upd {a : Addr} {o : HO} (h : H a = some o) : upd (less H fun b => b = a) a o = H := by
  funext b
  by_cases e : b = a
  · rw [e, upd_same, h]
  · rw [upd_ne e]; exact less_no (Z := fun b => b = a) e
theorem less_less {Z Z' : Addr → Prop} : less (less H Z) Z' = less H fun b => Z b ∨ Z' b := by
  funext b
  by_cases z' : Z' b
  · rw [less_yes z', less_yes (.inr z')]
  · rw [less_no z']
    by_cases z : Z b
    · rw [less_yes z, less_yes (.inl z)]
    · rw [less_no z, less_no (fun h => h.elim z z')]
/-- the answer of a call, a new thing: what stood before stands without it -/
theorem fl_go {a : Addr} {o : HO} (S : Sta K Wd B ad H0 H σ G) (e : Xb B H H2) (b : BagOk H2 B) (hn : H a = none) (ho : H2 a = some o) : Sta K Wd B ad H0 (less H2 fun b => b = a) σ G ∧ Xb B H (less H2 fun b => b = a) ∧ (less H2 fun b => b = a) a = none ∧ (less (less H2 fun b => b = a) (Zs Wd B ad G)) = less H2 (fun b => Zs Wd B ad G b ∨ b = a) := by
  have x : Xb B H (less H2 fun b => b = a) := fun p u h n => less_of (fun z => by rw [z, hn] at h; cases h) (e p u h n)
  have nb : ¬ InB B a := (S.fresh hn).2.1
  refine ⟨S.drawn x (b.xb fun p z => less_no fun e => nb (e ▸ z)), x, less_yes rfl, ?_⟩
  rw [less_less]
  exact congrArg (less H2) (funext fun b => propext Or.comm)
theorem ew_callP {P : List PyData → PyData → Prop} {ta : TA} {dvs : List V} {des : List PyData} {E : XK} (hd : ∀ H, DpAll K H dvs des) (h : AW K cs W ta G (fun ds => ∃ r, P (ds ++ des) r ∧ φ r) ε) : EW K cs W (tCall (spP K P) dvs E ta) G φ ε := fun Wd B ad H0 H σ S Q q x =>
  h Wd B ad H0 H σ S _ (fun ds ⟨r, hp, p⟩ vs H1 S1 e1 d1 => ⟨Zs Wd B ad G, ds ++ des, r, S1.there, dpa_app d1 (hd _), hp, fun v H' e d => q r p v H' (S1.ext e) (e1.trans (.of e)) d⟩) x
theorem bag_zl {b c : Addr} (H : Hp) : (less H fun a => (Wd a ∨ ∃ i c, G[i]? = some (En.ow c) ∧ a = ad i) ∨ InB (some (b, c)) a) = less H (Zs Wd (some (b, c)) ad G) := congrArg (less H) (funext fun a => propext or_assoc)
theorem ew_callB {P : Bag → List PyData → PyData → Bag → Prop} {tr : TA} {i : Nat} {E : XK} (hi : G[i]? = some .bag) (h : AW K cs W tr G (fun ds => ∀ s : Bag, s.ok → ∃ r s', P s ds r s' ∧ s'.ok ∧ φ r) ε) : EW K cs W (tCall (spB K P) [] E (tCons (tVar i) tr)) G φ ε := fun Wd B ad H0 H σ S Q q x => by
  obtain ⟨o, g1, b, c, rfl, rfl⟩ := S.at_ i _ hi
  refine ⟨_, g1, h Wd _ ad H0 H σ S _ (fun ds hp vs H1 S1 e1 d1 => ?_) x⟩
  obtain ⟨s, ok, hb⟩ := S1.bag
  obtain ⟨r, s', hp, ok', p⟩ := hp s ok
  refine ⟨fun a => Wd a ∨ ∃ i c, G[i]? = some (En.ow c) ∧ a = ad i, b, c, vs, s, ds, r, s', fun a z => S1.there a (or_assoc.mp (.inl z)), ?_, hb, ?_, hp, fun v H' e hb d => ?_⟩
  · rw [List.append_nil]
  · rw [bag_zl]; exact d1
  · rw [bag_zl] at d
    exact q r p v H' (S1.drawn e ⟨s', ok', hb⟩) (e1.trans e) d
section
variable {P : Pr} {ta : TA} {dvs : List V} {des : List PyData} {E : XK}
theorem ew_call0 (hd : ∀ H, DpAll K H dvs des) (h : AW K cs W ta G (fun ds => P (ds ++ des) (rE φ fun _ => False)) ε) : EW K cs W (tCall (spW0 K P) dvs E ta) G φ ε := fun Wd B ad H0 H σ S Q q x =>
  h Wd B ad H0 H σ S _ (fun ds hp vs H1 S1 e1 d1 => ⟨Zs Wd B ad G, ds ++ des, _, S1.there, dpa_app d1 (hd _), hp, fun y p v H' e d => q y p v H' (S1.ext e) (e1.trans (.of e)) d, fun c p a us H' e hn ho d => by
    obtain ⟨xs, rfl, p⟩ := p
    have S2 := S1.ext e
    refine q _ p _ H' S2 (e1.trans (.of e)) (.lst (sq_of (less_of (S1.fresh hn).2.2 ho)) (dpa_mono (less_sub fun b z => .inl z) d))⟩) x
theorem ew_callW (hd : ∀ H, DpAll K H dvs des) (h : AW K cs W ta G (fun ds => P (ds ++ des) (rE φ ε)) ε) : EW K cs W (tCallSD (spW K cs P) dvs (WE W) ta) G φ ε := fun Wd B ad H0 H σ S Q q x =>
  h Wd B ad H0 H σ S _ (fun ds hp vs H1 S1 e1 d1 => ⟨Zs Wd B ad G, ds ++ des, _, S1.there, dpa_app d1 (hd _), hp, ⟨fun y p v H' e d => q y p v H' (S1.ext e) (e1.trans (.of e)) d, fun c p a us H' e hn ho d => by
    obtain ⟨xs, rfl, p⟩ := p
    have S2 := S1.ext e
    refine q _ p _ H' S2 (e1.trans (.of e)) (.lst (sq_of (less_of (S1.fresh hn).2.2 ho)) (dpa_mono (less_sub fun b z => .inl z) d))⟩, fun e p d H' e2 hn hx => x e p d H' (S1.ext e2) (e1.trans (.of e2)) (S1.fresh hn).1 (less_of (S1.fresh hn).2.2 hx)⟩) x
/-- keyword arguments -/
theorem ew_callN {Q' : List PyData → PyData → Prop} {tk : TA} {n m : Nat} (h : AW K cs W ta G (fun ds => AW K cs W tk G (fun es => ds.length = n ∧ es.length = m ∧ ∃ r, Q' (ds ++ es) r ∧ φ r) ε) ε) : EW K cs W (tCallN n m (spP K Q') (fun vs zs => vs ++ zs) E ta tk) G φ ε := fun Wd B ad H0 H σ S Q q x =>
  h Wd B ad H0 H σ S _ (fun ds h2 vs H1 S1 e1 d1 => h2 Wd B ad H0 H1 σ S1 _ (fun es ⟨hn, hm, r, hp, p⟩ zs H2 S2 e2 d2 =>
    ⟨(dpa_len d1).trans hn, (dpa_len d2).trans hm, Zs Wd B ad G, ds ++ es, r, S2.there, dpa_app (dpa_mono (Xb.lz e2) d1) d2, hp, fun v H' e d => q r p v H' (S2.ext e) ((e1.trans e2).trans (.of e)) d⟩) (x.go e1)) x
end
/-! ### built-ins -/
theorem ew_cb {r : List V → Hp → VK → Prop} {ta : TA} (h : AW K cs W ta G (fun xs => ∀ Wd B ad H0 H σ vs, Sta K Wd B ad H0 H σ G → DpAll K (less H (Zs Wd B ad G)) vs xs → ∀ Q : VK, (∀ z, φ z → ∀ v H2, Sta K Wd B ad H0 H2 σ G → Xb B H H2 → Dp K (less H2 (Zs Wd B ad G)) v z → Q v H2) → r vs H Q) ε) : EW K cs W (tCB r ta) G φ ε := fun Wd B ad H0 H σ S Q q x =>
  h Wd B ad H0 H σ S _ (fun xs p vs H1 S1 e1 d1 => p Wd B ad H0 H1 σ vs S1 d1 Q fun z p v H2 S2 e2 d2 => q z p v H2 S2 (e1.trans e2) d2) x
theorem ef_cb {r : List V → Hp → VK → Prop} {ta : TA} (h : AW K cs W ta G (fun xs => ∀ Wd B ad H0 H σ vs, Sta K Wd B ad H0 H σ G → DpAll K (less H (Zs Wd B ad G)) vs xs → ∀ Q : VK, (∀ c, χ c → ∀ a vs H2, Sta K Wd B ad H0 H2 σ G → Xb B H H2 → H2 a = none → DpAll K (less H2 (Zs Wd B ad G)) vs c.flat → Q (.ref a) (upd H2 a (c.obj a vs))) → r vs H Q) ε) : EF K cs W (tCB r ta) G χ ε := fun Wd B ad H0 H σ S Q q x =>
  h Wd B ad H0 H σ S _ (fun xs p vs H1 S1 e1 d1 => p Wd B ad H0 H1 σ vs S1 d1 Q fun c p a us H2 S2 e2 hn d2 => q c p a us H2 S2 (e1.trans e2) hn d2) x
theorem ew_abs {ta : TA} (h : AW K cs W ta G (fun xs => ∃ i, xs = [.int i] ∧ φ (.int (absI i))) ε) : EW K cs W (tCB rAbs ta) G φ ε := ew_cb (aw_mono h fun xs ⟨i, e, p⟩ Wd B ad H0 H σ vs S d Q q => by
  subst e
  obtain ⟨v, rfl, d1⟩ := dp1 d
  cases d1
  exact ⟨i, rfl, q _ p _ H S Xb.refl (.int _)⟩)
theorem ew_len {ta : TA} (h : AW K cs W ta G (fun xs => ∃ x ys, xs = [x] ∧ itemsOf x = some ys ∧ φ (.int ys.length)) ε) : EW K cs W (tCB (rLenQ K) ta) G φ ε := ew_cb (aw_mono h fun xs ⟨x, ys, e, hx, p⟩ Wd B ad H0 H σ vs S d Q q => by
  subst e
  obtain ⟨v, rfl, d1⟩ := dp1 d
  rcases items_cases hx with rfl | rfl
  · cases d1 with
    | lst g t => exact ⟨_, _, rfl, .inl (ex_l less_ex g), by rw [dpa_len t]; exact q _ p _ H S Xb.refl (.int _)⟩
  · cases d1 with
    | tup g t => exact ⟨_, _, rfl, .inr (ex_t less_ex g), by rw [dpa_len t]; exact q _ p _ H S Xb.refl (.int _)⟩)
theorem ew_lenO {xs : List PyData} {i : Nat} (hi : G[i]? = some (.ow (ol xs))) (p : φ (.int xs.length)) : EW K cs W (tCB (rLenQ K) (tCons (tVar i) tNil)) G φ ε := fun Wd B ad H0 H σ S Q q x => by
  obtain ⟨o, g1, rfl, vs, g3, g4⟩ := S.at_ i _ hi
  have g3 : H (ad i) = some (.lst vs) := g3
  have g4 : DpAll K _ vs xs := g4
  exact ⟨_, g1, _, _, rfl, .inl (sq_of g3), by rw [dpa_len g4]; exact q _ p _ H S Xb.refl (.int _)⟩
theorem ef_list {ta : TA} (h : AW K cs W ta G (fun xs => ∃ x ys, xs = [x] ∧ itemsOf x = some ys ∧ χ (ol ys)) ε) : EF K cs W (tCB (rListQ K) ta) G χ ε := ef_cb (aw_mono h fun xs ⟨x, ys, e, hx, p⟩ Wd B ad H0 H σ vs S d Q q => by
  subst e
  obtain ⟨v, rfl, d1⟩ := dp1 d
  rcases items_cases hx with rfl | rfl
  · cases d1 with
    | lst g t => exact ⟨_, _, rfl, .inl (ex_l less_ex g), fun l hl => q _ p l _ H S Xb.refl hl t⟩
  · cases d1 with
    | tup g t => exact ⟨_, _, rfl, .inr (ex_t less_ex g), fun l hl => q _ p l _ H S Xb.refl hl t⟩)
theorem ew_list {ta : TA} (h : AW K cs W ta G (fun xs => ∃ x ys, xs = [x] ∧ itemsOf x = some ys ∧ φ (.list ys)) ε) : EW K cs W (tCB (rListQ K) ta) G φ ε := ew_ef (ef_list (aw_mono h fun xs ⟨x, ys, e, hx, p⟩ => ⟨x, ys, e, hx, ys, rfl, p⟩))
theorem new_tupW {vs : List V} {xs : List PyData} (S : Sta K Wd B ad H0 H σ G) (d : DpAll K (less H (Zs Wd B ad G)) vs xs) {l : Addr} (hl : H l = none) {Q : VK} (p : φ (.tuple xs))
    (q : ∀ z, φ z → ∀ v H2, Sta K Wd B ad H0 H2 σ G → Xb B H H2 → Dp K (less H2 (Zs Wd B ad G)) v z → Q v H2) : Q (.ref l) (upd H l (.tup vs)) := by
  obtain ⟨S2, e2, g⟩ := new_ex (o := .tup vs) S hl
  exact q _ p _ _ S2 e2 (.tup (st_of g) (dpa_mono (Xb.lz e2) d))
theorem ew_tuple {ta : TA} (h : AW K cs W ta G (fun xs => ∃ x ys, xs = [x] ∧ itemsOf x = some ys ∧ φ (.tuple ys)) ε) : EW K cs W (tCB (rTupQ K) ta) G φ ε := ew_cb (aw_mono h fun xs ⟨x, ys, e, hx, p⟩ Wd B ad H0 H σ vs S d Q q => by
  subst e
  obtain ⟨v, rfl, d1⟩ := dp1 d
  rcases items_cases hx with rfl | rfl
  · cases d1 with
    | lst g t => exact ⟨_, _, rfl, .inl ⟨ex_l less_ex g, fun l hl => new_tupW S t hl p q⟩⟩
  · cases d1 with
    | tup g t => exact ⟨_, _, rfl, .inr ⟨ex_t less_ex g, q _ p _ H S Xb.refl (.tup g t)⟩⟩)
def AllB (xs : List PyData) (b : Bool) : Prop := ∃ bs : List Bool, xs = [.list (bs.map PyData.bool)] ∧ b = bs.all id
def AnyB (xs : List PyData) (b : Bool) : Prop := ∃ bs : List Bool, xs = [.list (bs.map PyData.bool)] ∧ b = bs.any id
theorem ew_all {ta : TA} (h : AW K cs W ta G (fun xs => ∃ b, AllB xs b ∧ φ (.bool b)) ε) : EW K cs W (tCB (rAll K) ta) G φ ε := ew_cb (aw_mono h fun xs ⟨b, ⟨bs, e, eb⟩, p⟩ Wd B ad H0 H σ vs S d Q q => by
  subst e
  subst eb
  obtain ⟨v, rfl, d1⟩ := dp1 d
  cases d1 with
  | lst g t =>
    have e := dpa_bools t
    subst e
    exact ⟨_, bs, rfl, ex_l less_ex g, q _ p _ H S Xb.refl (.bl _)⟩)
theorem ew_any {ta : TA} (h : AW K cs W ta G (fun xs => ∃ b, AnyB xs b ∧ φ (.bool b)) ε) : EW K cs W (tCB (rAny K) ta) G φ ε := ew_cb (aw_mono h fun xs ⟨b, ⟨bs, e, eb⟩, p⟩ Wd B ad H0 H σ vs S d Q q => by
  subst e
  subst eb
  obtain ⟨v, rfl, d1⟩ := dp1 d
  cases d1 with
  | lst g t =>
    have e := dpa_bools t
    subst e
    exact ⟨_, bs, rfl, ex_l less_ex g, q _ p _ H S Xb.refl (.bl _)⟩)
theorem ew_isi {n : String} (h : EW K cs W ta G (fun x => ∃ b, kitB (tyN x) n = some b ∧ φ (.bool b)) ε) : EW K cs W (tCB (rIsi K) (tCons ta (tCons (tC (.ty n)) tNil))) G φ ε := fun Wd B ad H0 H σ S Q q x =>
  h Wd B ad H0 H σ S _ (fun y ⟨b, hb, p⟩ v H1 S1 e1 d1 => ⟨v, .ty n, _, _, b, rfl, .ty n, dp_ty d1, kit_ty hb, q _ p _ H1 S1 e1 (.bl _)⟩) x
theorem ew_isi2 {n m : String} (h : EW K cs W ta G (fun x => ∃ b c, kitB (tyN x) n = some b ∧ kitB (tyN x) m = some c ∧ φ (.bool (b || c))) ε) : EW K cs W (tCB (rIsiT K) (tCons ta (tCons (tTup (tCons (tC (.ty n)) (tCons (tC (.ty m)) tNil))) tNil))) G φ ε := fun Wd B ad H0 H σ S Q q x =>
  h Wd B ad H0 H σ S _ (fun y ⟨b, c, hb, hc, p⟩ v H1 S1 e1 d1 => ⟨by show 2 ≤ sizeLine; decide, fun l hl => by
    obtain ⟨S2, e2, g⟩ := new_ex (o := .tup [V.ty n, V.ty m]) S1 hl
    refine ⟨v, l, [.ty n, .ty m], _, [.type n, .type m], b || c, rfl, (less_some g).2, .cons (.ty n) (.cons (.ty m) .nil), dp_ty (dp_mono (Xb.lz e2) d1), kitAny_cons (kit_ty hb) (fun e => kitAny_cons (kit_ty hc) (fun e2 => ?_) fun e2 => ?_) (fun e => ?_), q _ p _ _ S2 (e1.trans e2) (.bl _)⟩
    · rw [e, e2]; rfl
    · rw [e, e2]; rfl
    · rw [e]; rfl⟩) x
/-! ### slices, joins -/
theorem ow_none (p : ω none) : OW K cs W tNoPart G ω ε := fun Wd B ad H0 H σ S Q q _ => q _ p H S Xb.refl
theorem ow_some (h : EW K cs W te G (fun x => ∃ i, x = .int i ∧ ω (some i)) ε) : OW K cs W (tPart te) G ω ε := fun Wd B ad H0 H σ S Q q x => h Wd B ad H0 H σ S _ (fun y ⟨i, e, p⟩ v H1 S1 e1 d1 => by
  subst e
  cases d1
  exact ⟨i, rfl, q _ p H1 S1 e1⟩) x
theorem ef_slL {tl th : TO} (h : EW K cs W te G (fun x => ∃ xs, x = .list xs ∧ OW K cs W tl G (fun lo => OW K cs W th G (fun hi => χ (ol (cutD xs lo hi))) ε) ε) ε) : EF K cs W (tSl (rSlL K) te tl th) G χ ε := fun Wd B ad H0 H σ S Q q x =>
  h Wd B ad H0 H σ S _ (fun y ⟨xs, e, p⟩ v H1 S1 e1 d1 => p Wd B ad H0 H1 σ S1 _ (fun lo p H2 S2 e2 => p Wd B ad H0 H2 σ S2 _ (fun hi p H3 S3 e3 => by
    subst e
    cases dp_mono (Xb.lz (e2.trans e3)) d1 with
    | lst g t => exact ⟨_, _, rfl, ex_l less_ex g, fun l hl => q _ p l _ H3 S3 (e1.trans (e2.trans e3)) hl (dpa_cut t lo hi)⟩) ((x.go e1).go e2)) (x.go e1)) x
theorem ew_slL {tl th : TO} (h : EW K cs W te G (fun x => ∃ xs, x = .list xs ∧ OW K cs W tl G (fun lo => OW K cs W th G (fun hi => φ (.list (cutD xs lo hi))) ε) ε) ε) : EW K cs W (tSl (rSlL K) te tl th) G φ ε :=
  ew_ef (ef_slL (ew_mono h fun x ⟨xs, e, p⟩ => ⟨xs, e, fun Wd B ad H0 H σ S Q q x => p Wd B ad H0 H σ S Q (fun lo p => q lo (fun Wd B ad H0 H σ S Q q x => p Wd B ad H0 H σ S Q (fun hi p => q hi ⟨_, rfl, p⟩) x)) x⟩))
theorem ef_catL (h : EW K cs W ta G (fun x => ∃ xs, x = .list xs ∧ EW K cs W tb G (fun y => ∃ ys, y = .list ys ∧ xs.length + ys.length ≤ 16000000 ∧ χ (ol (xs ++ ys))) ε) ε) : EF K cs W (tOp (rCatL K) ta tb) G χ ε := fun Wd B ad H0 H σ S Q q x =>
  h Wd B ad H0 H σ S _ (fun y ⟨xs, e, p⟩ v H1 S1 e1 d1 => p Wd B ad H0 H1 σ S1 _ (fun y ⟨ys, e', hl, p⟩ w H2 S2 e2 d2 => by
    subst e; subst e'
    cases dp_mono (Xb.lz e2) d1 with
    | lst g t =>
      cases d2 with
      | lst g2 t2 =>
        exact ⟨_, _, _, _, rfl, rfl, ex_l less_ex g, ex_l less_ex g2, by rw [dpa_len t, dpa_len t2]; exact sz_line hl, fun l hn => q _ p l _ H2 S2 (e1.trans e2) hn (dpa_app t t2)⟩) (x.go e1)) x
theorem ew_catL (h : EW K cs W ta G (fun x => ∃ xs, x = .list xs ∧ EW K cs W tb G (fun y => ∃ ys, y = .list ys ∧ xs.length + ys.length ≤ 16000000 ∧ φ (.list (xs ++ ys))) ε) ε) : EW K cs W (tOp (rCatL K) ta tb) G φ ε :=
  ew_ef (ef_catL (ew_mono h fun x ⟨xs, e, p⟩ => ⟨xs, e, ew_mono p fun y ⟨ys, e, hl, p⟩ => ⟨ys, e, hl, _, rfl, p⟩⟩))
/-! ### in, of whole numbers -/
theorem ew_inI {neg : Bool} (h : EW K cs W ta G (fun x => ∃ i, x = .int i ∧ EW K cs W tb G (fun y => ∃ ns : List Int, itemsOf y = some (ns.map PyData.int) ∧ φ (.bool (if neg then !ns.contains i else ns.contains i))) ε) ε) : EW K cs W (tOp (rIn K neg) ta tb) G φ ε :=
  ew_op (ew_mono h fun x ⟨i, e, h⟩ => ew_mono h fun y ⟨ns, e2, p⟩ => fun Wd B ad H0 H σ v w S d1 d2 Q q => by
    subst e
    cases d1
    rcases items_cases e2 with rfl | rfl
    · cases d2 with
      | lst g t =>
        have e := dpa_ints t
        subst e
        exact ⟨_, _, rfl, .inl (ex_l less_ex g), rfl, flat_ints ns, by rw [inV_ints]; exact q _ p _ H S Xb.refl (.bl _)⟩
    · cases d2 with
      | tup g t =>
        have e := dpa_ints t
        subst e
        exact ⟨_, _, rfl, .inr (ex_t less_ex g), rfl, flat_ints ns, by rw [inV_ints]; exact q _ p _ H S Xb.refl (.bl _)⟩)
end
end U.N

end
section
namespace U.N
open PySem PyProof.Rows L2 Evl
/-! ### statements -/
def sq (K : Fg) (cs : Cs) (W : WX) (tz : TS) (Φ : Out → Prop) : Out → Prop
  | .nx G => SW K cs W tz G Φ
  | .rt x => Φ (.rt x)
  | .rl c => Φ (.rl c)
  | .bk G => Φ (.bk G)
  | .ct G => Φ (.ct G)
  | .ex e G => Φ (.ex e G)
/-- what a turn of a loop may end with -/
def lp (I : Gam → Prop) (Φ : Out → Prop) : Out → Prop
  | .nx G => I G
  | .ct G => I G
  | .bk G => Φ (.nx G)
  | .rt x => Φ (.rt x)
  | .rl c => Φ (.rl c)
  | .ex e G => Φ (.ex e G)
section
variable {K : Fg} {cs : Cs} {W : WX} {G G' G1 G2 : Gam} {ta tb tc te : TE} {t u : TT} {tu tw tz : TS} {φ : PyData → Prop} {ε : Xw → Prop} {ψ : Bool → Prop} {α : List PyData → Prop} {ι : List PyData → Prop} {χ : Own → Prop} {Φ Ψ : Out → Prop}
variable {Wd : Addr → Prop} {B : Option (Addr × Addr)} {ad : Nat → Addr} {H0 H H1 H2 : Hp} {σ : St}
theorem PostO.mono {M M' : Hp} {D : Ends} {o : Out} (e : Ex M M') (h : PostO K cs W Wd B H0 M D o) : PostO K cs W Wd B H0 M' D o := by
  cases o with
  | nx G => exact fun ad H σ S x => h ad H σ S (e.trans x)
  | rt x => exact h
  | rl c => exact h
  | bk G => exact fun ad H σ S x => h ad H σ S (e.trans x)
  | ct G => exact fun ad H σ S x => h ad H σ S (e.trans x)
  | ex e' G => exact fun d ad H σ S x => h d ad H σ S (e.trans x)
theorem post_xp {D : Ends} (q : ∀ o, Φ o → PostO K cs W Wd B H0 (less H (Zs Wd B ad G)) D o) : XP K cs W Wd B ad H0 H σ G (fun e => Φ (.ex e G)) := fun e he d H2 S x hd hx => q _ he d ad H2 σ S (Xb.lz x) hd hx
theorem sw_mono (h : SW K cs W tu G Φ) (m : ∀ o, Φ o → Ψ o) : SW K cs W tu G Ψ := fun Wd B ad H0 H σ D S q => h Wd B ad H0 H σ D S fun o p => q o (m o p)
theorem sw_seq (h : SW K cs W tu G (sq K cs W tz Φ)) : SW K cs W (tSeq tu tz) G Φ := fun Wd B ad H0 H σ D S q =>
  h Wd B ad H0 H σ { D with nx := tz D } S fun o p => by
    cases o with
    | nx G1 => exact fun ad' H' σ' S' e => p Wd B ad' H0 H' σ' D S' fun o p => (q o p).mono e
    | rt x => exact q _ p
    | rl c => exact q _ p
    | bk G => exact q _ p
    | ct G => exact q _ p
    | ex e G => exact q _ p
theorem sq_nx (h : SW K cs W tz G Φ) : sq K cs W tz Φ (.nx G) := h
theorem sq_rt {x : PyData} (h : Φ (.rt x)) : sq K cs W tz Φ (.rt x) := h
theorem sq_ex {e : Xw} (h : Φ (.ex e G)) : sq K cs W tz Φ (.ex e G) := h
theorem lp_nx {I : Gam → Prop} (h : I G) : lp I Φ (.nx G) := h
theorem lp_rt {I : Gam → Prop} {x : PyData} (h : Φ (.rt x)) : lp I Φ (.rt x) := h
theorem sw_next (h : Φ (.nx G)) : SW K cs W tNext G Φ := fun Wd B ad H0 H σ D S q => q _ h ad H σ S (Ex.refl _)
theorem sw_asg {i : Nat} (h : EW K cs W te G (fun x => Φ (.nx (G.set i (.d x)))) (fun e => Φ (.ex e G))) : SW K cs W (tAsg te (gName i)) G Φ := fun Wd B ad H0 H σ D S q =>
  h Wd B ad H0 H σ S _ (fun x p v H1 S1 e1 d1 => q _ p ad H1 _ (S1.setD d1) ((Xb.lz e1).trans (less_sub fun a z => Zs.set_of (fun _ z => by cases z) z))) (post_xp q)
/-- a new thing of one's own -/
theorem sw_asgF {i : Nat} (h : EF K cs W te G (fun c => Φ (.nx (G.set i (.ow c)))) (fun e => Φ (.ex e G))) : SW K cs W (tAsg te (gName i)) G Φ := fun Wd B ad H0 H σ D S q =>
  h Wd B ad H0 H σ S _ (fun c p a vs H1 S1 e1 hn d => q _ p _ _ _ (S1.setOwn (i := i) hn d) ((Xb.lz e1).trans (own_ex hn))) (post_xp q)
theorem sw_ret (h : EW K cs W te G (fun x => Φ (.rt x)) (fun e => Φ (.ex e G))) : SW K cs W (tRet te) G Φ := fun Wd B ad H0 H σ D S q =>
  h Wd B ad H0 H σ S _ (fun x p v H1 S1 e1 d1 => q _ p v H1 S1.base S1.bag (dp_mono (less_sub fun a z => z.elim .inl fun z => .inr (.inr z)) d1)) (post_xp q)
/-- a new list is told -/
theorem sw_retF (h : EF K cs W te G (fun c => Φ (.rl c)) (fun e => Φ (.ex e G))) : SW K cs W (tRet te) G Φ := fun Wd B ad H0 H σ D S q =>
  h Wd B ad H0 H σ S _ (fun c p a vs H1 S1 e1 hn d => by
    obtain ⟨S2, e2, g⟩ := new_ex (o := c.obj a vs) S1 hn
    refine q _ p a vs _ S2.base S2.bag (S1.fresh hn).1 upd_same (dpa_mono ?_ d)
    intro b o hb
    obtain ⟨z, hb⟩ := less_some hb
    refine less_of (fun y => ?_) (e2 _ _ hb fun y => z (.inr (.inr y)))
    rcases y with (y | y) | y
    · exact z (.inl y)
    · exact z (.inr (.inr y))
    · rw [y, hn] at hb; cases hb) (post_xp q)
/-- a thing of one's own is told -/
theorem sw_retO {i : Nat} {c : Own} (hi : G[i]? = some (.ow c)) (h : Φ (.rl c)) : SW K cs W (tRet (tVar i)) G Φ := fun Wd B ad H0 H σ D S q => by
  obtain ⟨o, g1, rfl, vs, g3, g4⟩ := S.at_ i _ hi
  refine ⟨_, g1, q _ h _ vs H S.base S.bag (S.sep i c hi).1 g3 (dpa_mono (less_sub fun b z => ?_) g4)⟩
  rcases z with (z | z) | z
  · exact .inl z
  · exact .inr (.inr z)
  · exact .inr (.inl ⟨i, c, hi, z⟩)
theorem sw_if (h : TW K cs W t G (fun b => Cnd b (SW K cs W tu G Φ) (SW K cs W tw G Φ)) (fun e => Φ (.ex e G))) : SW K cs W (tIfS t tu tw) G Φ := fun Wd B ad H0 H σ D S q =>
  h Wd B ad H0 H σ S _ (fun b p H1 S1 e1 => by
    cases b with
    | true => exact iteT (p.1 rfl Wd B ad H0 H1 σ D S1 fun o p => (q o p).mono (Xb.lz e1))
    | false => exact iteF (p.2 rfl Wd B ad H0 H1 σ D S1 fun o p => (q o p).mono (Xb.lz e1))) (post_xp q)
theorem sw_freeze {i : Nat} {xs : List PyData} (hi : G[i]? = some (.ow (ol xs))) (h : SW K cs W tu (G.set i (.d (.list xs))) Φ) (hx : ∀ e G', Φ (.ex e G') → True := by intros; trivial) : SW K cs W tu G Φ := fun Wd B ad H0 H σ D S q =>
  h Wd B ad H0 H σ D (S.freeze hi) fun o p => (q o p).mono (less_sub fun a z => Zs.set_of (fun _ z => by cases z) z)
/-! ### lists of one's own -/
theorem sw_app {i : Nat} {xs : List PyData} (hi : G[i]? = some (.ow (ol xs))) (hl : xs.length < 16000000) (h : EW K cs W te G (fun x => Φ (.nx (G.set i (.ow (ol (xs ++ [x])))))) (fun e => Φ (.ex e G))) : SW K cs W (tDrop (tBM K "list" rAppend (tVar i) (tCons te tNil))) G Φ := fun Wd B ad H0 H σ D S q => by
  obtain ⟨o, g1, rfl, vs, g3, g4⟩ := S.at_ i _ hi
  have g3 : H (ad i) = some (.lst vs) := g3
  refine ⟨_, g1, Or.inl ⟨rfl, vs, sq_of g3⟩, h Wd B ad H0 H σ S _ (fun x p v H1 S1 e1 d1 => ?_) (post_xp q)⟩
  obtain ⟨_, _, _, us, g5, g6⟩ := S1.at_ i _ hi
  have g6 : DpAll K _ us xs := g6
  exact ⟨_, us, v, rfl, rfl, g5, by rw [dpa_len g6]; exact Nat.lt_of_lt_of_le hl (by decide), q _ p ad _ σ (S1.chg (c' := ol (xs ++ [x])) hi (dpa_app g6 (.cons d1 .nil))) ((Xb.lz e1).trans (chg_ex hi))⟩
/-! ### what is forgotten -/
inductive Wk : Gam → Gam → Prop
  | nil : Wk [] []
  | cons {e : En} {G G' : Gam} : Wk G G' → Wk (e :: G) (e :: G')
  | drop {e : En} {G G' : Gam} : Wk G G' → Wk (e :: G) (.un :: G')
theorem Wk.length : ∀ {G G' : Gam}, Wk G G' → G.length = G'.length
  | _, _, .nil => rfl
  | _, _, .cons h => congrArg (· + 1) h.length
  | _, _, .drop h => congrArg (· + 1) h.length
theorem Wk.get : ∀ {G G' : Gam} {i : Nat} {e : En}, Wk G G' → G'[i]? = some e → G[i]? = some e ∨ e = .un
  | _, _, _, _, .nil, h => by simp at h
  | _, _, 0, _, .cons _, h => .inl h
  | _, _, 0, _, .drop _, h => .inr (Option.some.inj h).symm
  | _, _, i + 1, _, .cons w, h => Wk.get (i := i) w h
  | _, _, i + 1, _, .drop w, h => Wk.get (i := i) w h
theorem Wk.own {G G' : Gam} {i : Nat} {c : Own} (w : Wk G G') (h : G'[i]? = some (.ow c)) : G[i]? = some (.ow c) := (w.get h).resolve_right fun z => by cases z
theorem Wk.ex {G G' : Gam} (w : Wk G G') : Ex (less H (Zs Wd B ad G)) (less H (Zs Wd B ad G')) := less_sub fun a q => by
  rcases q with q | ⟨i, c, g, r⟩ | q
  · exact .inl q
  · exact .inr (.inl ⟨i, c, w.own g, r⟩)
  · exact .inr (.inr q)
theorem Sta.wk {G G' : Gam} (w : Wk G G') (S : Sta K Wd B ad H0 H σ G) : Sta K Wd B ad H0 H σ G' where
  len := S.len.trans w.length
  at_ := fun i e h => by
    rcases w.get h with g | rfl
    · obtain ⟨o, g1, g2⟩ := S.at_ i e g
      exact ⟨o, g1, g2.mono w.ex fun _ _ _ q => q⟩
    · have il : i < σ.length := by rw [S.len, w.length]; exact (List.getElem?_eq_some_iff.mp h).1
      exact ⟨σ[i], List.getElem?_eq_getElem il, trivial⟩
  inj := fun i j c c' g g' q => S.inj i j c c' (w.own g) (w.own g') q
  sep := fun i c g => S.sep i c (w.own g)
  base := S.base
  bag := S.bag
  wd := S.wd
theorem sw_wk (w : Wk G G1) (h : SW K cs W tu G1 Φ) : SW K cs W tu G Φ := fun Wd B ad H0 H σ D S q =>
  h Wd B ad H0 H σ D (S.wk w) fun o p => (q o p).mono w.ex
/-! ### targets -/
/-- targets that only set names: vs tells which -/
def GC (K : Fg) (g : TG) (vs : List Nat) (G : Gam) (x : PyData) (γ : Gam → Prop) : Prop :=
  ∀ Wd B ad H0 H σ v, Sta K Wd B ad H0 H σ G → Dp K (less H (Zs Wd B ad G)) v x → ∀ Q : St → Hp → Prop,
  (∀ G' σ', γ G' → G.length = G'.length → (∀ i, i ∉ vs → G'[i]? = G[i]?) → (∀ i c, i ∈ vs → G'[i]? = some (.ow c) → G[i]? = some (.ow c)) → Sta K Wd B ad H0 H σ' G' → Ex (less H (Zs Wd B ad G)) (less H (Zs Wd B ad G')) → wipe σ' vs = wipe σ vs → Q σ' H) → g v σ H Q
def GsC (K : Fg) (g : TGs) (vs : List Nat) (G : Gam) (xs : List PyData) (γ : Gam → Prop) : Prop :=
  ∀ Wd B ad H0 H σ us, Sta K Wd B ad H0 H σ G → DpAll K (less H (Zs Wd B ad G)) us xs → ∀ Q : St → Hp → Prop,
  (∀ G' σ', γ G' → G.length = G'.length → (∀ i, i ∉ vs → G'[i]? = G[i]?) → (∀ i c, i ∈ vs → G'[i]? = some (.ow c) → G[i]? = some (.ow c)) → Sta K Wd B ad H0 H σ' G' → Ex (less H (Zs Wd B ad G)) (less H (Zs Wd B ad G')) → wipe σ' vs = wipe σ vs → Q σ' H) → g us σ H Q
variable {γ : Gam → Prop} {vs : List Nat}
theorem gc_name {i : Nat} {x : PyData} (hi : i ∈ vs) (h : γ (G.set i (.d x))) : GC K (gName i) vs G x γ := fun Wd B ad H0 H σ v S d Q q => by
  refine q _ _ h (by rw [List.length_set]) (fun j hj => List.getElem?_set_ne fun (e : i = j) => hj (by rw [← e]; exact hi)) (fun j c _ g => ?_) (S.setD d) (less_sub fun a z => Zs.set_of (fun _ z => by cases z) z) (wipe_set hi)
  rcases get_set g with ⟨rfl, _, e⟩ | ⟨_, g⟩
  · cases e
  · exact g
theorem gsc_nil (h : γ G) : GsC K gNil vs G [] γ := fun Wd B ad H0 H σ us S d Q q => by
  cases d
  exact ⟨rfl, q _ _ h rfl (fun _ _ => rfl) (fun _ _ _ g => g) S (Ex.refl _) rfl⟩
theorem gsc_cons {g : TG} {gs : TGs} {x : PyData} {xs : List PyData} (h : GC K g vs G x (fun G' => GsC K gs vs G' xs γ)) : GsC K (gCons g gs) vs G (x :: xs) γ := fun Wd B ad H0 H σ us S d Q q => by
  cases d with
  | cons a b =>
    refine ⟨_, _, rfl, h Wd B ad H0 H σ _ S a _ fun G1 σ1 p l1 o1 w1 S1 e1 x1 => ?_⟩
    exact p Wd B ad H0 H σ1 _ S1 (dpa_mono e1 b) _ fun G2 σ2 p l2 o2 w2 S2 e2 x2 => q G2 σ2 p (l1.trans l2) (fun i hi => (o2 i hi).trans (o1 i hi)) (fun i c hi g => w1 i c hi (w2 i c hi g)) S2 (e1.trans e2) (x2.trans x1)
theorem gc_tup {n : Nat} {gs : TGs} {xs : List PyData} (hn : xs.length = n) (h : GsC K gs vs G xs γ) : GC K (gTup K n gs) vs G (.tuple xs) γ := fun Wd B ad H0 H σ v S d Q q => by
  cases d with
  | tup g t => exact ⟨_, _, rfl, ex_t less_ex g, (dpa_len t).trans hn, h Wd B ad H0 H σ _ S t Q q⟩
/-- targets at large -/
def GW (K : Fg) (g : TG) (G : Gam) (x : PyData) (γ : Gam → Prop) : Prop :=
  ∀ Wd B ad H0 H σ v, Sta K Wd B ad H0 H σ G → Dp K (less H (Zs Wd B ad G)) v x → ∀ Q : St → Hp → Prop,
  (∀ G' ad' H' σ', γ G' → Sta K Wd B ad' H0 H' σ' G' → Ex (less H (Zs Wd B ad G)) (less H' (Zs Wd B ad' G')) → Q σ' H') → g v σ H Q
theorem gw_gc (vs : List Nat) {g : TG} {x : PyData} (h : GC K g vs G x γ) : GW K g G x γ := fun Wd B ad H0 H σ v S d Q q => h Wd B ad H0 H σ v S d Q fun G' σ' p _ _ _ S' e _ => q G' ad H σ' p S' e
theorem gw_name {i : Nat} {x : PyData} (h : γ (G.set i (.d x))) : GW K (gName i) G x γ := gw_gc [i] (gc_name (List.mem_singleton.mpr rfl) h)
theorem sw_asgT {g : TG} (h : EW K cs W te G (fun x => GW K g G x (fun G' => Φ (.nx G'))) (fun e => Φ (.ex e G))) : SW K cs W (tAsg te g) G Φ := fun Wd B ad H0 H σ D S q =>
  h Wd B ad H0 H σ S _ (fun x p v H1 S1 e1 d1 => p Wd B ad H0 H1 σ v S1 d1 _ fun G' ad' H' σ' p S' e' => q _ p ad' H' σ' S' ((Xb.lz e1).trans e')) (post_xp q)
/-- *a, b = a tuple -/
theorem gw_star {i j : Nat} {xs : List PyData} {x : PyData} (hij : i ≠ j) (hl : xs.length ≤ 10000) (h : γ ((G.set i (.ow (ol xs))).set j (.d x))) : GW K (gStar K (gCons (gName i) (gCons (gName j) gNil))) G (.tuple (xs ++ [x])) γ := fun Wd B ad H0 H σ v S d Q q => by
  cases d with
  | @tup a us _ g t =>
    obtain ⟨vs, w, rfl, d1, d2⟩ : ∃ vs w, us = vs ++ [w] ∧ DpAll K (less H (Zs Wd B ad G)) vs xs ∧ Dp K (less H (Zs Wd B ad G)) w x := by
      have key : ∀ (xs : List PyData) (us : List V), DpAll K (less H (Zs Wd B ad G)) us (xs ++ [x]) → ∃ vs w, us = vs ++ [w] ∧ DpAll K (less H (Zs Wd B ad G)) vs xs ∧ Dp K (less H (Zs Wd B ad G)) w x := fun xs => by
        induction xs with
        | nil =>
          intro us h
          cases h with
          | cons a b => cases b; exact ⟨[], _, rfl, .nil, a⟩
        | cons y ys ih =>
          intro us h
          cases h with
          | cons a b =>
            obtain ⟨vs, w, rfl, h1, h2⟩ := ih _ b
            exact ⟨_ :: vs, w, rfl, .cons a h1, h2⟩
      exact key xs us t
    refine ⟨a, vs, w, rfl, ex_t less_ex g, by rw [dpa_len d1]; exact hl, fun l hn => ?_⟩
    have S1 := S.setOwn (i := i) (c := ol xs) hn d1
    have e1 : Ex (less H (Zs Wd B ad G)) (less (upd H l (.lst vs)) (Zs Wd B (swp ad i l) (G.set i (.ow (ol xs))))) := own_ex hn
    refine ⟨_, _, rfl, _, _, rfl, rfl, ?_⟩
    exact q _ _ _ _ h (S1.setD (i := j) (dp_mono e1 d2)) (e1.trans (less_sub fun a z => Zs.set_of (fun _ z => by cases z) z))
/-! ### what is walked -/
theorem dp_itL {v : V} {ds : List PyData} {M : Hp} (d : Dp K M v (.list ds)) : ∃ a vs, v = .ref a ∧ SqL K M a vs ∧ ItOk K (Itl K a) ds M := by
  cases d with
  | @lst a vs _ g t =>
    refine ⟨a, vs, rfl, g, fun H' Z hz e i => ?_⟩
    have g' : SqL K H' a vs := ex_l less_ex (ex_l e g)
    refine ⟨fun d hd => ?_, fun hl => ⟨vs, g', by rw [dpa_len t]; exact hl⟩, fun x H'' hy => ?_⟩
    · obtain ⟨v, hv, _⟩ := dpa_get t hd
      exact ⟨vs, v, g', hv⟩
    · obtain ⟨rfl, hy⟩ := hy
      refine ⟨Ex.refl _, fun d hd => ?_⟩
      obtain ⟨v, hv, hd⟩ := dpa_get t hd
      have ev : v = x := Option.some.inj (hv.symm.trans (hy vs g'))
      rw [← ev]
      exact dp_mono e hd
theorem dp_itT {v : V} {ds : List PyData} {M : Hp} (d : Dp K M v (.tuple ds)) : ∃ a vs, v = .ref a ∧ SqT K M a vs ∧ ItOk K (Itt K a) ds M := by
  cases d with
  | @tup a vs _ g t =>
    refine ⟨a, vs, rfl, g, fun H' Z hz e i => ?_⟩
    have g' : SqT K H' a vs := ex_t less_ex (ex_t e g)
    refine ⟨fun d hd => ?_, fun hl => ⟨vs, g', by rw [dpa_len t]; exact hl⟩, fun x H'' hy => ?_⟩
    · obtain ⟨v, hv, _⟩ := dpa_get t hd
      exact ⟨vs, v, g', hv⟩
    · obtain ⟨rfl, hy⟩ := hy
      refine ⟨Ex.refl _, fun d hd => ?_⟩
      obtain ⟨v, hv, hd⟩ := dpa_get t hd
      have ev : v = x := Option.some.inj (hv.symm.trans (hy vs g'))
      rw [← ev]
      exact dp_mono e hd
theorem iw_list (h : EW K cs W te G (fun x => ∃ ds, x = .list ds ∧ ι ds) ε) : IW K cs W (iList K te) G ι ε := fun Wd B ad H0 H σ S R q x => h Wd B ad H0 H σ S _ (fun y ⟨ds, e, p⟩ v H1 S1 e1 d1 => by
  subst e
  obtain ⟨a, vs, rfl, g, ok⟩ := dp_itL d1
  exact ⟨a, rfl, ⟨vs, ex_l less_ex g⟩, q ds p _ H1 S1 e1 ok⟩) x
theorem iw_tup (h : EW K cs W te G (fun x => ∃ ds, x = .tuple ds ∧ ι ds) ε) : IW K cs W (iTup K te) G ι ε := fun Wd B ad H0 H σ S R q x => h Wd B ad H0 H σ S _ (fun y ⟨ds, e, p⟩ v H1 S1 e1 d1 => by
  subst e
  obtain ⟨a, vs, rfl, g, ok⟩ := dp_itT d1
  exact ⟨a, rfl, ⟨vs, ex_t less_ex g⟩, q ds p _ H1 S1 e1 ok⟩) x
theorem iw_seq (h : EW K cs W te G (fun x => ∃ ds, itemsOf x = some ds ∧ ι ds) ε) : IW K cs W (iSeq K te) G ι ε := fun Wd B ad H0 H σ S R q x => h Wd B ad H0 H σ S _ (fun y ⟨ds, e, p⟩ v H1 S1 e1 d1 => by
  rcases items_cases e with rfl | rfl
  · obtain ⟨a, vs, rfl, g, ok⟩ := dp_itL d1
    exact ⟨a, rfl, .inl ⟨⟨vs, ex_l less_ex g⟩, q ds p _ H1 S1 e1 ok⟩⟩
  · obtain ⟨a, vs, rfl, g, ok⟩ := dp_itT d1
    exact ⟨a, rfl, .inr ⟨⟨vs, ex_t less_ex g⟩, q ds p _ H1 S1 e1 ok⟩⟩) x
theorem iw_rng1 {ta : TA} (h : AW K cs W ta G (fun xs => ∃ n : Int, xs = [.int n] ∧ (-1000000 ≤ n ∧ n ≤ 1000000) ∧ ι (rngD 0 n.toNat)) ε) : IW K cs W (iRng1 ta) G ι ε := fun Wd B ad H0 H σ S R q x => h Wd B ad H0 H σ S _ (fun xs ⟨n, e, hn, p⟩ vs H1 S1 e1 d1 => by
  subst e
  obtain ⟨v, rfl, d⟩ := dp1 d1
  cases d
  exact ⟨n, rfl, by omega, by omega, q _ p _ H1 S1 e1 it_rng⟩) x
def zipD (xs ys : List PyData) : List PyData := List.zipWith (fun x y => .tuple [x, y]) xs ys
/-! ### loops -/
/-- what is asked of a loop over ds: an invariant of the turn and the slots -/
def ForI (K : Fg) (cs : Cs) (W : WX) (g : TG) (tb : TS) (G : Gam) (Φ : Out → Prop) (ds : List PyData) : Prop :=
  ∃ I : Nat → Gam → Prop, I 0 G ∧ (∀ i x G1, ds[i]? = some x → I i G1 → GW K g G1 x (fun Gt => SW K cs W tb Gt (lp (I (i + 1)) Φ))) ∧ ∀ G1, I ds.length G1 → Φ (.nx G1)
theorem sw_for {wi : TI} {g : TG} {tb : TS} (h : IW K cs W wi G (ForI K cs W g tb G Φ) (fun e => Φ (.ex e G))) : SW K cs W (tFor wi g tb) G Φ := fun Wd B ad H0 H σ D S q =>
  h Wd B ad H0 H σ S _ (fun ds ⟨I, i0, hs, hd⟩ J H1 S1 e1 ok => by
    refine ⟨fun i m σ' H' => m = ds.length - i ∧ i ≤ ds.length ∧ ∃ ad' G1, I i G1 ∧ Sta K Wd B ad' H0 H' σ' G1 ∧ Ex (less H1 (Zs Wd B ad G)) (less H' (Zs Wd B ad' G1)), ⟨ds.length, rfl, Nat.zero_le _, ad, G, i0, S1, Ex.refl _⟩, ?_⟩
    rintro i m σ' H' ⟨rfl, hi, ad', G1, hI, S', e'⟩
    obtain ⟨k1, k2, k3⟩ := ok H' (Zs Wd B ad' G1) S'.there e' i
    by_cases hlt : i < ds.length
    · have hx : ds[i]? = some ds[i] := List.getElem?_eq_getElem hlt
      refine .inr ⟨k1 _ hx, fun σ3 H3 => ∃ ad3 G3, I (i + 1) G3 ∧ Sta K Wd B ad3 H0 H3 σ3 G3 ∧ Ex (less H1 (Zs Wd B ad G)) (less H3 (Zs Wd B ad3 G3)), ?_, fun v H'' hy => ?_⟩
      · rintro σ3 H3 ⟨ad3, G3, h3, S3, e3⟩
        exact ⟨ds.length - (i + 1), by omega, rfl, hlt, ad3, G3, h3, S3, e3⟩
      · obtain ⟨ex, dx⟩ := k3 v H'' hy
        have S2 := S'.ext ex
        refine hs i _ G1 hx hI Wd B ad' H0 H'' σ' v S2 (dx _ hx) _ fun Gt ad2 H2 σ2 hb S3 e3 => ?_
        have e4 : Ex (less H1 (Zs Wd B ad G)) (less H2 (Zs Wd B ad2 Gt)) := (e'.trans (less_mono ex)).trans e3
        have e5 := (Xb.lz (W := Wd) (ad := ad) (G := G) e1).trans e4
        refine hb Wd B ad2 H0 H2 σ2 _ S3 fun o p => ?_
        cases o with
        | nx G4 => exact fun ad4 H4 σ4 S4 x4 => ⟨ad4, G4, p, S4, e4.trans x4⟩
        | ct G4 => exact fun ad4 H4 σ4 S4 x4 => ⟨ad4, G4, p, S4, e4.trans x4⟩
        | bk G4 => exact fun ad4 H4 σ4 S4 x4 => q _ p ad4 H4 σ4 S4 (e5.trans x4)
        | rt x => exact q _ p
        | rl c => exact q _ p
        | ex e G4 => exact fun d ad4 H4 σ4 S4 x4 => q _ p d ad4 H4 σ4 S4 (e5.trans x4)
    · have en : i = ds.length := by omega
      subst en
      exact .inl ⟨k2 (Nat.le_refl _), q _ (hd G1 hI) ad' H' σ' S' ((Xb.lz e1).trans e')⟩) (post_xp q)
/-- by what is done already -/
theorem forP {β : Type} {g : TG} {tb : TS} {xs : List β} {f : β → PyData} (I : List β → Gam → Prop) (h0 : I [] G) (hs : ∀ pre x post G1, xs = pre ++ x :: post → I pre G1 → GW K g G1 (f x) (fun Gt => SW K cs W tb Gt (lp (I (pre ++ [x])) Φ))) (he : ∀ G1, I xs G1 → Φ (.nx G1)) : ForI K cs W g tb G Φ (xs.map f) := by
  refine ⟨fun i G1 => I (xs.take i) G1, h0, fun i x G1 hx hI => ?_, fun G1 hI => he G1 (by rw [List.length_map, List.take_length] at hI; exact hI)⟩
  rw [List.getElem?_map] at hx
  cases hb : xs[i]? with
  | none => rw [hb] at hx; cases hx
  | some b =>
    rw [hb] at hx
    cases hx
    obtain ⟨hlt, hbe⟩ := List.getElem?_eq_some_iff.mp hb
    have e : xs = xs.take i ++ b :: xs.drop (i + 1) := by rw [← hbe, List.getElem_cons_drop, List.take_append_drop]
    have e2 : xs.take (i + 1) = xs.take i ++ [b] := by rw [List.take_succ, hb]; rfl
    show GW K g G1 (f b) (fun Gt => SW K cs W tb Gt (lp (fun G1 => I (xs.take (i + 1)) G1) Φ))
    rw [e2]
    exact hs _ b _ G1 e hI
/-- a while loop: what holds at n before each asking, n going down -/
theorem sw_while {tb : TS} (I : Nat → Gam → Prop) (n : Nat) (h0 : I n G) (hs : ∀ n G1, I n G1 → TW K cs W t G1 (fun b => Cnd b (SW K cs W tb G1 (lp (fun G2 => ∃ m, m < n ∧ I m G2) Φ)) (Φ (.nx G1))) (fun e => Φ (.ex e G1))) : SW K cs W (tWhile t tb) G Φ := fun Wd B ad H0 H σ D S q => by
  refine ⟨fun m σ' H' => ∃ ad' G1, I m G1 ∧ Sta K Wd B ad' H0 H' σ' G1 ∧ Ex (less H (Zs Wd B ad G)) (less H' (Zs Wd B ad' G1)), ⟨n, ad, G, h0, S, Ex.refl _⟩, ?_⟩
  rintro m σ' H' ⟨ad', G1, hI, S', e'⟩
  refine hs m G1 hI Wd B ad' H0 H' σ' S' _ (fun b p H2 S2 e2 => ?_) (fun e he d H2 S2 x2 hd hx => q _ he d ad' H2 σ' S2 (e'.trans (Xb.lz x2)) hd hx)
  have e3 := e'.trans (Xb.lz e2)
  cases b with
  | false => exact iteF (q _ (p.2 rfl) ad' H2 σ' S2 e3)
  | true =>
    refine iteT ⟨fun σ3 H3 => ∃ m' ad3 G3, m' < m ∧ I m' G3 ∧ Sta K Wd B ad3 H0 H3 σ3 G3 ∧ Ex (less H (Zs Wd B ad G)) (less H3 (Zs Wd B ad3 G3)), ?_, ?_⟩
    · rintro σ3 H3 ⟨m', ad3, G3, hm, h3, S3, x3⟩
      exact ⟨m', hm, ad3, G3, h3, S3, x3⟩
    · refine p.1 rfl Wd B ad' H0 H2 σ' _ S2 fun o p => ?_
      cases o with
      | nx G4 => obtain ⟨m', hm, p⟩ := p; exact fun ad4 H4 σ4 S4 x4 => ⟨m', ad4, G4, hm, p, S4, e3.trans x4⟩
      | ct G4 => obtain ⟨m', hm, p⟩ := p; exact fun ad4 H4 σ4 S4 x4 => ⟨m', ad4, G4, hm, p, S4, e3.trans x4⟩
      | bk G4 => exact fun ad4 H4 σ4 S4 x4 => q _ p ad4 H4 σ4 S4 (e3.trans x4)
      | rt x => exact q _ p
      | rl c => exact q _ p
      | ex e G4 => exact fun d ad4 H4 σ4 S4 x4 => q _ p d ad4 H4 σ4 S4 (e3.trans x4)
end
end U.N

end
section
namespace U.N
open PySem PyProof.Rows L2 Evl
inductive All2 {α β : Type} (R : α → β → Prop) : List α → List β → Prop
  | nil : All2 R [] []
  | cons {x : α} {y : β} {xs : List α} {ys : List β} : R x y → All2 R xs ys → All2 R (x :: xs) (y :: ys)
namespace All2
variable {α β γ : Type} {R : α → β → Prop}
theorem eq_map {f : α → β} : ∀ {xs : List α} {ys : List β}, All2 (fun x y => y = f x) xs ys → ys = xs.map f
  | _, _, .nil => rfl
  | _, _, .cons a t => by rw [a, t.eq_map]; rfl
end All2
section
variable {K : Fg} {cs : Cs} {W : WX} {G G' G1 G2 : Gam} {ta tb tc te : TE} {t u tt tt1 : TT} {φ : PyData → Prop} {ε : Xw → Prop} {ψ : Bool → Prop} {α : List PyData → Prop} {ι : List PyData → Prop} {χ : Own → Prop} {Φ Ψ : Out → Prop}
variable {Wd : Addr → Prop} {B : Option (Addr × Addr)} {ad : Nat → Addr} {H0 H H1 H2 : Hp} {σ σ' : St} {vs vs1 : List Nat} {wi wi1 : TI} {g g1 : TG}
abbrev noX : Xw → Prop := fun _ => False
theorem xp_no : XP K cs W Wd B ad H0 H σ G noX := fun _ h => h.elim
theorem Sta.slots (S : Sta K Wd B ad H0 H σ G) (hl : G.length = G'.length) (ho : ∀ i, i ∉ vs → G'[i]? = G[i]?) (hu : ∀ i e, i ∈ vs → G'[i]? = some e → e = .un) (hg : ∀ i c, i ∈ vs → G[i]? ≠ some (.ow c)) (hw : wipe σ vs = wipe σ' vs) : Sta K Wd B ad H0 H σ' G' := by
  have hls : σ.length = σ'.length := by
    have := congrArg List.length hw
    rw [wipe_length, wipe_length] at this
    exact this
  have own : ∀ (i : Nat) (c : Own), G'[i]? = some (En.ow c) ↔ G[i]? = some (En.ow c) := fun i c => by
    by_cases hi : i ∈ vs
    · exact ⟨fun g => absurd (hu i _ hi g) (fun e => by cases e), fun g => absurd g (hg i c hi)⟩
    · rw [ho i hi]
  have zl : Zs Wd B ad G' = Zs Wd B ad G := funext fun a => propext (by
    constructor
    · rintro (z | ⟨i, c, g, r⟩ | z)
      · exact .inl z
      · exact .inr (.inl ⟨i, c, (own i c).mp g, r⟩)
      · exact .inr (.inr z)
    · rintro (z | ⟨i, c, g, r⟩ | z)
      · exact .inl z
      · exact .inr (.inl ⟨i, c, (own i c).mpr g, r⟩)
      · exact .inr (.inr z))
  refine ⟨hls ▸ (S.len.trans hl), fun i e g => ?_, fun i j c c' g g' q => S.inj i j c c' ((own i c).mp g) ((own j c').mp g') q, fun i c g => S.sep i c ((own i c).mp g), S.base, S.bag, S.wd⟩
  by_cases hi : i ∈ vs
  · have e := hu i e hi g
    subst e
    have il : i < σ'.length := by rw [← hls, S.len, hl]; exact (List.getElem?_eq_some_iff.mp g).1
    exact ⟨σ'[i], List.getElem?_eq_getElem il, trivial⟩
  · rw [ho i hi] at g
    obtain ⟨o, g1, g2⟩ := S.at_ i e g
    refine ⟨o, ?_, by rw [zl]; exact g2⟩
    rw [← wipe_get hi, ← hw, wipe_get hi]
    exact g1
theorem zs_same {G' : Gam} (hl : ∀ (i : Nat) (c : Own), G'[i]? = some (En.ow c) ↔ G[i]? = some (En.ow c)) : Zs Wd B ad G' = Zs Wd B ad G := funext fun a => propext (by
  constructor
  · rintro (z | ⟨i, c, g, r⟩ | z)
    · exact .inl z
    · exact .inr (.inl ⟨i, c, (hl i c).mp g, r⟩)
    · exact .inr (.inr z)
  · rintro (z | ⟨i, c, g, r⟩ | z)
    · exact .inl z
    · exact .inr (.inl ⟨i, c, (hl i c).mpr g, r⟩)
    · exact .inr (.inr z))
theorem zs_lend {p : Addr} : Zs (fun a => Wd a ∨ a = p) B ad G = fun a => Zs Wd B ad G a ∨ a = p := funext fun a => propext (by
  constructor
  · rintro ((z | z) | z | z)
    · exact .inl (.inl z)
    · exact .inr z
    · exact .inl (.inr (.inl z))
    · exact .inl (.inr (.inr z))
  · rintro ((z | z | z) | z)
    · exact .inl (.inl z)
    · exact .inr (.inl z)
    · exact .inr (.inr z)
    · exact .inl (.inr z))
def opts (os : List (Option PyData)) : List PyData := os.filterMap id
theorem opts_snoc {os : List (Option PyData)} {o : Option PyData} : opts (os ++ [o]) = opts os ++ o.toList := by
  unfold opts
  rw [List.filterMap_append]
  cases o <;> rfl
theorem opts_len (os : List (Option PyData)) : (opts os).length ≤ os.length := List.length_filterMap_le ..
/-- one for each turn -/
def Each {β : Type} (R : Nat → β → Prop) (n : Nat) (os : List β) : Prop := os.length = n ∧ ∀ i o, os[i]? = some o → R i o
theorem each_nil {β : Type} {R : Nat → β → Prop} : Each R 0 [] := ⟨rfl, fun i o h => by simp at h⟩
theorem Each.snoc {β : Type} {R : Nat → β → Prop} {n : Nat} {os : List β} {o : β} (h : Each R n os) (r : R n o) : Each R (n + 1) (os ++ [o]) := by
  refine ⟨by simp [h.1], fun i o' hi => ?_⟩
  by_cases hl : i < os.length
  · rw [List.getElem?_append_left hl] at hi
    exact h.2 i o' hi
  · rw [List.getElem?_append_right (by omega)] at hi
    have e : i - os.length = 0 := by
      have := (List.getElem?_eq_some_iff.mp hi).1
      simp at this
      omega
    rw [e] at hi
    cases hi
    have : i = n := by have := h.1; omega
    rw [this]; exact r
theorem Each.all2 {α β : Type} {R : Nat → β → Prop} : ∀ {xs : List α} {os : List β}, Each R xs.length os → ∀ {S : α → β → Prop}, (∀ i x o, xs[i]? = some x → R i o → S x o) → All2 S xs os := fun {xs} => by
  induction xs generalizing R with
  | nil =>
    intro os h S m
    have := h.1
    have e : os = [] := List.eq_nil_of_length_eq_zero this
    rw [e]; exact .nil
  | cons x xs ih =>
    intro os h S m
    cases os with
    | nil => have := h.1; simp at this
    | cons o os =>
      refine .cons (m 0 x o rfl (h.2 0 o rfl)) (ih (R := fun i => R (i + 1)) ⟨by have := h.1; simpa using this, fun i o' hi => h.2 (i + 1) o' hi⟩ fun i x o hx r => m (i + 1) x o hx r)
/-- the names that the comprehension sets are of no use before -/
def Unk (vs : List Nat) (G : Gam) : Prop := ∀ i e, i ∈ vs → G[i]? = some e → e = .un
def LcI (K : Fg) (cs : Cs) (W : WX) (g : TG) (tt : TT) (te : TE) (vs : List Nat) (G : Gam) (χ : Own → Prop) (ds : List PyData) : Prop :=
  ds.length ≤ 16000000 ∧ Unk vs G ∧ ∃ R : Nat → Option PyData → Prop, (∀ i x, ds[i]? = some x → GC K g vs G x (fun Gt => TW K cs W tt Gt (fun b => Cnd b (EW K cs W te Gt (fun y => R i (some y)) noX) (R i none)) noX)) ∧ ∀ os, Each R ds.length os → χ (ol (opts os))
theorem ef_lc (h : IW K cs W wi G (LcI K cs W g tt te vs G χ) ε) : EF K cs W (tLc wi g tt te vs) G χ ε := fun Wd B ad H0 H σ S Q q x =>
  h Wd B ad H0 H σ S _ (fun ds ⟨hz, hu, R, hs, hd⟩ J H1 S1 e1 ok Dl hD => by
    have hgu : ∀ i c, i ∈ vs → G[i]? ≠ some (.ow c) := fun i c hi g => by cases hu i _ hi g
    obtain ⟨L0, el0⟩ := S1.lend (o := .lst []) hD
    have fr := S1.fresh hD
    refine ⟨fun i m H' => m = ds.length - i ∧ i ≤ ds.length ∧ Sta K (fun a => Wd a ∨ a = Dl) B ad H0 H' σ G ∧ Ex (less H1 (Zs Wd B ad G)) (less H' (Zs (fun a => Wd a ∨ a = Dl) B ad G)) ∧ Xb B H1 H' ∧
      ∃ os acc, Each R i os ∧ H' Dl = some (.lst acc) ∧ DpAll K (less H' (Zs (fun a => Wd a ∨ a = Dl) B ad G)) acc (opts os), ⟨ds.length, rfl, Nat.zero_le _, L0, by rw [el0]; exact Ex.refl _, .of (Ex.new hD), [], [], each_nil, upd_same, .nil⟩, ?_⟩
    rintro i m H' ⟨rfl, hi, S', e', xb, os, acc, ha2, ha, hda⟩
    obtain ⟨k1, k2, k3⟩ := ok H' (Zs (fun a => Wd a ∨ a = Dl) B ad G) S'.there e' i
    by_cases hlt : i < ds.length
    · have hx : ds[i]? = some ds[i] := List.getElem?_eq_getElem hlt
      refine .inr ⟨k1 _ hx, fun H3 => Sta K (fun a => Wd a ∨ a = Dl) B ad H0 H3 σ G ∧ Ex (less H1 (Zs Wd B ad G)) (less H3 (Zs (fun a => Wd a ∨ a = Dl) B ad G)) ∧ Xb B H1 H3 ∧
        ∃ os acc, Each R (i + 1) os ∧ H3 Dl = some (.lst acc) ∧ DpAll K (less H3 (Zs (fun a => Wd a ∨ a = Dl) B ad G)) acc (opts os), fun H3 h3 => ⟨ds.length - (i + 1), by omega, rfl, hlt, h3⟩, fun v H'' hyl => ?_⟩
      obtain ⟨ex, dx⟩ := k3 v H'' hyl
      have S2 := (S'.ext ex).slots (σ' := wipe σ vs) (G' := G) (vs := vs) rfl (fun _ _ => rfl) hu hgu wipe_wipe.symm
      refine hs i _ hx _ B ad H0 H'' _ v S2 (dx _ hx) _ fun Gt σ2 hte hl ho hw S3 e3 ew => ⟨by rw [ew, wipe_wipe], ?_⟩
      have own : ∀ (i : Nat) (c : Own), Gt[i]? = some (En.ow c) ↔ G[i]? = some (En.ow c) := fun i c => by
        by_cases hi : i ∈ vs
        · exact ⟨fun g => hw i c hi g, fun g => absurd g (hgu i c hi)⟩
        · rw [ho i hi]
      have eZ : Zs (fun a => Wd a ∨ a = Dl) B ad Gt = Zs (fun a => Wd a ∨ a = Dl) B ad G := zs_same own
      have back : ∀ {H5 : Hp}, Sta K (fun a => Wd a ∨ a = Dl) B ad H0 H5 σ2 Gt → Sta K (fun a => Wd a ∨ a = Dl) B ad H0 H5 σ G := fun {H5} S5 =>
        S5.slots (G' := G) (vs := vs) hl.symm (fun i hi => (ho i hi).symm) hu (fun i c hi g => hgu i c hi (hw i c hi g)) (by rw [ew, wipe_wipe])
      have hB : ¬ InB B Dl := fr.2.1
      have ha3 : H'' Dl = some (.lst acc) := ex _ _ ha
      have al : acc.length < sizeLine := by
        have h1 := dpa_len hda
        have h2 := opts_len os
        have h3 := ha2.1
        exact Nat.lt_of_lt_of_le (show acc.length < 16777216 by omega) (by decide)
      refine hte _ B ad H0 H'' σ2 S3 _ (fun b p H3 S4 e4 => ?_) xp_no
      have e4' : Ex (less H'' (Zs (fun a => Wd a ∨ a = Dl) B ad G)) (less H3 (Zs (fun a => Wd a ∨ a = Dl) B ad G)) := by
        have := Xb.lz (W := fun a => Wd a ∨ a = Dl) (ad := ad) (G := G) e4
        exact this
      have e5 : Ex (less H' (Zs (fun a => Wd a ∨ a = Dl) B ad G)) (less H3 (Zs (fun a => Wd a ∨ a = Dl) B ad G)) := (less_mono ex).trans e4'
      cases b with
      | false =>
        refine iteF ⟨back S4, e'.trans e5, (xb.trans (.of ex)).trans e4, os ++ [none], acc, ?_, e4 _ _ ha3 hB, ?_⟩
        · exact ha2.snoc (p.2 rfl)
        · rw [opts_snoc]
          show DpAll K _ acc (_ ++ [])
          rw [List.append_nil]
          exact dpa_mono e5 hda
      | true =>
        refine iteT ?_
        refine p.1 rfl _ B ad H0 H3 σ2 S4 _ (fun y py w H4 S5 e6 dw => ?_) xp_no
        rw [eZ] at dw
        have S6 := back S5
        obtain ⟨S7, el7⟩ := S6.foreign (o := .lst (acc ++ [w])) (p := Dl) (.inr rfl) fr.1 hB
        have e6' := Xb.lz (W := fun a => Wd a ∨ a = Dl) (ad := ad) (G := G) e6
        refine ⟨acc, e6 _ _ (e4 _ _ ha3 hB) hB, al, S7, ?_, ?_, os ++ [some y], acc ++ [w], ?_, upd_same, ?_⟩
        · rw [el7]
          exact e'.trans (e5.trans e6')
        · intro a o g n
          have na : a ≠ Dl := ne_of_none g hD
          rw [upd_ne na]
          exact ((((xb.trans (.of ex)).trans e4).trans e6) a o g n)
        · exact ha2.snoc py
        · rw [el7, opts_snoc]
          exact dpa_app (dpa_mono (e5.trans e6') hda) (.cons dw .nil)
    · have en : i = ds.length := by omega
      subst en
      obtain ⟨S5, e5⟩ := S'.back
      obtain ⟨S6, x6, n6, l6⟩ := fl_go S1 xb S'.bag hD ha
      refine .inl ⟨k2 (Nat.le_refl _), ?_⟩
      have k := q _ (hd os ha2) Dl acc _ S6 (e1.trans x6) n6 (by rw [l6, ← zs_lend]; exact hda)
      have k2 : Q (.ref Dl) (upd (less H' fun b => b = Dl) Dl (.lst acc)) := k
      rw [fl_upd ha] at k2
      exact k2) x
theorem ew_lc (h : IW K cs W wi G (LcI K cs W g tt te vs G (fun c => ∃ xs, c = ol xs ∧ φ (.list xs))) ε) : EW K cs W (tLc wi g tt te vs) G φ ε := ew_ef (ef_lc h)
theorem opts_map {β : Type} {f : β → PyData} : ∀ {xs : List β} {os : List (Option PyData)}, All2 (fun x o => o = some (f x)) xs os → opts os = xs.map f
  | _, _, .nil => rfl
  | x :: xs, _, .cons a t => by
    rw [a]
    show f x :: opts _ = _
    rw [opts_map t]; rfl
theorem opts_filter {β : Type} {p : β → Bool} {f : β → PyData} : ∀ {xs : List β} {os : List (Option PyData)}, All2 (fun x o => o = if p x then some (f x) else none) xs os → opts os = (xs.filter p).map f
  | _, _, .nil => rfl
  | x :: xs, _, .cons a t => by
    have ih := opts_filter t
    cases h : p x with
    | true =>
      rw [a, List.filter_cons, h, if_pos rfl, if_pos rfl]
      show f x :: opts _ = _
      rw [ih]; rfl
    | false =>
      rw [a, List.filter_cons, h, if_neg (by decide), if_neg (by decide)]
      show opts _ = _
      exact ih
variable {β : Type} {xs : List β} {f : β → PyData}
theorem map_at {i : Nat} {x : PyData} (h : (xs.map f)[i]? = some x) : ∃ b, xs[i]? = some b ∧ f b = x ∧ b ∈ xs := by
  rw [List.getElem?_map] at h
  cases hb : xs[i]? with
  | none => rw [hb] at h; cases h
  | some b => rw [hb] at h; exact ⟨b, rfl, Option.some.inj h, List.mem_of_getElem? hb⟩
theorem gc_mono {x : PyData} {γ γ' : Gam → Prop} (h : GC K g vs G x γ) (m : ∀ G', γ G' → γ' G') : GC K g vs G x γ' := fun Wd B ad H0 H σ v S d Q q => h Wd B ad H0 H σ v S d Q fun G' σ' k => q G' σ' (m G' k)
/-- [.. for x in xs if ..], each turn by a relation -/
theorem lcR0 (R : β → Option PyData → Prop) (hz : xs.length ≤ 16000000) (hu : Unk vs G) (hs : ∀ x, x ∈ xs → GC K g vs G (f x) (fun Gt => TW K cs W tt Gt (fun b => Cnd b (EW K cs W te Gt (fun y => R x (some y)) noX) (R x none)) noX)) (p : ∀ os, All2 R xs os → χ (ol (opts os))) : LcI K cs W g tt te vs G χ (xs.map f) := by
  refine ⟨by rw [List.length_map]; exact hz, hu, fun i o => ∃ b, xs[i]? = some b ∧ R b o, fun i x hx => ?_, fun os ha => ?_⟩
  · obtain ⟨b, hb, rfl, hm⟩ := map_at hx
    exact gc_mono (hs b hm) fun Gt k => tw_mono k fun c q => ⟨fun hc => ew_mono (q.1 hc) fun y r => ⟨b, hb, r⟩, fun hc => ⟨b, hb, q.2 hc⟩⟩
  · rw [List.length_map] at ha
    exact p os (ha.all2 fun i x o hx ⟨b, hb, r⟩ => by rw [hx] at hb; cases hb; exact r)
/-- [h x for x in xs] -/
theorem lcM (h : β → PyData) (hz : xs.length ≤ 16000000) (hu : Unk vs G) (hs : ∀ x, x ∈ xs → GC K g vs G (f x) (fun Gt => EW K cs W te Gt (fun y => y = h x) noX)) (p : χ (ol (xs.map h))) : LcI K cs W g tYes te vs G χ (xs.map f) :=
  lcR0 (fun x o => o = some (h x)) hz hu (fun x hx => gc_mono (hs x hx) fun Gt k => tw_yes (cnd_t (ew_mono k fun y e => by rw [e]))) fun os ha => by rw [opts_map ha]; exact p
/-- [h x for x in xs if p x] -/
theorem lcF (pt : β → Bool) (h : β → PyData) (hz : xs.length ≤ 16000000) (hu : Unk vs G) (hs : ∀ x, x ∈ xs → GC K g vs G (f x) (fun Gt => TW K cs W tt Gt (fun b => b = pt x ∧ (b = true → EW K cs W te Gt (fun y => y = h x) noX)) noX)) (p : χ (ol ((xs.filter pt).map h))) : LcI K cs W g tt te vs G χ (xs.map f) :=
  lcR0 (fun x o => o = if pt x then some (h x) else none) hz hu (fun x hx => gc_mono (hs x hx) fun Gt k => tw_mono k fun b ⟨e, q⟩ => ⟨fun hb => ew_mono (q hb) fun y ey => by rw [← e, hb, ey]; rfl, fun hb => by rw [← e, hb]; rfl⟩) fun os ha => by rw [opts_filter ha]; exact p
end
end U.N

end
section
/-! zip of two things, each a list or a tuple, strict or not. -/
namespace U
open PySem PySem.W PyProof.Rows L2 Evl
inductive Kd where
  | L
  | T
def ItK : Kd → Heap → Addr → Addr → Nat → Prop
  | .L, h, it, l, i => h.IsListIter it l i
  | .T, h, it, l, i => h.IsTupleIter it l i
def SqK : Kd → Heap → Addr → Array Value → Prop
  | .L, h, l, xs => h.IsList l xs
  | .T, h, l, xs => h.IsTuple l xs
theorem ItK.extBut {k : Kd} {h h' : Heap} {it l b : Addr} {i : Nat} (x : ItK k h it l i) (e : Heap.ExtBut b h h') (n : it ≠ b) : ItK k h' it l i := by
  cases k with
  | L => exact Heap.IsListIter.extBut x e n
  | T => exact Heap.IsTupleIter.extBut x e n
theorem SqK.extBut {k : Kd} {h h' : Heap} {l b : Addr} {xs : Array Value} (x : SqK k h l xs) (e : Heap.ExtBut b h h') (n : l ≠ b) : SqK k h' l xs := by
  cases k with
  | L => exact Heap.IsList.extBut x e n
  | T => exact Heap.IsTuple.extBut x e n
theorem ItK.at_ {k : Kd} {h h' : Heap} {it l : Addr} {i : Nat} (x : ItK k h it l i) (e : ∀ o, h.get? it = some o → h'.get? it = some o) : ItK k h' it l i := by
  cases k with
  | L => exact Heap.IsListIter.at x e
  | T => exact Heap.IsTupleIter.at x e
theorem ItK.obj {k : Kd} {h : Heap} {it l : Addr} {i : Nat} (x : ItK k h it l i) : ∃ o, h.get? it = some o ∧ ∀ v, o.data ≠ .cell v := by
  cases k with
  | L => obtain ⟨o, e, _, d⟩ := x; exact ⟨o, e, fun v q => by rw [d] at q; cases q⟩
  | T => obtain ⟨o, e, _, d⟩ := x; exact ⟨o, e, fun v q => by rw [d] at q; cases q⟩
section
variable {prog : Program} {w : World} {A : Around} {E : Value → Shared → Prop} {s : Shared}
theorem nx_item {k : Kd} {it l : Addr} {i : Nat} {xs : Array Value} {x : Value} {Q : Value → Shared → Prop} (hit : ItK k s.heap it l i) (hl : SqK k s.heap l xs) (hx : xs[i]? = some x)
    (hQ : ∀ h', ItK k h' it l (i + 1) → Heap.SameBut it s.heap h' → Q x { s with heap := h' }) : wpAny (model prog w) A (Builtin.SmallTypes.nextOf (.ref it)) Q E s := by
  cases k with
  | L => exact wpAny_nextOf_list_item hit hl hx hQ
  | T => exact RZ.nextOf_tuple_item hit hl hx hQ
theorem nx_end {k : Kd} {it l : Addr} {i : Nat} {xs : Array Value} {Q : Value → Shared → Prop} (hh : A.handled = none) (hit : ItK k s.heap it l i) (hl : SqK k s.heap l xs) (hx : xs[i]? = none)
    (hE : ∀ h' e, Heap.ExtBut it s.heap h' → (∃ o, h'.get? e = some o ∧ o.cls = .type "StopIteration") → E (.ref e) { s with heap := h' }) : wpAny (model prog w) A (Builtin.SmallTypes.nextOf (.ref it)) Q E s := by
  cases k with
  | L => exact wpAny_nextOf_list_end hh hit hl hx hE
  | T => exact RZ.nextOf_tuple_end hh hit hl hx hE
theorem ne_item {k : Kd} {it l : Addr} {i : Nat} {xs : Array Value} {x : Value} {Q : Option Value → Shared → Prop} (hit : ItK k s.heap it l i) (hl : SqK k s.heap l xs) (hx : xs[i]? = some x)
    (hQ : ∀ h', ItK k h' it l (i + 1) → Heap.SameBut it s.heap h' → Q (some x) { s with heap := h' }) : wpAny (model prog w) A (Builtin.SmallTypes.nextOrEnd (.ref it)) Q E s := by
  unfold Builtin.SmallTypes.nextOrEnd
  exact wpAny_bind (wpAny_attempt (nx_item hit hl hx fun h' a b => wpAny_pure (hQ h' a b)))
theorem ne_end {k : Kd} {it l : Addr} {i : Nat} {xs : Array Value} {Q : Option Value → Shared → Prop} (hh : A.handled = none) (hit : ItK k s.heap it l i) (hl : SqK k s.heap l xs) (hx : xs[i]? = none)
    (hQ : ∀ h', Heap.ExtBut it s.heap h' → Q none { s with heap := h' }) : wpAny (model prog w) A (Builtin.SmallTypes.nextOrEnd (.ref it)) Q E s := by
  unfold Builtin.SmallTypes.nextOrEnd
  refine wpAny_bind (wpAny_attempt (nx_end hh hit hl hx fun h' e hk he => ?_))
  obtain ⟨o, ho, hc⟩ := he
  refine wpAny_bind (wpAny_isInstance (T := "StopIteration") (b := true) ⟨o, ho, hc⟩ isSubtype_stop ?_)
  exact wpAny_pure (hQ _ hk)
abbrev IsZipB (h : Heap) (z TI TO : Addr) (f0 : Value) (b : Bool) : Prop :=
  h.get? z = some { cls := .type "zip", dict := none, data := .fields #[f0, .bool false, .bool b, .ref TI, .ref TO], slots := #[] }
theorem zb_item {b : Bool} {k1 k2 : Kd} {z TI TO i1 i2 l1 l2 : Addr} {n1 n2 : Nat} {xs ys : Array Value} {x y u v : Value} {Q : Value → Shared → Prop} (D : ZipApart z TI TO i1 i2 l1 l2)
    (hz : IsZipB s.heap z TI TO .none b) (hTI : IsPair s.heap TI (.ref i1) (.ref i2)) (hTO : IsPair s.heap TO u v)
    (h1 : ItK k1 s.heap i1 l1 n1) (h2 : ItK k2 s.heap i2 l2 n2) (hl1 : SqK k1 s.heap l1 xs) (hl2 : SqK k2 s.heap l2 ys) (hx : xs[n1]? = some x) (hy : ys[n2]? = some y)
    (hQ : ∀ h', IsZipB h' z TI TO (rawInt s.heap.objs.size) b → IsPair h' TO x y → ItK k1 h' i1 l1 (n1 + 1) → ItK k2 h' i2 l2 (n2 + 1) → IsPair h' s.heap.objs.size x y → h'.objs.size = s.heap.objs.size + 1 →
      (∀ c o, c ≠ z → c ≠ TO → c ≠ i1 → c ≠ i2 → s.heap.get? c = some o → h'.get? c = some o) → Q (.ref s.heap.objs.size) { s with heap := h' }) :
    wpAny (model prog w) A (Builtin.«zip.__next__» ⟨[.ref z], []⟩) (fun fin s' => ∃ v, fin = .done (.ret v) ∧ Q v s') E s := by
  show wpAny _ _ (field (.ref z) 2 >>= _) _ _ _
  refine wpAny_bind (wpAny_field hz rfl (x := .bool b) rfl ?_)
  show wpAny _ _ (field (.ref z) 3 >>= _) _ _ _
  refine wpAny_bind (wpAny_field hz rfl (x := .ref TI) rfl ?_)
  refine wpAny_bind (wpAny_seqItems hTI rfl ?_)
  show wpAny _ _ (Builtin.SmallTypes.ownedTupleIsFree (.ref z) >>= _) _ _ _
  refine wpAny_bind ?_
  unfold Builtin.SmallTypes.ownedTupleIsFree
  refine wpAny_bind (wpAny_field hz rfl (x := .none) rfl (wpAny_pure ?_))
  simp only [if_true]
  refine wpAny_bind (wpAny_rule ?_)
  refine wpAny_bind (wpAny_field hz rfl (x := .ref TO) rfl ?_)
  refine wpAny_bind (wpAny_setField_rec hz (by simp) fun h₁ hz₁ hs₁ => ?_)
  replace hz₁ : IsZipB h₁ z TI TO .ellipsis b := hz₁
  refine wpAny_bind ?_
  simp only [List.zipIdx_cons, List.zipIdx_nil, List.forIn_cons, List.forIn_nil]
  have draw : ∀ {k : Kd} {it l : Addr} {i : Nat} {zs : Array Value} {q : Value} {s : Shared} {R : Option Value → Shared → Prop} {E' : Value → Shared → Prop}, ItK k s.heap it l i → SqK k s.heap l zs → zs[i]? = some q →
      (∀ h', ItK k h' it l (i + 1) → Heap.SameBut it s.heap h' → R (some q) { s with heap := h' }) → wpAny (model prog w) A (if (Value.bool b == Value.bool true) = true then Builtin.SmallTypes.nextOrEnd (.ref it) else (do let y ← Builtin.SmallTypes.nextOf (.ref it); pure (some y))) R E' s := fun {k it l i zs q s R E'} a1 a2 a3 a4 => by
    cases b with
    | true => exact ne_item a1 a2 a3 a4
    | false => exact wpAny_bind (nx_item a1 a2 a3 fun h' c d => wpAny_pure (a4 h' c d))
  refine wpAny_bind (wpAny_bind (wpAny_onRaise ?_))
  refine draw (h1.extBut hs₁.extBut D.i1z) (hl1.extBut hs₁.extBut D.l1z) hx fun h₂ h1₂ hs₂ => ?_
  have hTO₂ : IsPair h₂ TO u v := hs₂.extBut _ _ D.TOi1 (hs₁.extBut _ _ D.TOz hTO)
  refine wpAny_bind (wpAny_seqItems hTO₂ rfl ?_)
  refine wpAny_bind (wpAny_updateSeq_pair hTO₂ fun h₃ hTO₃ hs₃ => ?_)
  replace hTO₃ : IsPair h₃ TO x v := hTO₃
  refine wpAny_bind (wpAny_letGo (wpAny_pure ?_))
  refine wpAny_bind (wpAny_bind (wpAny_onRaise ?_))
  refine draw (((h2.extBut hs₁.extBut D.i2z).extBut hs₂.extBut D.i12.symm).extBut hs₃.extBut D.TOi2.symm)
    (((hl2.extBut hs₁.extBut D.l2z).extBut hs₂.extBut D.l2i1).extBut hs₃.extBut D.l2TO) hy fun h₄ h2₄ hs₄ => ?_
  have hTO₄ : IsPair h₄ TO x v := hs₄.extBut _ _ D.TOi2 hTO₃
  refine wpAny_bind (wpAny_seqItems hTO₄ rfl ?_)
  refine wpAny_bind (wpAny_updateSeq_pair hTO₄ fun h₅ hTO₅ hs₅ => ?_)
  replace hTO₅ : IsPair h₅ TO x y := hTO₅
  refine wpAny_bind (wpAny_letGo (wpAny_pure (wpAny_pure ?_)))
  refine wpAny_bind (wpAny_seqItems hTO₅ rfl ?_)
  refine wpAny_bind (wpAny_newTuple ?_)
  have hsz : h₅.objs.size = s.heap.objs.size := by rw [hs₅.1, hs₄.1, hs₃.1, hs₂.1, hs₁.1]
  have hz₅ : IsZipB h₅ z TI TO .ellipsis b := hs₅.extBut _ _ D.TOz.symm (hs₄.extBut _ _ D.i2z.symm (hs₃.extBut _ _ D.TOz.symm (hs₂.extBut _ _ D.i1z.symm hz₁)))
  have hk₅ : ∀ c o, c ≠ z → c ≠ TO → c ≠ i1 → c ≠ i2 → s.heap.get? c = some o → h₅.get? c = some o := fun c o c1 c2 c3 c4 e =>
    hs₅.extBut _ _ c2 (hs₄.extBut _ _ c4 (hs₃.extBut _ _ c2 (hs₂.extBut _ _ c3 (hs₁.extBut _ _ c1 e))))
  have h1₅ : ItK k1 h₅ i1 l1 (n1 + 1) := ((h1₂.extBut hs₃.extBut D.TOi1.symm).extBut hs₄.extBut D.i12).extBut hs₅.extBut D.TOi1.symm
  have h2₅ : ItK k2 h₅ i2 l2 (n2 + 1) := h2₄.extBut hs₅.extBut D.TOi2.symm
  have hzlt : z < h₅.objs.size := Heap.lt_size hz₅
  show wpAny _ _ (Builtin.SmallTypes.ownedTupleHandOut (.ref z) (.ref h₅.objs.size) >>= _) _ _ _
  refine wpAny_bind ?_
  unfold Builtin.SmallTypes.ownedTupleHandOut
  have hz₆ : IsZipB (h₅.push { cls := .type "tuple", data := .seq #[x, y] }) z TI TO .ellipsis b := Heap.get?_push_of_some _ hz₅
  refine wpAny_bind (wpAny_setField_rec hz₆ (by simp) fun h₇ hz₇ hs₇ => ?_)
  replace hz₇ : IsZipB h₇ z TI TO (rawInt h₅.objs.size) b := hz₇
  refine wpAny_setField_rec hz₇ (by simp) fun h₈ hz₈ hs₈ => ?_
  replace hz₈ : IsZipB h₈ z TI TO (rawInt h₅.objs.size) b := hz₈
  have up : ∀ c o, c ≠ z → h₅.get? c = some o → h₈.get? c = some o := fun c o c1 e => hs₈.extBut _ _ c1 (hs₇.extBut _ _ c1 (Heap.get?_push_of_some _ e))
  have hT₈ : IsPair h₈ h₅.objs.size x y := hs₈.extBut _ _ (Nat.ne_of_gt hzlt) (hs₇.extBut _ _ (Nat.ne_of_gt hzlt) (Heap.get?_push_size _ rfl))
  have hz8 : h₈.objs.size = h₅.objs.size + 1 := by rw [hs₈.1, hs₇.1, Heap.size_push]
  rw [hsz] at hz₈ hT₈ hz8
  refine wpAny_pure ⟨_, rfl, ?_⟩
  show Q (.ref h₅.objs.size) _
  rw [hsz]
  exact hQ h₈ hz₈ (up _ _ D.TOz hTO₅) (h1₅.at_ fun o e => up _ o D.i1z e) (h2₅.at_ fun o e => up _ o D.i2z e) hT₈ hz8 fun c o c1 c2 c3 c4 e => up c o c1 (hk₅ c o c1 c2 c3 c4 e)
end
end U

end
section
/-! zip(a, b, strict=True) and zip(a, b): the end, the making. -/
namespace U
open PySem PySem.W PyProof.Rows L2 Evl
section
variable {prog : Program} {w : World} {A : Around} {E : Value → Shared → Prop} {s : Shared}
theorem zb_end {b : Bool} {k1 k2 : Kd} {z TI TO i1 i2 l1 l2 : Addr} {n1 n2 : Nat} {xs ys : Array Value} {u v : Value} {Q : Fin → Shared → Prop} (hh : A.handled = none) (D : ZipApart z TI TO i1 i2 l1 l2)
    (hz : IsZipB s.heap z TI TO .none b) (hTI : IsPair s.heap TI (.ref i1) (.ref i2)) (hTO : IsPair s.heap TO u v)
    (h1 : ItK k1 s.heap i1 l1 n1) (h2 : ItK k2 s.heap i2 l2 n2) (hl1 : SqK k1 s.heap l1 xs) (hl2 : SqK k2 s.heap l2 ys) (hend : (xs[n1]? = none ∧ (b = true → ys[n2]? = none)) ∨ (b = false ∧ ys[n2]? = none))
    (hE : ∀ h' e, (∀ c o, c ≠ z → c ≠ TO → c ≠ i1 → c ≠ i2 → s.heap.get? c = some o → h'.get? c = some o) → (∃ o, h'.get? e = some o ∧ o.cls = .type "StopIteration") → E (.ref e) { s with heap := h' }) :
    wpAny (model prog w) A (Builtin.«zip.__next__» ⟨[.ref z], []⟩) Q E s := by
  show wpAny _ _ (field (.ref z) 2 >>= _) _ _ _
  refine wpAny_bind (wpAny_field hz rfl (x := .bool b) rfl ?_)
  show wpAny _ _ (field (.ref z) 3 >>= _) _ _ _
  refine wpAny_bind (wpAny_field hz rfl (x := .ref TI) rfl ?_)
  refine wpAny_bind (wpAny_seqItems hTI rfl ?_)
  show wpAny _ _ (Builtin.SmallTypes.ownedTupleIsFree (.ref z) >>= _) _ _ _
  refine wpAny_bind ?_
  unfold Builtin.SmallTypes.ownedTupleIsFree
  refine wpAny_bind (wpAny_field hz rfl (x := .none) rfl (wpAny_pure ?_))
  simp only [if_true]
  refine wpAny_bind (wpAny_rule ?_)
  refine wpAny_bind (wpAny_field hz rfl (x := .ref TO) rfl ?_)
  refine wpAny_bind (wpAny_setField_rec hz (by simp) fun h₁ hz₁ hs₁ => ?_)
  replace hz₁ : IsZipB h₁ z TI TO .ellipsis b := hz₁
  refine wpAny_bind ?_
  simp only [List.zipIdx_cons, List.zipIdx_nil, List.forIn_cons, List.forIn_nil]
  have h1' := h1.extBut hs₁.extBut D.i1z
  have hl1' := hl1.extBut hs₁.extBut D.l1z
  cases b with
  | false =>
    refine wpAny_bind (wpAny_bind (wpAny_onRaise ?_))
    show wpAny _ _ (Builtin.SmallTypes.nextOf (.ref i1) >>= _) _ _ _
    cases hx : xs[n1]? with
    | none =>
      refine wpAny_bind (nx_end hh h1' hl1' hx fun h₂ e hs₂ he => ?_)
      obtain ⟨oe, hoe, hce⟩ := he
      have hz₂ : IsZipB h₂ z TI TO .ellipsis false := hs₂ _ _ D.i1z.symm hz₁
      have hez : e ≠ z := fun x => by subst x; rw [hz₂] at hoe; cases hoe; simp at hce
      refine wpAny_setField_rec hz₂ (by simp) fun h₃ _ hs₃ => hE h₃ e (fun c o c1 _ c3 _ x => hs₃.extBut _ _ c1 (hs₂ _ _ c3 (hs₁.extBut _ _ c1 x))) ⟨oe, hs₃.extBut _ _ hez hoe, hce⟩
    | some x =>
      have hy : ys[n2]? = none := by rcases hend with h | h; rw [hx] at h; cases h.1; exact h.2
      refine wpAny_bind (nx_item h1' hl1' hx fun h₂ h1₂ hs₂ => wpAny_pure ?_)
      have hTO₂ : IsPair h₂ TO u v := hs₂.extBut _ _ D.TOi1 (hs₁.extBut _ _ D.TOz hTO)
      refine wpAny_bind (wpAny_seqItems hTO₂ rfl ?_)
      refine wpAny_bind (wpAny_updateSeq_pair hTO₂ fun h₃ hTO₃ hs₃ => ?_)
      refine wpAny_bind (wpAny_letGo (wpAny_pure ?_))
      refine wpAny_bind (wpAny_bind (wpAny_onRaise ?_))
      show wpAny _ _ (Builtin.SmallTypes.nextOf (.ref i2) >>= _) _ _ _
      refine wpAny_bind (nx_end hh (((h2.extBut hs₁.extBut D.i2z).extBut hs₂.extBut D.i12.symm).extBut hs₃.extBut D.TOi2.symm)
        (((hl2.extBut hs₁.extBut D.l2z).extBut hs₂.extBut D.l2i1).extBut hs₃.extBut D.l2TO) hy fun h₄ e hs₄ he => ?_)
      obtain ⟨oe, hoe, hce⟩ := he
      have hz₄ : IsZipB h₄ z TI TO .ellipsis false := hs₄ _ _ D.i2z.symm (hs₃.extBut _ _ D.TOz.symm (hs₂.extBut _ _ D.i1z.symm hz₁))
      have hez : e ≠ z := fun x => by subst x; rw [hz₄] at hoe; cases hoe; simp at hce
      refine wpAny_setField_rec hz₄ (by simp) fun h₅ _ hs₅ => hE h₅ e (fun c o c1 c2 c3 c4 x => hs₅.extBut _ _ c1 (hs₄ _ _ c4 (hs₃.extBut _ _ c2 (hs₂.extBut _ _ c3 (hs₁.extBut _ _ c1 x))))) ⟨oe, hs₅.extBut _ _ hez hoe, hce⟩
  | true =>
    obtain ⟨hx, hy⟩ : xs[n1]? = none ∧ ys[n2]? = none := by
      rcases hend with h | h
      · exact ⟨h.1, h.2 rfl⟩
      · cases h.1
    refine wpAny_bind (wpAny_bind (wpAny_onRaise ?_))
    show wpAny _ _ (Builtin.SmallTypes.nextOrEnd (.ref i1)) _ _ _
    refine ne_end hh h1' hl1' hx fun h₂ hs₂ => ?_
    have hz₂ : IsZipB h₂ z TI TO .ellipsis true := hs₂ _ _ D.i1z.symm hz₁
    refine wpAny_bind (wpAny_setField_rec hz₂ (by simp) fun h₃ hz₃ hs₃ => ?_)
    have h2₃ : ItK k2 h₃ i2 l2 n2 := ((h2.extBut hs₁.extBut D.i2z).extBut hs₂ D.i12.symm).extBut hs₃.extBut D.i2z
    have hl2₃ : SqK k2 h₃ l2 ys := ((hl2.extBut hs₁.extBut D.l2z).extBut hs₂ D.l2i1).extBut hs₃.extBut D.l2z
    refine wpAny_bind ?_
    show wpAny _ _ (forIn [((Value.ref i2 : Value), (1 : Nat))] _ _ >>= _) _ _ _
    refine wpAny_bind ?_
    simp only [List.forIn_cons, List.forIn_nil]
    refine wpAny_bind (wpAny_bind ?_)
    refine ne_end hh h2₃ hl2₃ hy fun h₄ hs₄ => ?_
    simp only [Option.isSome_none, Bool.false_eq_true, if_false]
    refine wpAny_pure ?_
    refine wpAny_pure ?_
    refine wpAny_bind (wpAny_rule ?_)
    show wpAny _ _ (newExc (.type "StopIteration") [] >>= _) _ _ _
    refine wpAny_bind ?_
    simp only [newExc, newTuple]
    refine wpAny_bind (wpAny_newObj_type ?_ (by size_fits))
    refine wpAny_bind (m := firstArgMember _ _) (wpAny_of_eq (a := Value.none) (by first | rfl | (simp only [firstArgMember]; rfl)) ?_)
    refine wpAny_newObj_type ?_ (by size_fits)
    simp only [raiseNew]
    refine wpAny_bind (wpAny_handled ?_)
    rw [hh]
    refine wpAny_bind (wpAny_pure (wpAny_throw ?_))
    refine hE _ _ (fun c o c1 c2 c3 c4 x => ?_) ⟨_, Heap.get?_push_size _ rfl, rfl⟩
    exact Heap.get?_push_of_some _ (Heap.get?_push_of_some _ (hs₄ _ _ c4 (hs₃.extBut _ _ c1 (hs₂ _ _ c3 (hs₁.extBut _ _ c1 x)))))
theorem pyNext_zb_item {b : Bool} {k1 k2 : Kd} {z TI TO i1 i2 l1 l2 : Addr} {n1 n2 : Nat} {xs ys : Array Value} {x y u v : Value} {Q : Option Value → Shared → Prop} (D : ZipApart z TI TO i1 i2 l1 l2)
    (hz : IsZipB s.heap z TI TO .none b) (hTI : IsPair s.heap TI (.ref i1) (.ref i2)) (hTO : IsPair s.heap TO u v)
    (h1 : ItK k1 s.heap i1 l1 n1) (h2 : ItK k2 s.heap i2 l2 n2) (hl1 : SqK k1 s.heap l1 xs) (hl2 : SqK k2 s.heap l2 ys) (hx : xs[n1]? = some x) (hy : ys[n2]? = some y)
    (hQ : ∀ h', IsZipB h' z TI TO (rawInt s.heap.objs.size) b → IsPair h' TO x y → ItK k1 h' i1 l1 (n1 + 1) → ItK k2 h' i2 l2 (n2 + 1) → IsPair h' s.heap.objs.size x y → h'.objs.size = s.heap.objs.size + 1 →
      (∀ c o, c ≠ z → c ≠ TO → c ≠ i1 → c ≠ i2 → s.heap.get? c = some o → h'.get? c = some o) → Q (some (.ref s.heap.objs.size)) { s with heap := h' }) :
    wpAny (model prog w) A (pyNext (.ref z)) Q E s := by
  have hT : s.TypeIs (.ref z) "zip" := ⟨_, hz, rfl⟩
  unfold pyNext
  exact wpAny_bind (wpAny_attempt (wpAny_callSpecial?_slot (name := Str.ofString "__next__") hT F.slot_zip_next
    (wpAny_call_entry F.slot_zip_next hT F.entry_zip_next
      (zb_item D hz hTI hTO h1 h2 hl1 hl2 hx hy fun h' a1 a2 a3 a4 a5 a6 a7 => wpAny_pure (hQ h' a1 a2 a3 a4 a5 a6 a7)) (F.args_zip_next_1 _))))
theorem pyNext_zb_end {b : Bool} {k1 k2 : Kd} {z TI TO i1 i2 l1 l2 : Addr} {n1 n2 : Nat} {xs ys : Array Value} {u v : Value} {Q : Option Value → Shared → Prop} (hh : A.handled = none) (D : ZipApart z TI TO i1 i2 l1 l2)
    (hz : IsZipB s.heap z TI TO .none b) (hTI : IsPair s.heap TI (.ref i1) (.ref i2)) (hTO : IsPair s.heap TO u v)
    (h1 : ItK k1 s.heap i1 l1 n1) (h2 : ItK k2 s.heap i2 l2 n2) (hl1 : SqK k1 s.heap l1 xs) (hl2 : SqK k2 s.heap l2 ys) (hend : (xs[n1]? = none ∧ (b = true → ys[n2]? = none)) ∨ (b = false ∧ ys[n2]? = none))
    (hQ : ∀ h', (∀ c o, c ≠ z → c ≠ TO → c ≠ i1 → c ≠ i2 → s.heap.get? c = some o → h'.get? c = some o) → Q none { s with heap := h' }) : wpAny (model prog w) A (pyNext (.ref z)) Q E s := by
  have hT : s.TypeIs (.ref z) "zip" := ⟨_, hz, rfl⟩
  unfold pyNext
  refine wpAny_bind (wpAny_attempt (wpAny_callSpecial?_slot (name := Str.ofString "__next__") hT F.slot_zip_next
    (wpAny_call_entry F.slot_zip_next hT F.entry_zip_next (zb_end hh D hz hTI hTO h1 h2 hl1 hl2 hend fun h' e hk he => ?_) (F.args_zip_next_1 _))))
  obtain ⟨o, ho, hc⟩ := he
  refine wpAny_bind (wpAny_isInstance (T := "StopIteration") (b := true) ⟨o, ho, hc⟩ isSubtype_stop ?_)
  exact wpAny_pure (hQ _ hk)
/-! ### the making -/
def itN : Kd → String
  | .L => "list_iterator"
  | .T => "tuple_iterator"
abbrev zH1 (k1 : Kd) (h : Heap) (l1 : Addr) : Heap := h.push { cls := .type (itN k1), data := .fields #[.ref l1, .int 0 0] }
abbrev zH2 (k1 k2 : Kd) (h : Heap) (l1 l2 : Addr) : Heap := (zH1 k1 h l1).push { cls := .type (itN k2), data := .fields #[.ref l2, .int 0 0] }
abbrev zH3 (k1 k2 : Kd) (h : Heap) (l1 l2 : Addr) : Heap := (zH2 k1 k2 h l1 l2).push { cls := .type "tuple", data := .seq #[.ref h.objs.size, .ref (zH1 k1 h l1).objs.size] }
abbrev zH4 (k1 k2 : Kd) (h : Heap) (l1 l2 : Addr) : Heap := (zH3 k1 k2 h l1 l2).push { cls := .type "tuple", data := .seq #[.none, .none] }
abbrev zH5 (b : Bool) (k1 k2 : Kd) (h : Heap) (l1 l2 : Addr) : Heap := (zH4 k1 k2 h l1 l2).push { cls := .type "zip", data := .fields #[.none, .bool false, .bool b, .ref (zH2 k1 k2 h l1 l2).objs.size, .ref (zH3 k1 k2 h l1 l2).objs.size] }
theorem SqK.push {k : Kd} {h : Heap} {l : Addr} {xs : Array Value} (x : SqK k h l xs) (o : Obj) : SqK k (h.push o) l xs := by
  cases k with
  | L => exact Heap.IsList.push x o
  | T => exact Heap.IsTuple.push x o
theorem iter_k {k : Kd} {l : Addr} {xs : Array Value} {Q : Value → Shared → Prop} (hl : SqK k s.heap l xs) (h : Q (.ref s.heap.objs.size) { s with heap := s.heap.push { cls := .type (itN k), data := .fields #[.ref l, .int 0 0] } }) : wpAny (model prog w) A (pyIter (.ref l)) Q E s := by
  cases k with
  | L => exact wpAny_pyIter_list hl h
  | T => exact wpAny_pyIter_tuple hl h
end
theorem meets_zb_new (k1 k2 : Kd) (l1 l2 : Addr) (xs ys : Array Value) :
    Meets (Builtin.«zip.__new__» ⟨[.type "zip", .ref l1, .ref l2], []⟩) (fun _ R s => SqK k1 s.heap l1 xs ∧ SqK k2 s.heap l2 ys ∧
      R (.ok (.ret (.ref (zH4 k1 k2 s.heap l1 l2).objs.size))) { s with heap := zH5 false k1 k2 s.heap l1 l2 }) :=
  .of_wp fun prog w A R s h => by
    obtain ⟨hp, g, d, tk, os⟩ := s; obtain ⟨hl1, hl2, h⟩ := h
    have hsub := sub_zip
    have hL1 : SqK k1 (Shared.heap ⟨hp, g, d, tk, os⟩) l1 xs := hl1
    have hL2 : SqK k2 (Shared.heap ⟨hp.push { cls := .type (itN k1), data := .fields #[.ref l1, .int 0 0] }, g, d, tk, os⟩) l2 ys := hl2.push _
    wp_walk using iter_k hL1, iter_k hL2
    exact ⟨_, rfl, h⟩
theorem meets_zs_new (k1 k2 : Kd) (l1 l2 : Addr) (xs ys : Array Value) :
    Meets (Builtin.«zip.__new__» ⟨[.type "zip", .ref l1, .ref l2], [("strict", .bool true)]⟩) (fun _ R s => SqK k1 s.heap l1 xs ∧ SqK k2 s.heap l2 ys ∧
      R (.ok (.ret (.ref (zH4 k1 k2 s.heap l1 l2).objs.size))) { s with heap := zH5 true k1 k2 s.heap l1 l2 }) :=
  .of_wp fun prog w A R s h => by
    obtain ⟨hp, g, d, tk, os⟩ := s; obtain ⟨hl1, hl2, h⟩ := h
    have hsub := sub_zip
    have hL1 : SqK k1 (Shared.heap ⟨hp, g, d, tk, os⟩) l1 xs := hl1
    have hL2 : SqK k2 (Shared.heap ⟨hp.push { cls := .type (itN k1), data := .fields #[.ref l1, .int 0 0] }, g, d, tk, os⟩) l2 ys := hl2.push _
    wp_walk using iter_k hL1, iter_k hL2
    exact ⟨_, rfl, h⟩
section
variable {prog : Program} {w : World} {A : Around} {E : Value → Shared → Prop} {s : Shared}
end
end U

end
section
namespace U
open PySem PySem.W PyProof.Rows L2 Evl
section
variable {prog : Program} {w : World} {A : Around} {E : Value → Shared → Prop} {s : Shared}
theorem callType_meetsK {T newId initId : String} {Bn Bi : Builtin} {args : List Value} {kw : List (Str × Value)} {S : PySem.Spec} {Q Q₁ : Value → Shared → Prop} (ft : TypeCalled T newId initId)
    (hct : checkTypeCall T ⟨args, kw⟩ = pure ()) (hcn : checkBuiltinCall newId ⟨.type T :: args, kw⟩ = pure ())
    (entryN : entryFor table newId = some Bn) (entryI : entryFor table initId = some Bi) (g : Meets (Bn ⟨.type T :: args, kw⟩) S)
    (h : S A.in1 (wants Q₁ E) s)
    (hnext : ∀ obj s₁, Q₁ obj s₁ → s₁.TypeIs obj T ∧ argsOk initId ⟨obj :: args, kw⟩ ∧ ∃ Si, Meets (Bi ⟨obj :: args, kw⟩) Si ∧ Si A.in1 (wants (fun r s₂ => r = .none ∧ Q obj s₂) E) s₁) :
    wpAny (model prog w) A (call (.type T) args kw) Q E s := by
  obtain ⟨c, tl, hmro⟩ := ft.mro
  have hmade := ft.made
  have hsub := ft.sub
  refine wpAny_call (codeAny_of_tree ?_)
  show wpAny _ _ (callAny (.type T) _) _ _ _
  refine wpAny_pure ⟨Code.quiet_builtin _ (by decide +kernel), codeAny_builtin F.entry_type_call ?_⟩
  rw [Around.under_plain (weight_type_call_type T args kw) (units_type_call_type T args kw)]
  have h1 := ft.notType
  have h2 := ft.canCreate
  repeat (any_goals (first | assumption | wp_step))
  refine codeAny_mono (codeAny_call_builtin ft.plain entryN (wpAny_of_eq hcn (g prog w A.in1 _ s h))) fun r s₁ hr => ?_
  cases r with
  | error e => exact hr
  | ok fl =>
    cases fl with
    | ret obj =>
      obtain ⟨hT, hok, Si, gi, hsi⟩ := hnext _ _ hr
      have hli := ft.init.lookup
      have hbi := ft.init.bind obj
      repeat (any_goals (first | assumption | wp_step))
      refine codeAny_mono (codeAny_call_builtin ft.init.plain entryI (ft.init.check _ _ _ _ _ _ _ _ hT hok (gi prog w A.in1 _ s₁ hsi))) fun r₂ s₂ hr₂ => ?_
      cases r₂ with
      | error e => exact hr₂
      | ok fl₂ =>
        cases fl₂ with
        | ret r =>
          obtain ⟨rfl, hq⟩ := hr₂
          repeat (any_goals (first | assumption | wp_step))
        | _ => exact hr₂.elim
    | _ => exact hr.elim
theorem object_init_meetsK {T newId : String} {self : Value} {rest : List Value} {kw : List (Str × Value)} (hl : typeLookup (.type T) "__init__" = pure (some (.builtin "object.__init__")))
    (hm : Bind.madeBy (.type T) = pure (some newId)) (hne : (some newId != some "object.__new__") = true) (hr : rest ≠ []) :
    Meets (Builtin.«object.__init__» ⟨self :: rest, kw⟩) (fun _ R s => s.TypeIs self T ∧ R (.ok (.ret .none)) s) := by
  refine Meets.of_wp fun prog w A R s hs => ?_
  obtain ⟨hT, hq⟩ := hs
  cases rest with
  | nil => exact absurd rfl hr
  | cons a rest =>
    repeat (any_goals (first | assumption | wp_step))
    exact ⟨_, rfl, hq⟩
theorem zs_type (a b : Value) : checkTypeCall "zip" ⟨[a, b], [("strict", .bool true)]⟩ = pure () := by kernel_rfl
theorem zs_new (a b : Value) : checkBuiltinCall "zip.__new__" ⟨[.type "zip", a, b], [("strict", .bool true)]⟩ = pure () := by kernel_rfl
theorem zs_init (o a b : Value) : argsOk "object.__init__" ⟨[o, a, b], [("strict", .bool true)]⟩ := by kernel_rfl
theorem zb_made {b : Bool} {k1 k2 : Kd} {l1 l2 : Addr} {Q : Value → Shared → Prop}
    (h : ∀ h', IsZipB h' (s.heap.objs.size + 4) (s.heap.objs.size + 2) (s.heap.objs.size + 3) .none b → IsPair h' (s.heap.objs.size + 2) (.ref s.heap.objs.size) (.ref (s.heap.objs.size + 1)) →
      IsPair h' (s.heap.objs.size + 3) .none .none → ItK k1 h' s.heap.objs.size l1 0 → ItK k2 h' (s.heap.objs.size + 1) l2 0 → h'.objs.size = s.heap.objs.size + 5 →
      (∀ c o, s.heap.get? c = some o → h'.get? c = some o) → Q (.ref (s.heap.objs.size + 4)) { s with heap := h' }) :
    (∃ o, (zH5 b k1 k2 s.heap l1 l2).get? (zH4 k1 k2 s.heap l1 l2).objs.size = some o ∧ o.cls = .type "zip") ∧ Q (.ref (zH4 k1 k2 s.heap l1 l2).objs.size) { s with heap := zH5 b k1 k2 s.heap l1 l2 } := by
  have z1 : (zH1 k1 s.heap l1).objs.size = s.heap.objs.size + 1 := Heap.size_push ..
  have z2 : (zH2 k1 k2 s.heap l1 l2).objs.size = s.heap.objs.size + 2 := by rw [Heap.size_push, z1]
  have z3 : (zH3 k1 k2 s.heap l1 l2).objs.size = s.heap.objs.size + 3 := by rw [Heap.size_push, z2]
  have z4 : (zH4 k1 k2 s.heap l1 l2).objs.size = s.heap.objs.size + 4 := by rw [Heap.size_push, z3]
  have z5 : (zH5 b k1 k2 s.heap l1 l2).objs.size = s.heap.objs.size + 5 := by rw [Heap.size_push, z4]
  have g5 : (zH5 b k1 k2 s.heap l1 l2).get? (zH4 k1 k2 s.heap l1 l2).objs.size = some _ := Heap.get?_push_size _ rfl
  have g4 : (zH5 b k1 k2 s.heap l1 l2).get? (zH3 k1 k2 s.heap l1 l2).objs.size = some _ := Heap.get?_push_of_some _ (Heap.get?_push_size _ rfl)
  have g3 : (zH5 b k1 k2 s.heap l1 l2).get? (zH2 k1 k2 s.heap l1 l2).objs.size = some _ := Heap.get?_push_of_some _ (Heap.get?_push_of_some _ (Heap.get?_push_size _ rfl))
  have g2 : (zH5 b k1 k2 s.heap l1 l2).get? (zH1 k1 s.heap l1).objs.size = some _ := Heap.get?_push_of_some _ (Heap.get?_push_of_some _ (Heap.get?_push_of_some _ (Heap.get?_push_size _ rfl)))
  have g1 : (zH5 b k1 k2 s.heap l1 l2).get? s.heap.objs.size = some _ := Heap.get?_push_of_some _ (Heap.get?_push_of_some _ (Heap.get?_push_of_some _ (Heap.get?_push_of_some _ (Heap.get?_push_size _ rfl))))
  rw [z2, z3, z4] at g5
  rw [z1, z2] at g3
  rw [z3] at g4
  rw [z1] at g2
  rw [z4]
  have it : ∀ {k : Kd} {h : Heap} {i l : Addr}, h.get? i = some { cls := .type (itN k), data := .fields #[.ref l, .int 0 0] } → ItK k h i l 0 := fun {k h i l} e => by
    cases k with
    | L => exact ⟨_, e, rfl, rfl⟩
    | T => exact ⟨_, e, rfl, rfl⟩
  exact ⟨⟨_, g5, rfl⟩, h _ g5 g3 g4 (it g1) (it g2) z5 fun c o x =>
    Heap.get?_push_of_some _ (Heap.get?_push_of_some _ (Heap.get?_push_of_some _ (Heap.get?_push_of_some _ (Heap.get?_push_of_some _ x))))⟩
def kwS : Bool → List (Str × Value)
  | true => [("strict", .bool true)]
  | false => []
theorem call_zb {b : Bool} {k1 k2 : Kd} {l1 l2 : Addr} {xs ys : Array Value} {Q : Value → Shared → Prop} (hl1 : SqK k1 s.heap l1 xs) (hl2 : SqK k2 s.heap l2 ys)
    (h : ∀ h', IsZipB h' (s.heap.objs.size + 4) (s.heap.objs.size + 2) (s.heap.objs.size + 3) .none b → IsPair h' (s.heap.objs.size + 2) (.ref s.heap.objs.size) (.ref (s.heap.objs.size + 1)) →
      IsPair h' (s.heap.objs.size + 3) .none .none → ItK k1 h' s.heap.objs.size l1 0 → ItK k2 h' (s.heap.objs.size + 1) l2 0 → h'.objs.size = s.heap.objs.size + 5 →
      (∀ c o, s.heap.get? c = some o → h'.get? c = some o) → Q (.ref (s.heap.objs.size + 4)) { s with heap := h' }) :
    wpAny (model prog w) A (call (.type "zip") [.ref l1, .ref l2] (kwS b)) Q E s := by
  cases b with
  | false =>
    refine callType_new F.called_zip (by decide) (F.typeCall_zip_2 _ _) (F.newCall_zip_2 _ _) (fun obj => F.args_object_init_3 obj _ _) F.entry_zip_new (meets_zb_new k1 k2 l1 l2 xs ys) ⟨hl1, hl2, ?_⟩
    exact zb_made h
  | true =>
    refine callType_meetsK (Q₁ := fun obj s₁ => s₁.TypeIs obj "zip" ∧ Q obj s₁) F.called_zip (zs_type _ _) (zs_new _ _) F.entry_zip_new F.entry_object_init (meets_zs_new k1 k2 l1 l2 xs ys) ⟨hl1, hl2, ?_⟩ fun obj s₁ hq => ⟨hq.1, zs_init _ _ _, _, object_init_meetsK F.called_zip.init.lookup F.called_zip.made (by decide) (by simp), hq.1, rfl, hq.2⟩
    exact zb_made h
end
end U

end
section
namespace U
open PySem PySem.W PyProof.Rows L2 Evl
section
variable {prog : Program} {w : World} {A : Around} {E : Value → Shared → Prop} {s : Shared}
theorem letGo_zb {b : Bool} {elts : List Expr} {x1} {pos : Pos} {z TI TO T : Addr} {Q : Unit → Shared → Prop} (hz : IsZipB s.heap z TI TO (rawInt T) b)
    (hQ : ∀ h', IsZipB h' z TI TO .none b → Heap.SameBut z s.heap h' → Q () { s with heap := h' }) :
    wpAny (model prog w) A (letOwnedTupleGo (.Tuple elts x1 pos) (.ref z) (.ref T)) Q E s := by
  unfold letOwnedTupleGo
  refine wpAny_bind (wpAny_load hz ?_)
  show wpAny _ _ (if (["enumerate", "zip", "dict_itemiterator", "dict_reverseitemiterator", "odict_iterator", "itertools.zip_longest", "itertools.pairwise"].contains "zip" &&
      (#[rawInt T, .bool false, .bool b, .ref TI, .ref TO] : Array Value)[0]? == some (rawInt T)) = true then _ else _) Q E s
  rw [if_pos (by simp)]
  refine wpAny_bind (wpAny_rule ?_)
  show wpAny _ _ (setField (.ref z) 0 .none) Q E s
  exact wpAny_setField_rec hz (by simp) fun h' hz' hs' => hQ h' hz' hs'
theorem iter_zb {b : Bool} {z TI TO : Addr} {f0 : Value} {Q : Value → Shared → Prop} (hz : IsZipB s.heap z TI TO f0 b) (h : Q (.ref z) s) : wpAny (model prog w) A (pyIter (.ref z)) Q E s := by
  have hT : s.TypeIs (.ref z) "zip" := ⟨_, hz, rfl⟩
  refine wpAny_pyIter_slot hT F.slot_zip_iter (wpAny_call_entry F.slot_zip_iter hT F.entry_zip_iter ?_ (F.args_zip_iter_1 _))
  show wpAny _ _ (ret (.ref z)) _ _ s
  exact wpAny_pure ⟨_, rfl, "zip", _, hT, F.slot_zip_next.lookup, h⟩
end
def SqV (K : Fg) : Kd → Hp → Addr → List V → Prop
  | .L, H, a, xs => SqL K H a xs
  | .T, H, a, xs => SqT K H a xs
theorem SqV.inv {X : Cx} {pins : List (Addr × Obj)} {σ : St} {H : Hp} {s : Shared} {k : Kd} {a : Addr} {xs : List V} (I : Inv X pins σ H s) (h : SqV X.K k H a xs) : ∃ its, Vals xs its ∧ SqK k s.heap a its.toArray ∧ a < s.heap.objs.size := by
  cases k with
  | L =>
    obtain ⟨its, rv, p, _⟩ := I.list h
    exact ⟨its, rv, p.isList, p.lt⟩
  | T =>
    obtain ⟨its, rv, p, _⟩ := I.tuple h
    obtain ⟨o, ho, _⟩ := id p
    exact ⟨its, rv, p, Heap.lt_size ho⟩
theorem SqV.inj {X : Cx} {pins : List (Addr × Obj)} {σ : St} {H : Hp} {s : Shared} {k : Kd} {a : Addr} {xs ys : List V} (I : Inv X pins σ H s) (h : SqV X.K k H a xs) (g : SqV X.K k H a ys) : xs = ys := by
  cases k with
  | L => exact I.list_inj h g
  | T => exact I.tuple_inj h g
/-- the items of two, each a list or a tuple, in new pairs -/
def ItzM (K : Fg) (k1 k2 : Kd) (b : Bool) (a c : Addr) : It :=
  ⟨fun i H => ∃ (xs ys : List V) (x y : V), SqV K k1 H a xs ∧ SqV K k2 H c ys ∧ xs[i]? = some x ∧ ys[i]? = some y,
    fun i H v H' => ∃ T x y, v = .ref T ∧ H T = none ∧ H' = upd H T (.tup [x, y]) ∧ (∀ xs, SqV K k1 H a xs → xs[i]? = some x) ∧ ∀ ys, SqV K k2 H c ys → ys[i]? = some y,
    fun i H => ∃ xs ys : List V, SqV K k1 H a xs ∧ SqV K k2 H c ys ∧ ((xs.length ≤ i ∧ (b = true → ys.length ≤ i)) ∨ (b = false ∧ ys.length ≤ i))⟩
theorem turn_zipM {P : Program} {w : World} {K : Fg} {elts : List Expr} {kk : Nat} {tpos : Pos} {k1 k2 : Kd} {bo : Bool} {a b z TI TO i1 i2 : Addr} (D : ZipApart z TI TO i1 i2 a b) :
    L2.Turn P w K (.Tuple elts kk tpos) (ItzM K k1 k2 bo a b) [z, TI, TO, i1, i2] z (fun i h => IsZipB h z TI TO .none bo ∧ IsPair h TI (.ref i1) (.ref i2) ∧ (∃ x y, IsPair h TO x y) ∧ ItK k1 h i1 a i ∧ ItK k2 h i2 b i) where
  mem := by simp
  obj := fun i h st c hc => by
    obtain ⟨hz, hTI, ⟨x, y, hTO⟩, h1, h2⟩ := st
    have e' : c = z ∨ c = TI ∨ c = TO ∨ c = i1 ∨ c = i2 := by simpa using hc
    rcases e' with q | q | q | q | q
    · rw [q]; exact ⟨_, hz, fun v q => nomatch q⟩
    · rw [q]; exact ⟨_, hTI, fun v q => nomatch q⟩
    · rw [q]; exact ⟨_, hTO, fun v q => nomatch q⟩
    · rw [q]; exact h1.obj
    · rw [q]; exact h2.obj
  keep := fun i h h' st k => by
    obtain ⟨hz, hTI, ⟨x, y, hTO⟩, h1, h2⟩ := st
    exact ⟨k z (by simp) _ hz, k TI (by simp) _ hTI, ⟨x, y, k TO (by simp) _ hTO⟩, h1.at_ fun o q => k i1 (by simp) o q, h2.at_ fun o q => k i2 (by simp) o q⟩
  item := by
    intro X hP hw hK hc i pins s σ H E I hf st hg
    subst hP hw hK
    obtain ⟨hz, hTI, ⟨x0, y0, hTO⟩, h1, h2⟩ := st
    obtain ⟨xs, ys, x, y, hqx, hqy, hx, hy⟩ := hg
    obtain ⟨its, rv, p, _⟩ := hqx.inv I
    obtain ⟨its2, rv2, p2, _⟩ := hqy.inv I
    obtain ⟨u, hu, ru⟩ := rv.get hx
    obtain ⟨u2, hu2, ru2⟩ := rv2.get hy
    have hzl : z < s.heap.objs.size := Heap.lt_size hz
    refine pyNext_zb_item D hz hTI hTO h1 h2 p p2 (x := u) (y := u2) (by simpa using hu) (by simpa using hu2) fun h' z' TO' h1' h2' hT hsz hk => ?_
    refine ⟨_, rfl, letGo_zb (s := { s with heap := h' }) z' fun h'' z'' sb => ?_⟩
    have hT2 : h''.get? s.heap.objs.size = some { cls := .type "tuple", data := .seq #[u, u2] } := (sb.2 _ (Nat.ne_of_gt hzl)).trans hT
    have new : ObjOk X.prog X.w (upd H s.heap.objs.size (.tup [x, y])) h'' s.heap.objs.size (.tup [x, y]) :=
      ⟨by show 2 ≤ sizeLine; decide, [u, u2], .cons ru (.cons ru2 .nil), ⟨_, hT2, rfl, _, rfl⟩⟩
    have I1 : Inv X pins σ (upd H s.heap.objs.size (.tup [x, y])) { s with heap := h'' } :=
      I.turnedNew (t' := s.toks) (ch := [z, TI, TO, i1, i2]) (fun c o hb q => (sb.2 c (fun q' => hb (by simp [q']))).trans (hk c o (fun q' => hb (by simp [q'])) (fun q' => hb (by simp [q'])) (fun q' => hb (by simp [q'])) (fun q' => hb (by simp [q'])) q)) hf (Nat.le_refl _) new
    refine ⟨.ref s.heap.objs.size, _, I1, rfl, ⟨_, x, y, rfl, I.hok.fresh (Nat.le_refl _), rfl, fun l hl => by rw [SqV.inj I hl hqx]; exact hx, fun l hl => by rw [SqV.inj I hl hqy]; exact hy⟩, ⟨z'', ?_, ⟨u, u2, ?_⟩, ?_, ?_⟩, fun c hcm => ?_⟩
    · exact (sb.2 _ D.TIz).trans (hk _ _ D.TIz D.TITO D.TIi1 D.TIi2 hTI)
    · exact (sb.2 _ D.TOz).trans TO'
    · exact h1'.at_ fun o q => (sb.2 _ D.i1z).trans q
    · exact h2'.at_ fun o q => (sb.2 _ D.i2z).trans q
    · have hlt : c < s.heap.objs.size := by
        have e' : c = z ∨ c = TI ∨ c = TO ∨ c = i1 ∨ c = i2 := by simpa using hcm
        rcases e' with q | q | q | q | q
        · rw [q]; exact hzl
        · rw [q]; exact Heap.lt_size hTI
        · rw [q]; exact Heap.lt_size hTO
        · rw [q]; obtain ⟨_, e1, _⟩ := h1.obj; exact Heap.lt_size e1
        · rw [q]; obtain ⟨_, e2, _⟩ := h2.obj; exact Heap.lt_size e2
      rw [upd_ne (Nat.ne_of_lt hlt)]
      exact (hf c hcm).1
  done := by
    intro X hP hw hK hc i pins s σ H E I hf st hg
    subst hP hw hK
    obtain ⟨hz, hTI, ⟨x0, y0, hTO⟩, h1, h2⟩ := st
    obtain ⟨xs, ys, hqx, hqy, hend⟩ := hg
    obtain ⟨its, rv, p, _⟩ := hqx.inv I
    obtain ⟨its2, rv2, p2, _⟩ := hqy.inv I
    have l1 := rv.length
    have l2 := rv2.length
    have he : (its.toArray[i]? = none ∧ (bo = true → its2.toArray[i]? = none)) ∨ (bo = false ∧ its2.toArray[i]? = none) := by
      rcases hend with ⟨q, q'⟩ | ⟨q, q'⟩
      · exact .inl ⟨by simp; omega, fun e => by have := q' e; simp; omega⟩
      · exact .inr ⟨q, by simp; omega⟩
    exact pyNext_zb_end (I.ok.hd hc) D hz hTI hTO h1 h2 p p2 he fun h' hk => ⟨rfl, I.turnedL (t' := s.toks) (ch := [z, TI, TO, i1, i2]) (fun c o hb q =>
      hk c o (fun q' => hb (by simp [q'])) (fun q' => hb (by simp [q'])) (fun q' => hb (by simp [q'])) (fun q' => hb (by simp [q'])) q) hf⟩
  self := fun A i s Q E st h => iter_zb st.1 h
/-- for .. in zip(x, y), zip(x, y, strict=True) -/
def iZipM (K : Fg) (bo : Bool) (ta : TA) : TI := fun σ H R => ta σ H fun vs H1 => ∃ k1 k2 a b xs ys, vs = [.ref a, .ref b] ∧ SqV K k1 H1 a xs ∧ SqV K k2 H1 b ys ∧ R (ItzM K k1 k2 bo a b) H1
section
variable {M : Model} {A : Around} {E : Value → Shared → Prop} {s : Shared}
theorem callWith_tkw {pos : Pos} {T : String} {first : List Value} {args : List (Bool × Sem Value)} {keywords : List (Option Str × Sem Value)} {Q : Value → Shared → Prop}
    (hplain : args.any (·.1) = false) (hkw : keywords.any (·.1.isNone) = false)
    (h : wpAny M A (evalArgs (.type T) true args keywords) (fun a s₁ => wpAny M A (call (.type T) (first ++ a.pos) a.kw) Q E s₁) E s) :
    wpAny M A (callWith pos (.type T) first args keywords) Q E s := by
  unfold callWith
  refine wpAny_bind (wpAny_holding (wpAny_mono h (fun a s₁ h₁ => wpAny_bind (wpAny_standAt ?_)) fun _ _ x => x))
  simp only [hplain, hkw, Bool.or_false]
  refine wpAny_bind (wpAny_pure ?_)
  exact wpAny_bind (wpAny_mono h₁ (fun r s₂ hr => wpAny_bind (wpAny_holding (wpAny_point (wpAny_pure hr)))) fun _ _ x => x)
end
section
variable {X : Cx} {e e2 : Expr} {ta : TA} {p pos tpos kpos cpos : Pos} {elts : List Expr} {kk cn : Nat}
theorem zip_pi {bo : Bool} {pins : List (Addr × Obj)} {s1 : Shared} {σ : St} {H1 : Hp} {R : It → Hp → Prop} {us : List Value} {vs : List V} (I1 : Inv X pins σ H1 s1) (r1 : Vals vs us) (q1 : ∃ k1 k2 a b xs ys, vs = [.ref a, .ref b] ∧ SqV X.K k1 H1 a xs ∧ SqV X.K k2 H1 b ys ∧ R (ItzM X.K k1 k2 bo a b) H1) {tg : Expr} (htg : tg = .Tuple elts kk tpos) :
    wpAny (model X.prog X.w) X.A (call (.type "zip") us (kwS bo)) (fun v s' => wpAny (model X.prog X.w) X.A (pyIter v) (PIE X pins σ tg R) X.xe s') X.xe s1 := by
  subst htg
  obtain ⟨k1, k2, a, b, xs, ys, ex, hqx, hqy, q⟩ := q1
  subst ex
  cases r1 with
  | cons r rr =>
    cases rr with
    | cons r' rr =>
      cases rr
      cases r
      cases r'
      have fresh5 : ∀ c, c ∈ [s1.heap.objs.size + 4, s1.heap.objs.size + 2, s1.heap.objs.size + 3, s1.heap.objs.size, s1.heap.objs.size + 1] → FpOk X pins H1 c := fun c hcm => by
        have e' : c = s1.heap.objs.size + 4 ∨ c = s1.heap.objs.size + 2 ∨ c = s1.heap.objs.size + 3 ∨ c = s1.heap.objs.size ∨ c = s1.heap.objs.size + 1 := by simpa using hcm
        have hle : s1.heap.objs.size ≤ c := by
          rcases e' with z | z | z | z | z
          · rw [z]; exact Nat.le_add_right _ _
          · rw [z]; exact Nat.le_add_right _ _
          · rw [z]; exact Nat.le_add_right _ _
          · rw [z]; exact Nat.le_refl _
          · rw [z]; exact Nat.le_add_right _ _
        exact I1.fpOk hle (I1.hok.fresh hle)
      obtain ⟨its, rv, p1, lt1⟩ := hqx.inv I1
      obtain ⟨its2, rv2, p2, lt2⟩ := hqy.inv I1
      refine call_zb p1 p2 fun h' hz hTI hTO h1 h2 hsz hk => iter_zb hz ?_
      have I2 : Inv X pins σ H1 { s1 with heap := h' } := I1.kept (t' := s1.toks) hk
      exact ⟨s1.heap.objs.size + 4, [s1.heap.objs.size + 4, s1.heap.objs.size + 2, s1.heap.objs.size + 3, s1.heap.objs.size, s1.heap.objs.size + 1], _, _, H1, rfl, I2, turn_zipM (PySem.W.ktu_apart s1.heap.objs.size a b lt1 lt2), ⟨hz, hTI, ⟨_, _, hTO⟩, h1, h2⟩, fresh5, q⟩
theorem pi_zipS (hg : Gl X "zip") (hm : X.mg "zip" = none) (ha : PA X [e, e2] ta)
    (he : backTo pos (starEach [e, e2] X.env) = (false, eval e X.env) :: backTo pos (starEach [e2] X.env) := by rfl) (hpl : (backTo pos (starEach [e, e2] X.env)).any (·.1) = false := by rfl)
    (hall : (backToKw pos (keywordEach [⟨some "strict", .Constant (.bool true) cn cpos, kpos⟩] X.env)).all (·.1.isSome) = true := by rfl) (hnone : (backToKw pos (keywordEach [⟨some "strict", .Constant (.bool true) cn cpos, kpos⟩] X.env)).any (·.1.isNone) = false := by rfl) (hks : (backToKw pos (keywordEach [⟨some "strict", .Constant (.bool true) cn cpos, kpos⟩] X.env)).filterMap (·.1) = ([("strict" : Str)] : List Str) := by rfl) :
    PI X (.Tuple elts kk tpos) (.Call (.Name "zip" p) [e, e2] [⟨some "strict", .Constant (.bool true) cn cpos, kpos⟩] pos) (iZipM X.K true ta) := by
  refine ⟨fun pins s σ H R I h => ?_⟩
  refine wpAny_Call_Name_kw (ld_blt I hg hm PyProof.Rows.boot_zip ?_)
  refine callWith_tkw hpl hnone ?_
  rw [he]
  refine evalArgs_kwB hall ?_
  rw [← he]
  have hk : PK X [⟨some "strict", .Constant (.bool true) cn cpos, kpos⟩] (tCons (tC (V.bl true)) tNil) := pk_cons pe_bl pk_nil
  refine thn (ha.run pos pins s σ H _ I h) fun us s1 ⟨vs, H1, I1, r1, q1⟩ => ?_
  refine thn (hk.run pos pins s1 σ H1 (fun zs H2 => zs = [V.bl true] ∧ H2 = H1) I1 ⟨rfl, rfl⟩) fun ws s2 ⟨zs, H2, I2, r2, e1, e2⟩ => ?_
  subst e1 e2
  cases r2 with
  | cons r rr =>
    cases rr
    cases r
    rw [hks]
    exact zip_pi (bo := true) I2 r1 q1 rfl
end
end U

end
section
/-! try with several clauses, each with a name -/
namespace U
open PySem PySem.Spec PyProof.Rows L2
abbrev Hd := Value × Nat × (Addr → Value → Option Addr → TS)
def wManyAs (K : Fg) (Wout : WX) (D : Ends) : List Hd → WX
  | [] => Wout
  | (c, i, ts) :: r => fun cls d σ H => ∃ b, PySem.W.exmOne K cls c = some b ∧ (b = true → ∀ a, H a = none → ts a cls d { nx := fun σ' H' => D.nx (σ'.set i none) H', rt := D.rt, bk := fun σ' H' => D.bk (σ'.set i none) H', ct := fun σ' H' => D.ct (σ'.set i none) H' } (σ.set i (some (.ref a))) H) ∧
    (b = false → wManyAs K Wout D r cls d σ H)
inductive HdsAs (X : Cx) : List ExceptHandler → List Hd → Prop
  | nil : HdsAs X [] []
  | cons {x n : Str} {c : Value} {i : Nat} {ts : Addr → Value → Option Addr → TS} {b₀ : Stmt} {suite : List Stmt} {np pos' : Pos} {hds : List ExceptHandler} {l : List Hd} (hN : X.N.Nodup) (hi : X.N[i]? = some n) (hln : X.env.kindOf n = some .local) (hc : Names X x c)
      (hsu : ∀ (a : Addr) (oe : Obj) (cls : Value) (d : Option Addr) (pn : List (Addr × Obj)), Zc cls d oe → (∃ vs, oe.data = .fields vs) → PSs (X.suite a ((a, oe) :: pn)) (b₀ :: suite) (ts a cls d)) (r : HdsAs X hds l) :
      HdsAs X (.ExceptHandler (some (.Name x np)) (some n) (b₀ :: suite) pos' :: hds) ((c, i, ts) :: l)
section
variable {X : Cx} {body : List Stmt} {h₀ : ExceptHandler} {hds : List ExceptHandler} {l : List Hd} {pos : Pos} {tb : WX → TS} {Wout : WX}
theorem ps_try_manyAs (hs : X.stack = X.env :: X.outer) (hf : X.env.frame = some X.env.locals) (tk : Takes X Wout)
    (hb : ∀ (W : WX) (pn : List (Addr × Obj)) (xe : Value → Shared → Prop), Takes (X.tr pn xe) W → PassesOwn (model X.prog X.w) X.A X.env xe → PSs (X.tr pn xe) body (tb W))
    (hh : HdsAs X (h₀ :: hds) l) : PS X (.Try body (h₀ :: hds) [] [] pos) (fun D σ H => tb (wManyAs X.K Wout D l) D σ H) := by
  refine ⟨fun pins s σ H D I h => ?_⟩
  have ok := I.ok
  have hfr : X.A.frames = some (X.env :: X.outer) := by rw [ok.frames, hs]
  refine wpAny_Try_except ?_
  refine wpAny_mono ((hb (wManyAs X.K Wout D l) (X.pn ++ pins) (fun e s₁ => wpAny (model X.prog X.w) X.A (noteFrame e X.env) (fun _ s₂ => wpAny (model X.prog X.w) X.A (setFlight e none) (fun _ s₃ =>
    wpAny (model X.prog X.w) X.A (handleBy e X.env (h₀ :: hds)) (SP X pins D) X.xe s₃) X.xe s₂) X.xe s₁) (fun u s' xx => ?_) PassesOwn.looking).run [] s σ H D (I.toTry _) h) (fun f s1 hsp => ?_) (fun e s1 he => he)
  · -- the catch
    obtain ⟨a, B, sI, pins', σ', H', cls, d, rfl, J', nb, up, sky, na, os, ag, w⟩ := xx
    have J : Inv X pins σ' H' sI := J'.ofTry ok
    have sky' : Sky B (X.env :: X.outer) a (Zc cls d) X.env.locals s'.heap := by rw [← hs]; exact sky
    show wpAny (model X.prog X.w) X.A (noteFrame (.ref a) X.env) _ _ _
    refine Sky.land Zc.steady hfr hf sky' fun h3 fl3 up3 => ?_
    have J3 : Inv X pins σ' H' { s' with heap := h3 } := J.landed nb fl3.1 (up.trans up3) os ag
    obtain ⟨oe3, vs3, he3, hz3, hd3⟩ := fl3.there
    have notFr : ∀ {h : Heap} {o : Obj} {vs : Array Value}, h.FunFrames B (X.env :: X.outer) → h.get? a = some o → o.data = .fields vs → a ∉ L2.frs (X.env :: X.outer) := fun {h o vs} ff e dd hm => by
      obtain ⟨_, o', e', hnf⟩ := ff.mem hm
      rw [e] at e'; cases e'
      exact hnf _ dd
    have nfr := notFr fl3.2.2.1 he3 hd3
    have nL : a ≠ X.env.locals := fun z => nfr (List.mem_filterMap.mpr ⟨X.env, List.mem_cons_self, by rw [hf, z]⟩)
    have nF : a ∉ X.fs := fun hm => by
      obtain ⟨e, he, q⟩ := List.mem_filterMap.mp hm
      exact nfr (List.mem_filterMap.mpr ⟨e, List.mem_cons_of_mem _ he, q⟩)
    have S3 := J3.suite he3 hd3 na nL nF
    have go : ∀ {hds' : List ExceptHandler} {l' : List Hd}, HdsAs X hds' l' → wManyAs X.K Wout D l' cls d σ' H' →
        wpAny (model X.prog X.w) X.A (handleBy (.ref a) X.env hds') (SP X pins D) X.xe { s' with heap := h3 } := by
      intro hds' l' hk
      induction hk with
      | nil =>
        intro w
        refine wpAny_handleBy_nil ?_
        obtain ⟨k1, k2, k3, oe, vs, T, oT, ts', he, hz, hd, h1, hr⟩ := id fl3
        unfold PySem.passOn
        refine wpAny_bind (wpAny_field he hd h1 ?_)
        rw [if_neg (show ¬ ((Value.ref T == Value.none) = true) from by simp)]
        have fin : wpAny (model X.prog X.w) X.A (setFlight (.ref a) X.env.frame) (fun _ s4 => wpAny (model X.prog X.w) X.A (throw (.ref a) : Sem Flow) (SP X pins D) X.xe s4) X.xe { s' with heap := h3 } := by
          rw [hf]
          refine HandSPX.setFlight_upZ fl3 fun h4 hh4 up4 => wpAny_throw (tk _ _ ?_)
          exact ⟨a, B, sI, pins, σ', H', cls, d, rfl, J, nb, (up.trans up3).trans up4, .inr (.inr (by rw [hs]; exact hh4)), na, os, ag, w⟩
        first
          | exact wpAny_bind (wpAny_pure (wpAny_bind fin))
          | exact wpAny_bind fin
      | @cons x n c i ts b₀ suite np pos' hds2 l2 hN hi hln hc hsu r ih =>
        intro w
        have hloc : Loc X.env.scope n := .inl hln
        obtain ⟨b, hb1, hyes, hno⟩ := w
        refine wpAny_handleBy_cons (codeAny_handlers_test ?_) (by intro q; cases q)
        have LT : PySem.W.Looks (model X.prog X.w) h3 (typeOf (.ref a)) cls := fun A Q E s k q => wpAny_typeOf_ref (k _ _ he3) (by rw [hz3.1]; exact q)
        have LM := PySem.W.exm_one (M := model X.prog X.w) (J3.kIn) LT hb1
        have test : ∀ {Q : Value → Shared → Prop} {E : Value → Shared → Prop}, Q c { s' with heap := h3 } → wpAny (model X.prog X.w) (X.A.mark (some (.ref a))) (eval (.Name x np) X.env) Q E { s' with heap := h3 } := fun {Q E} q => by
          obtain ⟨hg, hdbg, hm | ⟨hm, hv, hnn⟩⟩ := hc
          · exact ld_glob (X := X.suite a ((a, oe3) :: (X.pn ++ pins))) S3 hg hm q hdbg
          · exact ld_blt (X := X.suite a ((a, oe3) :: (X.pn ++ pins))) S3 hg hm hv q hnn hdbg
        refine test (LM.here ?_)
        cases b with
        | true =>
          refine codeAny_handlers_suite_as ?_
          refine HandSPX.lands_againZ fl3 fun h4 fl4 up4 => ?_
          have J4 : Inv X pins σ' H' { s' with heap := h4 } := J.landed nb fl4.1 ((up.trans up3).trans up4) os ag
          obtain ⟨oe4, vs4, he4, hz4, hd4⟩ := fl4.there
          have S4 := J4.suite he4 hd4 na nL nF
          refine store_ok (X := X.suite a ((a, oe4) :: (X.pn ++ pins))) (v := .ref a) S4 hN hi hloc rfl (fun s5 S5 => ?_) (.inr hln)
          refine wpAny_mono ((hsu a oe4 cls d (X.pn ++ pins) hz4 ⟨_, hd4⟩).run [] s5 _ H' _ S5 (hyes rfl a na)) (fun f s6 hsp => ?_) (fun _ _ z => False.elim z)
          have end_ : ∀ {σ6 : L2.St} {H6 : Hp} {Q : Shared → Prop}, Inv (X.suite a ((a, oe4) :: (X.pn ++ pins))) [] σ6 H6 s6 → (∀ s7, Inv X pins (σ6.set i none) H6 s7 → Q s7) →
              wpAny (model X.prog X.w) X.A (do bindName X.env n .none; unbindBehindTheSuite X.env n pos') (fun _ s7 => Q s7) X.xe s6 := fun {σ6 H6 Q} S6 hq => gone_ok (S6.unsuite ok) hN hi hln hq
          cases f with
          | next =>
            obtain ⟨σ6, H6, S6, q6⟩ := hsp
            exact end_ S6 fun s7 J7 => ⟨_, _, J7, q6⟩
          | brk =>
            obtain ⟨σ6, H6, S6, q6⟩ := hsp
            exact end_ S6 fun s7 J7 => ⟨_, _, J7, q6⟩
          | cont =>
            obtain ⟨σ6, H6, S6, q6⟩ := hsp
            exact end_ S6 fun s7 J7 => ⟨_, _, J7, q6⟩
          | ret u =>
            obtain ⟨v6, σ6, H6, S6, r6, q6⟩ := hsp
            exact end_ S6 fun s7 J7 => ⟨_, _, _, J7, r6, q6⟩
        | false =>
          show wpAny _ X.A (handleBy (.ref a) X.env hds2) _ _ _
          exact ih (hno rfl)
    exact go hh w
  · cases f with
    | next =>
      obtain ⟨σ', H', J', q⟩ := hsp
      exact wpAny_execs_nil ⟨σ', H', J'.ofTry ok, q⟩
    | brk =>
      obtain ⟨σ', H', J', q⟩ := hsp
      exact ⟨σ', H', J'.ofTry ok, q⟩
    | cont =>
      obtain ⟨σ', H', J', q⟩ := hsp
      exact ⟨σ', H', J'.ofTry ok, q⟩
    | ret u =>
      obtain ⟨v, σ', H', J', r, q⟩ := hsp
      exact ⟨v, σ', H', J'.ofTry ok, r, q⟩
end
/-- the reading -/
def tTryN (K : Fg) (tb : WX → TS) (l : List Hd) : TS := fun D σ H => tb (wManyAs K (fun _ _ _ _ => False) D l) D σ H
end U

end
section
namespace U.N
open PySem PyProof.Rows L2 Evl
section
variable {K : Fg} {cs : Cs} {W : WX} {G G' G1 G2 : Gam} {ta tb tc te : TE} {φ : PyData → Prop} {ε : Xw → Prop} {Φ Ψ : Out → Prop}
variable {Wd : Addr → Prop} {B : Option (Addr × Addr)} {ad : Nat → Addr} {H0 H H1 H2 : Hp} {σ σ' : St}
/-! ### raising -/
theorem ew_xf {i : Nat} {a dd C : Addr} {fs : List (Str × V)} {n : Str} {v : V} {x : PyData} (hi : G[i]? = some (.xc a dd fs)) (hl : fs.lookup n = some v) (hd : ∀ H, Dp K H v x) (p : φ x) : EW K cs W (tXf a (.ref C) (some dd) C n (tVar i)) G φ ε := fun Wd B ad H0 H σ S Q q _ => by
  obtain ⟨o, g1, rfl, g2⟩ := S.at_ i _ hi
  exact ⟨_, g1, rfl, rfl, dd, fs, v, rfl, (less_some g2).2, hl, q _ p _ H S Xb.refl (hd _)⟩
theorem ew_xfS {i : Nat} {a dd C : Addr} {fs : List (Str × V)} {n : Str} {v : Str} (hi : G[i]? = some (.xc a dd fs)) (hl : fs.lookup n = some (.str v)) (p : φ (.str v)) : EW K cs W (tXf a (.ref C) (some dd) C n (tVar i)) G φ ε := ew_xf hi hl (fun _ => .str v) p
theorem sw_raise0 {c : Str} {nm : List Str} {g : List V → Option (List (Str × V))} {fs : List (Str × V)} (cf : ClsF K cs c nm) (hg : g [] = some fs) (h : Φ (.ex ⟨c, fs⟩ G)) : SW K cs W (tRaiseX (cs c) (spIn K nm g) [] tNil W) G Φ := fun Wd B ad H0 H σ D S q => by
  refine mk_read cf.ox cf.no ⟨by show 0 ≤ 1000; decide, hg, fun d hd => ?_⟩ (fun Q1 Q2 m h => m _ _ h)
  have e : Ex H (upd H d (.xd fs)) := Ex.new hd
  exact q _ h d ad _ σ (S.ext e) (less_mono e) (S.fresh hd).1 (less_of (S.fresh hd).2.2 upd_same)
/-! ### try .. except C as why -/
def hq (i : Nat) (Φ : Out → Prop) : Out → Prop
  | .nx G => Φ (.nx (G.set i .un))
  | .bk G => Φ (.bk (G.set i .un))
  | .ct G => Φ (.ct (G.set i .un))
  | .rt x => Φ (.rt x)
  | .rl c => Φ (.rl c)
  | .ex _ _ => False
theorem un_ex {i : Nat} : Ex (less H (Zs Wd B ad G)) (less H (Zs Wd B ad (G.set i .un))) := less_sub fun a z => Zs.set_of (fun _ z => by cases z) z
end
/-! ### several clauses -/
def hdN (K : Fg) (cs : Cs) (W : WX) (Φ : Out → Prop) : List Hd → Xw → Gam → Prop
  | [], _, _ => False
  | (c, i, ts) :: r, e, G => ∃ b, PySem.W.exmOne K (.ref (cs e.cls)) c = some b ∧ Cnd b (∀ a d, SW K cs W (ts a (.ref (cs e.cls)) (some d)) (G.set i (.xc a d e.fs)) (hq i Φ)) (hdN K cs W Φ r e G)
def tqN (K : Fg) (cs : Cs) (W : WX) (l : List Hd) (Φ : Out → Prop) : Out → Prop
  | .ex e G => hdN K cs W Φ l e G
  | .nx G => Φ (.nx G)
  | .bk G => Φ (.bk G)
  | .ct G => Φ (.ct G)
  | .rt x => Φ (.rt x)
  | .rl c => Φ (.rl c)
section
variable {K : Fg} {cs : Cs} {W : WX} {G : Gam} {Φ : Out → Prop}
theorem sw_tryN {tb : WX → TS} {l : List Hd} (h : ∀ W', SW K cs W' (tb W') G (tqN K cs W l Φ)) : SW K cs W (tTryN K tb l) G Φ := fun Wd B ad H0 H σ D S q => by
  refine h _ Wd B ad H0 H σ D S fun o p => ?_
  cases o with
  | nx G1 => exact q _ p
  | bk G1 => exact q _ p
  | ct G1 => exact q _ p
  | rt x => exact q _ p
  | rl x => exact q _ p
  | ex e G1 =>
    intro d ad1 H1 σ1 S1 e1 hn hx
    have p : hdN K cs W Φ l e G1 := p
    show wManyAs K (fun _ _ _ _ => False) D l (.ref (cs e.cls)) (some d) σ1 H1
    clear h
    induction l with
    | nil => exact p.elim
    | cons x r ih =>
      obtain ⟨c, i, ts⟩ := x
      obtain ⟨b, hm, p⟩ := p
      refine ⟨b, hm, fun hb a ha => ?_, fun hb => ih (p.2 hb) (p.2 hb)⟩
      have S2 : Sta K Wd B ad1 H0 H1 (σ1.set i (some (.ref a))) (G1.set i (.xc a d e.fs)) := S1.set (fun _ z => by cases z) ⟨rfl, hx⟩
      have e2 : Ex (less H (Zs Wd B ad G)) (less H1 (Zs Wd B ad1 (G1.set i (.xc a d e.fs)))) := e1.trans (less_sub fun a z => Zs.set_of (fun _ z => by cases z) z)
      refine p.1 hb a d Wd B ad1 H0 H1 _ _ S2 fun o po => ?_
      cases o with
      | nx G3 => exact fun ad3 H3 σ3 S3 e3 => q _ po ad3 H3 _ S3.setU ((e2.trans e3).trans un_ex)
      | bk G3 => exact fun ad3 H3 σ3 S3 e3 => q _ po ad3 H3 _ S3.setU ((e2.trans e3).trans un_ex)
      | ct G3 => exact fun ad3 H3 σ3 S3 e3 => q _ po ad3 H3 _ S3.setU ((e2.trans e3).trans un_ex)
      | rt x => exact q _ po
      | rl x => exact q _ po
      | ex e G3 => exact po.elim
end
/-! ### defs -/
def rts0 (A : Rs → Prop) : Out → Prop
  | .rt x => A (.ok x)
  | .rl c => A (.fl c)
  | .nx _ => A (.ok .none)
  | _ => False
def rts (A : Rs → Prop) : Out → Prop
  | .rt x => A (.ok x)
  | .rl c => A (.fl c)
  | .nx _ => A (.ok .none)
  | .ex e _ => A (.er e)
  | _ => False
def frame (n : Nat) (ds : List PyData) : Gam := ds.map .d ++ List.replicate (n - ds.length) .un
section
variable {Pg : Program} {w : World} {K : Fg} {mg : Str → Option Value} {base : Heap} {cs : Cs}
theorem frame_get {n i : Nat} {ds : List PyData} {e : En} (h : (frame n ds)[i]? = some e) : (∃ d, ds[i]? = some d ∧ e = .d d) ∨ (ds.length ≤ i ∧ e = .un) := by
  unfold frame at h
  by_cases hi : i < ds.length
  · rw [List.getElem?_append_left (by rw [List.length_map]; exact hi), List.getElem?_map, List.getElem?_eq_getElem hi] at h
    exact .inl ⟨ds[i], List.getElem?_eq_getElem hi, (Option.some.inj h).symm⟩
  · have hi : ds.length ≤ i := by omega
    rw [List.getElem?_append_right (by rw [List.length_map]; exact hi)] at h
    exact .inr ⟨hi, (List.mem_replicate.mp (List.mem_of_getElem? h)).2⟩
theorem frame_len {n : Nat} {ds : List PyData} : (frame n ds).length = ds.length + (n - ds.length) := by
  unfold frame
  rw [List.length_append, List.length_map, List.length_replicate]
theorem bag_ok0 : Bag.ok ⟨[], 0, 0⟩ := ⟨by simp, by decide, by decide⟩
/-- the state at a def's entry -/
theorem sta0 {N : List Str} {Wd : Addr → Prop} {H : Hp} {vs : List V} {ds : List PyData} (hW : ∀ a, Wd a → ∃ o, H a = some o) (hd : DpAll K (less H Wd) vs ds) : Sta K Wd none (fun _ => 0) H H (L2.start N vs) (frame N.length ds) := by
  have no : ∀ (i : Nat) (c : Own), (frame N.length ds)[i]? ≠ some (En.ow c) := fun i c h => by
    rcases frame_get h with ⟨d, _, e⟩ | ⟨_, e⟩ <;> cases e
  have zz : ∀ a, Zs Wd none (fun _ => 0) (frame N.length ds) a → Wd a := by
    rintro a (z | ⟨i, c, g, _⟩ | ⟨b, c, z, _⟩)
    · exact z
    · exact absurd g (no i c)
    · cases z
  refine ⟨?_, fun i e h => ?_, fun i j c c' g => absurd g (no i c), fun i c g => absurd g (no i c), fun a o h _ => h, ⟨_, bag_ok0, trivial⟩, hW⟩
  · rw [start_len, dpa_len hd, frame_len]
  · rcases frame_get h with ⟨d, hi, rfl⟩ | ⟨hi, rfl⟩
    · obtain ⟨v, hv, dv⟩ := dpa_get hd hi
      exact ⟨some v, start_get hv, v, rfl, dp_mono (less_sub zz) dv⟩
    · have il : i < (L2.start N vs).length := by
        rw [start_len, dpa_len hd]
        have := (List.getElem?_eq_some_iff.mp h).1
        rw [frame_len] at this
        exact this
      exact ⟨(L2.start N vs)[i], List.getElem?_eq_getElem il, trivial⟩
theorem xb_none {H H' : Hp} (h : Xb none H H') : Ex H H' := fun a o g => h a o g fun ⟨_, _, z, _⟩ => by cases z
theorem sz_none {Wd : Addr → Prop} {H : Hp} : (less H fun a => Wd a ∨ InB none a) = less H Wd := congrArg (less H) (funext fun a => propext ⟨fun z => z.elim id (fun ⟨_, _, z, _⟩ => (by cases z)), Or.inl⟩)
theorem run0 {N : List Str} {Wd : Addr → Prop} {H : Hp} {vs : List V} {ds : List PyData} {A : Rs → Prop} {t : TS} {Q : VK} (hW : ∀ a, Wd a → ∃ o, H a = some o) (hd : DpAll K (less H Wd) vs ds) (h : SW K cs W0 t (frame N.length ds) (rts0 A)) (q : okRs H K Wd Q A) :
    t { nx := fun _ H' => Q .non H', rt := Q } (L2.start N vs) H := by
  refine h Wd none (fun _ => 0) H H _ _ (sta0 hW hd) fun o p => ?_
  cases o with
  | rt x => exact fun v H' e _ d => q.1 x p v H' (xb_none e) (by rw [sz_none] at d; exact d)
  | rl c => exact fun a us H' e _ hn ho d => q.2 c p a us H' (xb_none e) hn ho (dpa_mono (less_sub fun b z => by rcases z with z | z; exact .inl (.inl z); exact .inr z) d)
  | nx G => exact fun ad H' σ S _ => q.1 _ p _ H' (xb_none fun a o h n => S.base a o h n) .non
  | bk G => exact p.elim
  | ct G => exact p.elim
  | ex e G => exact p.elim
theorem runX {N : List Str} {Wd : Addr → Prop} {H : Hp} {vs : List V} {ds : List PyData} {A : Rs → Prop} {t : TS} {Q : VK} {E : XK} (hW : ∀ a, Wd a → ∃ o, H a = some o) (hd : DpAll K (less H Wd) vs ds) (h : SW K cs (WD E) t (frame N.length ds) (rts A)) (q : okRs H K Wd Q A) (x : ∀ e, A (.er e) → ∀ d H', Ex H H' → H d = none → H' d = some (.xd e.fs) → E (.ref (cs e.cls)) (some d) H') :
    t { nx := fun _ H' => Q .non H', rt := Q } (L2.start N vs) H := by
  refine h Wd none (fun _ => 0) H H _ _ (sta0 hW hd) fun o p => ?_
  cases o with
  | rt x => exact fun v H' e _ d => q.1 x p v H' (xb_none e) (by rw [sz_none] at d; exact d)
  | rl c => exact fun a us H' e _ hn ho d => q.2 c p a us H' (xb_none e) hn ho (dpa_mono (less_sub fun b z => by rcases z with z | z; exact .inl (.inl z); exact .inr z) d)
  | nx G => exact fun ad H' σ S _ => q.1 _ p _ H' (xb_none fun a o h n => S.base a o h n) .non
  | bk G => exact p.elim
  | ct G => exact p.elim
  | ex e G => exact fun d ad H' σ S _ hn hx => x e p d H' (xb_none fun a o h n => S.base a o h n) hn (less_some hx).2
/-- a def that never raises -/
theorem okW {x qual : Str} {st : Stmt} {f : Addr} {fd : FuncData} {N ps : List Str} {k : Nat} {P : Pr} (cs : Cs) (F : Fun K x qual st f fd) (S : FnScope N ps (defScope st)) (hl : ∀ ds A, P ds A → ds.length = ps.length)
    (hb : ∀ ds A, P ds A → ∀ (cdv : Value) (Ar : Around) (outer : List Env) (sh : Shared) (H : Hp) (E : XK), Room k (Ar.deeper (envOfC qual (defScope st) sh.heap.objs.size f cdv)) →
      ∃ t, PSs (cxOf CX0 Pg w K mg base N qual (defScope st) f cdv Ar outer sh H E).nox (defBody st) t ∧ SW K cs W0 t (frame N.length ds) (rts0 A)) : FnOk Pg w K mg base CX0 (k + 1) f fd ps (spW0 K P) := by
  refine F.ok S (fun vs H Q E h => ?_) (fun cdv Ar outer sh H vs Q E hr h => ?_)
  · obtain ⟨Wd, ds, A, _, hd, hp, _⟩ := h
    rw [dpa_len hd]
    exact hl ds A hp
  · obtain ⟨Wd, ds, A, hW, hd, hp, q⟩ := h
    obtain ⟨t, ht, g⟩ := hb ds A hp cdv Ar outer sh H E hr
    exact ⟨t, ht, run0 hW hd g q⟩
theorem okWD {x qual : Str} {st : Stmt} {dvs : List V} {kws : List (Str × V)} {f : Addr} {fd : FuncData} {N ps : List Str} {k : Nat} {P : Pr} (cs : Cs) (F : FunD K x qual (defArgs st) (defBody st) (defScope st) dvs kws f fd) (S : FnScope N ps (defScope st)) (hl : ∀ ds A, P ds A → ds.length = ps.length)
    (hb : ∀ ds A, P ds A → ∀ (cdv : Value) (Ar : Around) (outer : List Env) (sh : Shared) (H : Hp) (E : XK), Room k (Ar.deeper (envOfC qual (defScope st) sh.heap.objs.size f cdv)) →
      ∃ t, PSs (cxOf CX0 Pg w K mg base N qual (defScope st) f cdv Ar outer sh H E).nox (defBody st) t ∧ SW K cs W0 t (frame N.length ds) (rts0 A)) : FnOk Pg w K mg base CX0 (k + 1) f fd ps (spW0 K P) := by
  refine F.ok S (fun vs H Q E h => ?_) (fun cdv Ar outer sh H vs Q E hr h => ?_)
  · obtain ⟨Wd, ds, A, _, hd, hp, _⟩ := h
    rw [dpa_len hd]
    exact hl ds A hp
  · obtain ⟨Wd, ds, A, hW, hd, hp, q⟩ := h
    obtain ⟨t, ht, g⟩ := hb ds A hp cdv Ar outer sh H E hr
    exact ⟨t, ht.nox, run0 hW hd g q⟩
/-- a def that may raise -/
theorem okWX {x qual : Str} {st : Stmt} {f : Addr} {fd : FuncData} {N ps : List Str} {k : Nat} {P : Pr} (F : Fun K x qual st f fd) (S : FnScope N ps (defScope st)) (hl : ∀ ds A, P ds A → ds.length = ps.length)
    (hb : ∀ ds A, P ds A → ∀ (cdv : Value) (Ar : Around) (outer : List Env) (sh : Shared) (H : Hp) (E : XK), Room k (Ar.deeper (envOfC qual (defScope st) sh.heap.objs.size f cdv)) →
      ∃ t, PSs (cxOf (L2.CX Pg w) Pg w K mg base N qual (defScope st) f cdv Ar outer sh H E) (defBody st) t ∧ SW K cs (WD E) t (frame N.length ds) (rts A)) :
    FnOk Pg w K mg base (L2.CX Pg w) (k + 1) f fd ps (spW K cs P) := by
  refine F.okX S (fun vs H Q E h => ?_) (fun cdv Ar outer sh H vs Q E hr h => ?_)
  · obtain ⟨Wd, ds, A, _, hd, hp, _⟩ := h
    rw [dpa_len hd]
    exact hl ds A hp
  · obtain ⟨Wd, ds, A, hW, hd, hp, q, x⟩ := h
    obtain ⟨t, ht, g⟩ := hb ds A hp cdv Ar outer sh H E hr
    exact ⟨t, ht, runX hW hd g q x⟩
theorem okWXD {x qual : Str} {st : Stmt} {dvs : List V} {kws : List (Str × V)} {f : Addr} {fd : FuncData} {N ps : List Str} {k : Nat} {P : Pr} (F : FunD K x qual (defArgs st) (defBody st) (defScope st) dvs kws f fd) (S : FnScope N ps (defScope st)) (hl : ∀ ds A, P ds A → ds.length = ps.length)
    (hb : ∀ ds A, P ds A → ∀ (cdv : Value) (Ar : Around) (outer : List Env) (sh : Shared) (H : Hp) (E : XK), Room k (Ar.deeper (envOfC qual (defScope st) sh.heap.objs.size f cdv)) →
      ∃ t, PSs (cxOf (L2.CX Pg w) Pg w K mg base N qual (defScope st) f cdv Ar outer sh H E) (defBody st) t ∧ SW K cs (WD E) t (frame N.length ds) (rts A)) :
    FnOk Pg w K mg base (L2.CX Pg w) (k + 1) f fd ps (spW K cs P) := by
  refine F.ok S (fun vs H Q E h => ?_) (fun cdv Ar outer sh H vs Q E hr h => ?_)
  · obtain ⟨Wd, ds, A, _, hd, hp, _⟩ := h
    rw [dpa_len hd]
    exact hl ds A hp
  · obtain ⟨Wd, ds, A, hW, hd, hp, q, x⟩ := h
    obtain ⟨t, ht, g⟩ := hb ds A hp cdv Ar outer sh H E hr
    exact ⟨t, ht, runX hW hd g q x⟩
theorem bag0_okN {ns : List Int} (h : ns.length ≤ 63) : (bag0 ns).ok := ⟨h, by show (0 : Int) ≤ 20011; decide, by show (20011 : Int) < 2147483647; decide⟩
/-- the law itself -/
theorem okLawW {x qual : Str} {st : Stmt} {f : Addr} {fd : FuncData} {N : List Str} {a : Str} {k j : Nat} (cs : Cs) (F : Fun K x qual st f fd) (S : FnScope N [a] (defScope st)) (hj : j = 1) (hN : 2 ≤ N.length)
    (hb : ∀ (ns : List Int), ns.length ≤ 63 → ∀ (cdv : Value) (A : Around) (outer : List Env) (sh : Shared) (H : Hp) (E : XK), Room k (A.deeper (envOfC qual (defScope st) sh.heap.objs.size f cdv)) →
      ∃ t, PSs (cxOf CX0 Pg w K mg base N qual (defScope st) f cdv A outer sh H E).nox (defBody st) (tSeq (tAsg (tCall (spBag K) [] E0 (tCons (tVar 0) tNil)) (gName j)) t) ∧ SW K cs W0 t (.d (.list (ns.map PyData.int)) :: .bag :: List.replicate (N.length - 2) .un) (fun o => o = .rt (.bool true))) : FnOk Pg w K mg base CX0 (k + 1) f fd [a] (spP K PLaw) := by
  subst hj
  refine F.ok S (fun vs H Q E h => ?_) (fun cdv A outer sh H vs Q E hr h => ?_)
  · obtain ⟨W, ds, r, _, hd, ⟨ns, rfl, _⟩, _⟩ := h
    exact dpa_len hd
  · obtain ⟨W, ds, r, hW, hd, ⟨ns, rfl, hl, rfl⟩, q⟩ := h
    obtain ⟨t, ht, g⟩ := hb ns hl cdv A outer sh H E hr
    obtain ⟨v, rfl, dv⟩ := dp1 hd
    obtain ⟨N0, N1, N', rfl⟩ : ∃ a b r, N = a :: b :: r := by
      match N, hN with
      | a :: b :: r, _ => exact ⟨a, b, r, rfl⟩
    refine ⟨_, ht, ?_⟩
    refine ⟨v, rfl, W, ns, hW, hd, hl, fun b c H' e fb fc hB => ?_⟩
    have nb : ∀ a o, H a = some o → ¬ InB (some (b, c)) a := by
      rintro a o h ⟨b', c', e, z⟩
      cases e
      rcases z with rfl | rfl
      · rw [fb] at h; cases h
      · rw [fc] at h; cases h
    have no : ∀ (i : Nat) (l : Own), (En.d (.list (ns.map PyData.int)) :: En.bag :: List.replicate N'.length En.un)[i]? ≠ some (En.ow l) := fun i l h => by
      match i, h with
      | 0, h => cases h
      | 1, h => cases h
      | i + 2, h => cases (List.mem_replicate.mp (List.mem_of_getElem? h)).2
    have hW' : ∀ a, W a → ∃ o, H' a = some o := fun a z => (hW a z).elim fun o q => ⟨o, e a o q⟩
    have S0 : Sta K W (some (b, c)) (fun _ => 0) H H' ((L2.start (N0 :: N1 :: N') [v]).set 1 (some (.ref b))) (En.d (.list (ns.map PyData.int)) :: En.bag :: List.replicate N'.length En.un) := by
      refine ⟨?_, fun i en h => ?_, fun i j c c' g => absurd g (no i c), fun i c g => absurd g (no i c), fun a o h _ => e a o h, ⟨_, bag0_okN hl, hB⟩, hW'⟩
      · rw [List.length_set, start_len]
        simp
        omega
      · match i, h with
        | 0, h =>
          cases h
          refine ⟨some v, rfl, v, rfl, dp_mono ?_ dv⟩
          intro a o q
          obtain ⟨q1, q2⟩ := less_some q
          refine less_of ?_ (e a o q2)
          rintro (z | ⟨i, l, g, _⟩ | z)
          · exact q1 z
          · exact no i l g
          · exact nb a o q2 z
        | 1, h =>
          cases h
          exact ⟨some (.ref b), rfl, b, c, rfl, rfl⟩
        | i + 2, h =>
          have en := (List.mem_replicate.mp (List.mem_of_getElem? h)).2
          subst en
          have il : i + 2 < ((L2.start (N0 :: N1 :: N') [v]).set 1 (some (.ref b))).length := by
            have := (List.getElem?_eq_some_iff.mp h).1
            rw [List.length_set, start_len]
            simp at this ⊢
            omega
          exact ⟨_, List.getElem?_eq_getElem il, trivial⟩
    refine g W (some (b, c)) (fun _ => 0) H H' _ _ S0 fun o p => ?_
    subst p
    exact fun v' H2 e2 _ d => by
      cases d
      exact q _ H2 (fun a o h => e2 a o h (nb a o h)) (.bl true)
end
end U.N

end
section
namespace U.N
open PySem PyProof.Rows L2 Evl
section
variable {K : Fg} {cs : Cs} {W : WX} {G G' G1 G2 : Gam} {ta tb tc td te tf tg : TE} {φ : PyData → Prop} {ε : Xw → Prop} {ι : List PyData → Prop} {χ : Own → Prop} {γ : Gam → Prop} {Φ Ψ : Out → Prop}
variable {Wd : Addr → Prop} {B : Option (Addr × Addr)} {ad : Nat → Addr} {H0 H H1 H2 : Hp} {σ σ' : St}
/-! ### what a value is -/
section
variable {P : Int → Prop} {Pb : Bool → Prop} {Ps : Str → Prop} {Pl : List PyData → Prop} {i j : Int} {b : Bool} {x y z : PyData} {xs ys : List PyData}
theorem xi_int (p : P i) : ∃ j, PyData.int i = .int j ∧ P j := ⟨_, rfl, p⟩
theorem xi_bool (p : Pb b) : ∃ j, PyData.bool b = .bool j ∧ Pb j := ⟨_, rfl, p⟩
theorem xi_tup (p : Pl xs) : ∃ j, PyData.tuple xs = .tuple j ∧ Pl j := ⟨_, rfl, p⟩
theorem xi_list (p : Pl xs) : ∃ j, PyData.list xs = .list j ∧ Pl j := ⟨_, rfl, p⟩
theorem xi_it (h : itemsOf x = some xs) (p : Pl xs) : ∃ j, itemsOf x = some j ∧ Pl j := ⟨_, h, p⟩
theorem x1_int (p : P i) : ∃ j, [PyData.int i] = [.int j] ∧ P j := ⟨_, rfl, p⟩
theorem x1_it (h : itemsOf x = some xs) (p : Pl xs) : ∃ (y : PyData) (ys : List PyData), [x] = [y] ∧ itemsOf y = some ys ∧ Pl ys := ⟨_, _, rfl, h, p⟩
theorem x1_rng {P : Int → Prop} (hb : -1000000 ≤ i ∧ i ≤ 1000000) (p : P i) : ∃ n : Int, [PyData.int i] = [.int n] ∧ (-1000000 ≤ n ∧ n ≤ 1000000) ∧ P n := ⟨_, rfl, hb, p⟩
theorem allB_map {α : Type} {f : α → Bool} {l : List α} : AllB [PyData.list (l.map fun a => .bool (f a))] (l.all f) := ⟨l.map f, by rw [List.map_map]; rfl, by rw [List.all_map]; rfl⟩
theorem anyB_map {α : Type} {f : α → Bool} {l : List α} : AnyB [PyData.list (l.map fun a => .bool (f a))] (l.any f) := ⟨l.map f, by rw [List.map_map]; rfl, by rw [List.any_map]; rfl⟩
theorem x_all (h : AllB xs b) (p : Pb b) : ∃ b, AllB xs b ∧ Pb b := ⟨b, h, p⟩
theorem x_any (h : AnyB xs b) (p : Pb b) : ∃ b, AnyB xs b ∧ Pb b := ⟨b, h, p⟩
theorem sc_int (p : Pb (decide (i = j))) : ∃ b, scEq (.int i) (.int j) = some b ∧ Pb b := ⟨_, rfl, p⟩
theorem sc_str {i j : Str} (p : Pb (decide (i = j))) : ∃ b, scEq (.str i) (.str j) = some b ∧ Pb b := ⟨_, rfl, p⟩
theorem zip_t {P : List PyData → Prop} {xs ys : List PyData} (hx : itemsOf x = some xs) (hy : itemsOf y = some ys) (hl : xs.length = ys.length) (p : P (zipD xs ys)) : ∃ x' y' xs ys, [x, y] = [x', y'] ∧ itemsOf x' = some xs ∧ itemsOf y' = some ys ∧ (true = true → xs.length = ys.length) ∧ P (zipD xs ys) := ⟨_, _, _, _, rfl, hx, hy, fun _ => hl, p⟩
theorem x_ol (p : Pl xs) : ∃ ys, ol xs = ol ys ∧ Pl ys := ⟨_, rfl, p⟩
theorem unk1 {G : Gam} {i : Nat} (h : G[i]? = some .un) : Unk [i] G := fun j e hj g => by
  rw [List.mem_singleton.mp hj, h] at g
  exact (Option.some.inj g).symm
theorem unk2 {G : Gam} {i j : Nat} (h : G[i]? = some .un) (h2 : G[j]? = some .un) : Unk [i, j] G := fun k e hk g => by
  rcases List.mem_cons.mp hk with rfl | hk
  · rw [h] at g; exact (Option.some.inj g).symm
  · rw [List.mem_singleton.mp hk, h2] at g; exact (Option.some.inj g).symm
theorem unk3 {G : Gam} {i j k : Nat} (h : G[i]? = some .un) (h2 : G[j]? = some .un) (h3 : G[k]? = some .un) : Unk [i, j, k] G := fun l e hl g => by
  rcases List.mem_cons.mp hl with rfl | hl
  · rw [h] at g; exact (Option.some.inj g).symm
  · exact unk2 h2 h3 l e hl g
end
/-! ### displays of a known length -/
theorem ew_tup1 (h : EW K cs W ta G (fun a => φ (.tuple [a])) ε) : EW K cs W (tTup (tCons ta tNil)) G φ ε := ew_tup (aw_cons (ew_mono h fun a p => aw_nil ⟨by show 1 ≤ 16000000; decide, p⟩))
theorem ew_tup2 (h : EW K cs W ta G (fun a => EW K cs W tb G (fun b => φ (.tuple [a, b])) ε) ε) : EW K cs W (tTup (tCons ta (tCons tb tNil))) G φ ε := ew_tup (aw_cons (ew_mono h fun a h => aw_cons (ew_mono h fun b p => aw_nil ⟨by show 2 ≤ 16000000; decide, p⟩)))
theorem ef_lst0 (p : χ (ol [])) : EF K cs W (tLst tNil) G χ ε := ef_lst (aw_nil ⟨by show 0 ≤ 16000000; decide, p⟩)
theorem ef_lst1 (h : EW K cs W ta G (fun a => χ (ol [a])) ε) : EF K cs W (tLst (tCons ta tNil)) G χ ε := ef_lst (aw_cons (ew_mono h fun a p => aw_nil ⟨by show 1 ≤ 16000000; decide, p⟩))
theorem ef_lst2 (h : EW K cs W ta G (fun a => EW K cs W tb G (fun b => χ (ol [a, b])) ε) ε) : EF K cs W (tLst (tCons ta (tCons tb tNil))) G χ ε := ef_lst (aw_cons (ew_mono h fun a h => aw_cons (ew_mono h fun b p => aw_nil ⟨by show 2 ≤ 16000000; decide, p⟩)))
theorem ef_lst3 (h : EW K cs W ta G (fun a => EW K cs W tb G (fun b => EW K cs W tc G (fun c => χ (ol [a, b, c])) ε) ε) ε) : EF K cs W (tLst (tCons ta (tCons tb (tCons tc tNil)))) G χ ε := ef_lst (aw_cons (ew_mono h fun a h => aw_cons (ew_mono h fun b h => aw_cons (ew_mono h fun c p => aw_nil ⟨by show 3 ≤ 16000000; decide, p⟩))))
theorem ew_lst1 (h : EW K cs W ta G (fun a => φ (.list [a])) ε) : EW K cs W (tLst (tCons ta tNil)) G φ ε := ew_ef (ef_lst1 (ew_mono h fun a p => ⟨_, rfl, p⟩))
theorem ew_lst2 (h : EW K cs W ta G (fun a => EW K cs W tb G (fun b => φ (.list [a, b])) ε) ε) : EW K cs W (tLst (tCons ta (tCons tb tNil))) G φ ε := ew_ef (ef_lst2 (ew_mono h fun a h => ew_mono h fun b p => ⟨_, rfl, p⟩))
theorem ew_lst3 (h : EW K cs W ta G (fun a => EW K cs W tb G (fun b => EW K cs W tc G (fun c => φ (.list [a, b, c])) ε) ε) ε) : EW K cs W (tLst (tCons ta (tCons tb (tCons tc tNil)))) G φ ε := ew_ef (ef_lst3 (ew_mono h fun a h => ew_mono h fun b h => ew_mono h fun c p => ⟨_, rfl, p⟩))
/-! ### calls without defaults -/
section
variable {ta : TA} {P : Pr} {E : XK}
theorem ew_cP {P : List PyData → PyData → Prop} (h : AW K cs W ta G (fun ds => ∃ r, P ds r ∧ φ r) ε) : EW K cs W (tCall (spP K P) [] E ta) G φ ε := ew_callP (des := []) (fun _ => .nil) (aw_mono h fun ds p => by rw [List.append_nil]; exact p)
theorem ew_c0 (h : AW K cs W ta G (fun ds => P ds (rE φ noX)) ε) : EW K cs W (tCall (spW0 K P) [] E ta) G φ ε := ew_call0 (des := []) (fun _ => .nil) (aw_mono h fun ds p => by rw [List.append_nil]; exact p)
theorem ew_cW (h : AW K cs W ta G (fun ds => P ds (rE φ ε)) ε) : EW K cs W (tCallSD (spW K cs P) [] (WE W) ta) G φ ε := ew_callW (des := []) (fun _ => .nil) (aw_mono h fun ds p => by rw [List.append_nil]; exact p)
end
theorem rE_ok {x : PyData} (h : φ x) : rE φ ε (.ok x) := h
theorem rE_fl {xs : List PyData} (h : φ (.list xs)) : rE φ ε (.fl (ol xs)) := ⟨xs, rfl, h⟩
/-! ### zip -/
theorem dp_sqv {M : Hp} {v : V} {x : PyData} {xs : List PyData} (hx : itemsOf x = some xs) (d : Dp K M v x) : ∃ k a vs, v = .ref a ∧ SqV K k M a vs ∧ DpAll K M vs xs := by
  rcases items_cases hx with rfl | rfl
  · cases d with
    | lst g t => exact ⟨.L, _, _, rfl, g, t⟩
  · cases d with
    | tup g t => exact ⟨.T, _, _, rfl, g, t⟩
theorem ex_v {M M' : Hp} {k : Kd} {a : Addr} {vs : List V} (e : Ex M M') (h : SqV K k M a vs) : SqV K k M' a vs := by
  cases k with
  | L => exact ex_l e h
  | T => exact ex_t e h
theorem iw_zipM {bo : Bool} {ta : TA} (h : AW K cs W ta G (fun zs => ∃ x y xs ys, zs = [x, y] ∧ itemsOf x = some xs ∧ itemsOf y = some ys ∧ (bo = true → xs.length = ys.length) ∧ ι (zipD xs ys)) ε) : IW K cs W (iZipM K bo ta) G ι ε := fun Wd B ad H0 H σ S R q x => h Wd B ad H0 H σ S _ (fun zs ⟨x, y, xs, ys, e, hx, hy, hl, p⟩ vs H1 S1 e1 d1 => by
  subst e
  obtain ⟨v, w, rfl, d, d2⟩ := dp2 d1
  obtain ⟨k1, a, us, rfl, g, t⟩ := dp_sqv hx d
  obtain ⟨k2, b, ws, rfl, g2, t2⟩ := dp_sqv hy d2
  refine ⟨k1, k2, a, b, us, ws, rfl, ex_v less_ex g, ex_v less_ex g2, q _ p _ H1 S1 e1 fun H' Z hz e i => ?_⟩
  have q1 : SqV K k1 H' a us := ex_v less_ex (ex_v e g)
  have q2 : SqV K k2 H' b ws := ex_v less_ex (ex_v e g2)
  have l1 := dpa_len t
  have l2 := dpa_len t2
  have lz : (zipD xs ys).length = min xs.length ys.length := List.length_zipWith ..
  refine ⟨fun d hd => ?_, fun hn => ⟨us, ws, q1, q2, ?_⟩, fun x H'' hy => ?_⟩
  · have hi := (List.getElem?_eq_some_iff.mp hd).1
    rw [lz] at hi
    obtain ⟨v, hv, _⟩ := dpa_get t (List.getElem?_eq_getElem (i := i) (by omega))
    obtain ⟨w, hw, _⟩ := dpa_get t2 (List.getElem?_eq_getElem (i := i) (by omega))
    exact ⟨us, ws, v, w, q1, q2, hv, hw⟩
  · rw [lz] at hn
    cases bo with
    | true => exact .inl ⟨by have := hl rfl; omega, fun _ => by have := hl rfl; omega⟩
    | false =>
      by_cases h : us.length ≤ i
      · exact .inl ⟨h, fun z => by cases z⟩
      · exact .inr ⟨rfl, by omega⟩
  · obtain ⟨T, v, w, rfl, hn, rfl, f1, f2⟩ := hy
    have f1 := f1 us q1
    have f2 := f2 ws q2
    have ex : Ex H' (upd H' T (.tup [v, w])) := Ex.new hn
    refine ⟨ex, fun d hd => ?_⟩
    unfold zipD at hd
    rw [List.getElem?_zipWith] at hd
    obtain ⟨x1, hx1, dx⟩ := dpa_at t f1
    obtain ⟨y1, hy1, dy⟩ := dpa_at t2 f2
    rw [hx1, hy1] at hd
    cases hd
    have zn : ¬ Z T := fun z => by
      obtain ⟨o, h⟩ := hz T z
      rw [hn] at h; cases h
    exact .tup (st_of (less_of zn upd_same)) (.cons (dp_mono (e.trans (less_mono ex)) dx) (.cons (dp_mono (e.trans (less_mono ex)) dy) .nil))) x
theorem zipD_map {α β : Type} {f : α → PyData} {g : β → PyData} {xs : List α} {ys : List β} : zipD (xs.map f) (ys.map g) = (xs.zip ys).map fun p => .tuple [f p.1, g p.2] := by
  unfold zipD
  rw [List.zip, List.map_zipWith, List.zipWith_map]
/-! ### stars -/
/-- .. and the list is only read -/
theorem gw_starD {i j : Nat} {xs : List PyData} {x : PyData} (hij : i ≠ j) (hi : i < G.length) (hl : xs.length ≤ 10000) (h : γ ((G.set i (.d (.list xs))).set j (.d x))) : GW K (gStar K (gCons (gName i) (gCons (gName j) gNil))) G (.tuple (xs ++ [x])) γ := fun Wd B ad H0 H σ v S d Q q =>
  gw_star (γ := fun G' => G' = (G.set i (.ow (ol xs))).set j (.d x)) hij hl rfl Wd B ad H0 H σ v S d Q fun G' ad' H' σ' p S' e' => by
    subst p
    have hg : ((G.set i (.ow (ol xs))).set j (.d x))[i]? = some (.ow (ol xs)) := by rw [List.getElem?_set_ne hij.symm, List.getElem?_set_self hi]
    have S2 := S'.freeze hg
    have eG : (((G.set i (.ow (ol xs))).set j (.d x)).set i (.d (.list xs))) = (G.set i (.d (.list xs))).set j (.d x) := by
      rw [List.set_comm _ _ hij.symm, List.set_set]
    rw [eG] at S2
    refine q _ ad' H' σ' h S2 (e'.trans ?_)
    rw [← eG]
    exact less_sub fun a z => Zs.set_of (fun _ z => by cases z) z
def GsW (K : Fg) (g : TGs) (G : Gam) (xs : List PyData) (γ : Gam → Prop) : Prop :=
  ∀ Wd B ad H0 H σ us, Sta K Wd B ad H0 H σ G → DpAll K (less H (Zs Wd B ad G)) us xs → ∀ Q : St → Hp → Prop,
  (∀ G' ad' H' σ', γ G' → Sta K Wd B ad' H0 H' σ' G' → Ex (less H (Zs Wd B ad G)) (less H' (Zs Wd B ad' G')) → Q σ' H') → g us σ H Q
theorem gsw_nil (h : γ G) : GsW K gNil G [] γ := fun Wd B ad H0 H σ us S d Q q => by
  cases d
  exact ⟨rfl, q _ _ _ _ h S (Ex.refl _)⟩
theorem gsw_cons {g : TG} {gs : TGs} {x : PyData} {xs : List PyData} (h : GW K g G x (fun G' => GsW K gs G' xs γ)) : GsW K (gCons g gs) G (x :: xs) γ := fun Wd B ad H0 H σ us S d Q q => by
  cases d with
  | cons a b =>
    refine ⟨_, _, rfl, h Wd B ad H0 H σ _ S a _ fun G1 ad1 H1 σ1 p S1 e1 => ?_⟩
    exact p Wd B ad1 H0 H1 σ1 _ S1 (dpa_mono e1 b) _ fun G2 ad2 H2 σ2 p S2 e2 => q G2 ad2 H2 σ2 p S2 (e1.trans e2)
theorem gw_tup {n : Nat} {gs : TGs} {xs : List PyData} (hn : xs.length = n) (h : GsW K gs G xs γ) : GW K (gTup K n gs) G (.tuple xs) γ := fun Wd B ad H0 H σ v S d Q q => by
  cases d with
  | tup g t => exact ⟨_, _, rfl, ex_t less_ex g, (dpa_len t).trans hn, h Wd B ad H0 H σ _ S t Q q⟩
section
variable {tz tu tw : TS} {g : TG} {wi : TI} {t : TT} {ti : TIp} {i j : Nat} {ta : TA}
theorem sw_seqA (h : SW K cs W (tAsg te g) G (sq K cs W tz Φ)) : SW K cs W (tSeq (tAsg te g) tz) G Φ := sw_seq h
theorem sw_seqF (h : SW K cs W (tFor wi g tu) G (sq K cs W tz Φ)) : SW K cs W (tSeq (tFor wi g tu) tz) G Φ := sw_seq h
theorem sw_seqW (h : SW K cs W (tWhile t tu) G (sq K cs W tz Φ)) : SW K cs W (tSeq (tWhile t tu) tz) G Φ := sw_seq h
end
theorem sw_cut {tu tz : TS} (J : Gam → Prop) (h : SW K cs W tu G (fun o => ∃ G1, o = .nx G1 ∧ J G1)) (k : ∀ G1, J G1 → SW K cs W tz G1 Φ) : SW K cs W (tSeq tu tz) G Φ := sw_seq (sw_mono h fun o ⟨G1, e, j⟩ => by rw [e]; exact k G1 j)
theorem x_nx {J : Gam → Prop} (h : J G) : ∃ G1, Out.nx G = .nx G1 ∧ J G1 := ⟨G, rfl, h⟩
/-! ### more of lists of one's own -/
theorem sw_setI {i : Nat} {xs : List PyData} (hi : G[i]? = some (.ow (ol xs))) (h : EW K cs W te G (fun x => EW K cs W tb G (fun y => ∃ j k, y = .int j ∧ ixN xs.length j = some k ∧ Φ (.nx (G.set i (.ow (ol (xs.set k x)))))) (fun e => Φ (.ex e G))) (fun e => Φ (.ex e G))) : SW K cs W (tAsg te (gSub (tVar i) tb rSetL)) G Φ := fun Wd B ad H0 H σ D S q =>
  h Wd B ad H0 H σ S _ (fun x p v H1 S1 e1 d1 => by
    obtain ⟨o, g1, rfl, _⟩ := S1.at_ i _ hi
    refine ⟨_, g1, p Wd B ad H0 H1 σ S1 _ (fun y ⟨j, k, ej, hk, p⟩ w H2 S2 e2 d2 => ?_) ((post_xp q).go e1)⟩
    subst ej
    cases d2
    obtain ⟨_, _, _, us, g5, g6⟩ := S2.at_ i _ hi
    have g5 : H2 (ad i) = some (.lst us) := g5
    have g6 : DpAll K _ us xs := g6
    refine ⟨_, us, j, k, rfl, rfl, g5, by rw [dpa_len g6]; exact hk, ?_⟩
    have ds : DpAll K (less H2 (Zs Wd B ad G)) (us.set k v) (xs.set k x) := by
      have key : ∀ (us : List V) (xs : List PyData) (k : Nat), DpAll K (less H2 (Zs Wd B ad G)) us xs → DpAll K (less H2 (Zs Wd B ad G)) (us.set k v) (xs.set k x) := fun us => by
        induction us with
        | nil => intro xs k h; cases h; exact .nil
        | cons u us ih =>
          intro xs k h
          cases h with
          | cons a b =>
            cases k with
            | zero => exact .cons (dp_mono (Xb.lz e2) d1) b
            | succ k => exact .cons a (ih _ k b)
      exact key us xs k g6
    exact q _ p ad _ σ (S2.chg (c' := ol (xs.set k x)) hi ds) ((Xb.lz (e1.trans e2)).trans (chg_ex hi))) (post_xp q)
theorem sw_popD {i : Nat} {xs : List PyData} (hi : G[i]? = some (.ow (ol xs))) (hx : xs ≠ []) (h : Φ (.nx (G.set i (.ow (ol xs.dropLast))))) : SW K cs W (tDrop (tBM0 K "list" rPop (tVar i))) G Φ := fun Wd B ad H0 H σ D S q => by
  obtain ⟨o, g1, rfl, vs, g3, g4⟩ := S.at_ i _ hi
  have g3 : H (ad i) = some (.lst vs) := g3
  have g4 : DpAll K _ vs xs := g4
  have hl : vs.length = xs.length := dpa_len g4
  have hp : 0 < vs.length := by rw [hl]; exact List.length_pos_iff.mpr hx
  refine ⟨_, g1, Or.inl ⟨rfl, vs, sq_of g3⟩, _, vs, vs[vs.length - 1]'(by omega), rfl, rfl, g3, List.getElem?_eq_getElem _, ?_⟩
  have ds : DpAll K (less H (Zs Wd B ad G)) vs.dropLast xs.dropLast := by
    rw [List.dropLast_eq_take, List.dropLast_eq_take, hl]
    exact dpa_take _ g4
  exact q _ h ad _ σ (S.chg (c' := ol xs.dropLast) hi ds) (chg_ex hi)
theorem sw_ext {i : Nat} {xs : List PyData} (hi : G[i]? = some (.ow (ol xs))) (h : EF K cs W te G (fun c => ∃ ys, c = ol ys ∧ xs.length + ys.length ≤ 16000000 ∧ Φ (.nx (G.set i (.ow (ol (xs ++ ys)))))) (fun e => Φ (.ex e G))) : SW K cs W (tDrop (tBM K "list" rExtend (tVar i) (tCons te tNil))) G Φ := fun Wd B ad H0 H σ D S q => by
  obtain ⟨o, g1, rfl, vs, g3, g4⟩ := S.at_ i _ hi
  have g3 : H (ad i) = some (.lst vs) := g3
  refine ⟨_, g1, Or.inl ⟨rfl, vs, sq_of g3⟩, h Wd B ad H0 H σ S _ (fun c ⟨ys, ec, hl, p⟩ a us H1 S1 e1 hn d => ?_) (post_xp q)⟩
  subst ec
  obtain ⟨_, _, _, ws, g5, g6⟩ := S1.at_ i _ hi
  have g5 : H1 (ad i) = some (.lst ws) := g5
  have g6 : DpAll K _ ws xs := g6
  have na : ad i ≠ a := ne_of_none g5 hn
  obtain ⟨S2, e2, _⟩ := new_ex (o := .lst us) S1 hn
  have d' : DpAll K _ us ys := d
  refine ⟨_, a, ws, us, rfl, rfl, by show upd H1 a _ _ = _; rw [upd_ne na]; exact g5, upd_same, by rw [dpa_len g6, dpa_len d']; exact sz_line hl, ?_⟩
  exact q _ p ad _ σ (S2.chg (c' := ol (xs ++ ys)) hi (dpa_app (dpa_mono (Xb.lz e2) g6) (dpa_mono (Xb.lz e2) d'))) ((Xb.lz (e1.trans e2)).trans (chg_ex hi))
end
end U.N

end
section
namespace U.N
open PySem PyProof.Rows L2 Evl
section
variable {φ : PyData → Prop} {n m : Nat} {p q : Fr}
/-! ### items by literal places -/
section
variable {α : Type} {ψ : α → Prop} {xs : List α} {z : α}
theorem at_nat {i : Nat} (h : xs[i]? = some z) (p : ψ z) : ∃ z, atI xs (i : Int) = some z ∧ ψ z := ⟨z, atI_nat h, p⟩
theorem at0 (h : xs[0]? = some z) (p : ψ z) : ∃ z, atI xs 0 = some z ∧ ψ z := at_nat (i := 0) h p
theorem at1 (h : xs[1]? = some z) (p : ψ z) : ∃ z, atI xs 1 = some z ∧ ψ z := at_nat (i := 1) h p
theorem atm {k : Nat} (hk : k ≤ xs.length) (hk0 : 0 < k) (h : xs[xs.length - k]? = some z) : atI xs (-(k : Int)) = some z := by
  unfold atI
  have e : ixN xs.length (-(k : Int)) = some (xs.length - k) := by
    unfold ixN
    split
    · omega
    · split
      · congr 1
        omega
      · omega
  rw [e]
  exact h
end
/-! ### what calls of the first layer's defs give -/
theorem c_pull {k : Int} (h0 : 0 < k) (h1 : k < 1000000000000) (h : ∀ v : Int, 0 ≤ v → v < k → φ (.int v)) (s : Bag) (ok : s.ok) : ∃ r s', P_pull s [.int k] r s' ∧ s'.ok ∧ φ r :=
  ⟨_, _, ⟨k, rfl, h0, h1, rfl, rfl⟩, pullS_ok _ ok, h _ (pullV_range s h0).1 (pullV_range s h0).2⟩
theorem c_plus (hp : Gd n p) (hq : Gd m q) (hl : n + m ≤ 7800) (h : Gd (n + m + 1) (addF p q) → φ (fr (addF p q))) : ∃ r, P_plus [fr p, fr q] r ∧ φ r := ⟨_, ⟨n, m, p, q, rfl, hp.sz, hq.sz, hl, ⟨hp.ne, hq.ne⟩, rfl⟩, h (hp.add hq)⟩
theorem c_times (hp : Gd n p) (hq : Gd m q) (hl : n + m ≤ 7800) (h : Gd (n + m) (mulF p q) → φ (fr (mulF p q))) : ∃ r, P_times [fr p, fr q] r ∧ φ r := ⟨_, ⟨n, m, p, q, rfl, hp.sz, hq.sz, hl, ⟨hp.ne, hq.ne⟩, rfl⟩, h (hp.mul hq)⟩
theorem c_ladd (hp : Gd n p) (hq : Gd m q) (hl : n + m ≤ 7800) (h : Gd (n + m + 1) (addF p q) → φ (fr (addF p q))) : ∃ r, P_add [fr p, fr q] r ∧ φ r := ⟨_, ⟨n, m, p, q, rfl, hp.sz, hq.sz, hl, rfl⟩, h (hp.add hq)⟩
theorem c_lmul (hp : Gd n p) (hq : Gd m q) (hl : n + m ≤ 7800) (h : Gd (n + m) (mulF p q) → φ (fr (mulF p q))) : ∃ r, P_lmul [fr p, fr q] r ∧ φ r := ⟨_, ⟨n, m, p, q, rfl, hp.sz, hq.sz, hl, trivial, rfl⟩, h (hp.mul hq)⟩
theorem c_like {x y : PyData} (e : x = y) (hy : okD 9 y = true) (h : φ (.bool true)) : ∃ r, P_like 10 [x, y] r ∧ φ r := by
  subst e
  exact ⟨_, ⟨x, rfl, hy, rfl⟩, h⟩
end
end U.N


end
section
/-! Spots in order: the common number below, the keys, the order by worth. -/
namespace U
open PySem PyProof.Rows L2 Evl
theorem gi_cop {a b : Int} (h : gI a b = 1) (hb : b ≠ 0) : Nat.Coprime a.natAbs b.natAbs := by
  have h1 : gN a b = 1 := by unfold gI at h; omega
  unfold gN at h1
  have : 0 < Nat.gcd a.natAbs b.natAbs := Nat.gcd_pos_of_pos_right _ (by omega)
  unfold Nat.Coprime
  omega
theorem val_eq_iff {p q : Fr} (hp : 0 < p.2) (hq : 0 < q.2) : val p = val q ↔ p.1 * q.2 = q.1 * p.2 := by
  have h1 := qne (Int.ne_of_gt hp)
  have h2 := qne (Int.ne_of_gt hq)
  unfold val
  constructor
  · intro h
    have : (p.1 : Rat) * q.2 = q.1 * p.2 := by grind
    exact_mod_cast this
  · intro h
    have : (p.1 : Rat) * q.2 = q.1 * p.2 := by exact_mod_cast h
    grind
theorem gd_inj {n m : Nat} {p q : Fr} (hp : Gd n p) (hq : Gd m q) (h : val p = val q) : p = q := by
  have e := (val_eq_iff hp.pos hq.pos).mp h
  have c1 := gi_cop hp.low hp.ne
  have c2 := gi_cop hq.low hq.ne
  have en : p.1.natAbs * q.2.natAbs = q.1.natAbs * p.2.natAbs := by
    have := congrArg Int.natAbs e
    rwa [Int.natAbs_mul, Int.natAbs_mul] at this
  have d1 : p.2.natAbs ∣ q.2.natAbs := by
    have : p.2.natAbs ∣ p.1.natAbs * q.2.natAbs := en ▸ Nat.dvd_mul_left _ _
    exact Nat.Coprime.dvd_of_dvd_mul_left c1.symm this
  have d2 : q.2.natAbs ∣ p.2.natAbs := by
    have : q.2.natAbs ∣ q.1.natAbs * p.2.natAbs := en ▸ Nat.dvd_mul_left _ _
    exact Nat.Coprime.dvd_of_dvd_mul_left c2.symm this
  have e2 := Nat.dvd_antisymm d1 d2
  have p1 := hp.pos
  have p2 := hq.pos
  have e3 : p.2 = q.2 := by omega
  rw [e3] at e
  have e4 : p.1 = q.1 := Int.eq_of_mul_eq_mul_right (by omega) e
  exact Prod.ext e4 e3
/-! ### the common number -/
def lcI (a b : Int) : Int := (a * b).fdiv (gI a b)
theorem lcI_spec {a b : Int} (ha : 0 < a) (hb : 0 < b) : 0 < lcI a b ∧ a ∣ lcI a b ∧ b ∣ lcI a b := by
  have e : gI a b = (Nat.gcd a.natAbs b.natAbs : Int) := by
    unfold gI gN
    have : 0 < Nat.gcd a.natAbs b.natAbs := Nat.gcd_pos_of_pos_right _ (by omega)
    omega
  obtain ⟨x, rfl⟩ : ∃ x : Nat, a = x := ⟨a.toNat, by omega⟩
  obtain ⟨y, rfl⟩ : ∃ y : Nat, b = y := ⟨b.toNat, by omega⟩
  have e1 : lcI x y = (Nat.lcm x y : Int) := by
    unfold lcI
    rw [e, Int.fdiv_eq_ediv_of_nonneg _ (Int.natCast_nonneg _)]
    show ((x : Int) * y) / ((Nat.gcd x y : Nat) : Int) = _
    unfold Nat.lcm
    norm_cast
  rw [e1]
  refine ⟨?_, ?_, ?_⟩
  · have := Nat.lcm_pos (m := x) (n := y) (by omega) (by omega)
    omega
  · exact_mod_cast Nat.dvd_lcm_left x y
  · exact_mod_cast Nat.dvd_lcm_right x y
theorem lcI_bd {n m : Nat} {a b : Int} (ha : Bd n a) (hb : Bd m b) : Bd (n + m) (lcI a b) := (ha.mul hb).fdiv _
def cbS (acc : Int) (s : List Fr) : Int := s.foldl (fun c f => lcI c f.2) acc
def cb (acc : Int) (ss : List (List Fr)) : Int := ss.foldl cbS acc
abbrev Gds' (a : Nat) (s : List Fr) : Prop := ∀ f ∈ s, Gd a f
theorem cbS_spec {a : Nat} : ∀ {s : List Fr} {n : Nat} {acc : Int}, Gds' a s → 0 < acc → Bd n acc → 0 < cbS acc s ∧ acc ∣ cbS acc s ∧ (∀ f ∈ s, f.2 ∣ cbS acc s) ∧ Bd (n + s.length * a) (cbS acc s)
  | [], n, acc, _, h, b => ⟨h, Int.dvd_refl _, (fun _ h => nomatch h), by simpa [cbS] using b⟩
  | f :: s, n, acc, g, h, b => by
    have gf := g f (List.mem_cons_self ..)
    obtain ⟨l1, l2, l3⟩ := lcI_spec h gf.pos
    obtain ⟨k1, k2, k3, k4⟩ := cbS_spec (s := s) (acc := lcI acc f.2) (fun x hx => g x (List.mem_cons_of_mem _ hx)) l1 (lcI_bd b gf.sz.2)
    refine ⟨k1, Int.dvd_trans l2 k2, fun x hx => ?_, ?_⟩
    · rcases List.mem_cons.mp hx with rfl | hx
      · exact Int.dvd_trans l3 k2
      · exact k3 x hx
    · refine k4.mono ?_
      rw [List.length_cons, Nat.succ_mul]; omega
theorem cb_spec {a r : Nat} : ∀ {ss : List (List Fr)} {n : Nat} {acc : Int}, (∀ s ∈ ss, Gds' a s ∧ s.length ≤ r) → 0 < acc → Bd n acc → 0 < cb acc ss ∧ acc ∣ cb acc ss ∧ (∀ s ∈ ss, ∀ f ∈ s, f.2 ∣ cb acc ss) ∧ Bd (n + ss.length * (r * a)) (cb acc ss)
  | [], n, acc, _, h, b => ⟨h, Int.dvd_refl _, (fun _ h => nomatch h), by simpa [cb] using b⟩
  | s :: ss, n, acc, g, h, b => by
    have gf := g s (List.mem_cons_self ..)
    obtain ⟨l1, l2, l3, l4⟩ := cbS_spec gf.1 h b
    obtain ⟨k1, k2, k3, k4⟩ := cb_spec (ss := ss) (acc := cbS acc s) (fun x hx => g x (List.mem_cons_of_mem _ hx)) l1 l4
    refine ⟨k1, Int.dvd_trans l2 k2, fun x hx f hf => ?_, ?_⟩
    · rcases List.mem_cons.mp hx with rfl | hx
      · exact Int.dvd_trans (l3 f hf) k2
      · exact k3 x hx f hf
    · refine k4.mono ?_
      have := Nat.mul_le_mul_right a gf.2
      rw [List.length_cons, Nat.succ_mul]; omega
/-! ### the keys -/
def kyF (c : Int) (f : Fr) : Int := f.1 * c.fdiv f.2
theorem kyF_val {c : Int} {f : Fr} (hp : 0 < f.2) (hd : f.2 ∣ c) : (kyF c f : Rat) = val f * c := by
  obtain ⟨k, rfl⟩ := hd
  have e : (f.2 * k).fdiv f.2 = k := Int.mul_fdiv_cancel_left k (Int.ne_of_gt hp)
  unfold kyF val
  rw [e, Rat.intCast_mul, Rat.intCast_mul]
  have := qne (Int.ne_of_gt hp)
  grind
theorem ky_lt {c : Int} {f g : Fr} (hc : 0 < c) (hf : 0 < f.2) (hg : 0 < g.2) (df : f.2 ∣ c) (dg : g.2 ∣ c) : kyF c f < kyF c g ↔ val f < val g := by
  have h0 := qpos hc
  have e1 := kyF_val hf df
  have e2 := kyF_val hg dg
  have k : kyF c f < kyF c g ↔ (kyF c f : Rat) < (kyF c g : Rat) := Rat.intCast_lt_intCast.symm
  rw [k, e1, e2]
  exact Rat.mul_lt_mul_right h0
theorem ky_eq {c : Int} {f g : Fr} (hc : 0 < c) (hf : 0 < f.2) (hg : 0 < g.2) (df : f.2 ∣ c) (dg : g.2 ∣ c) : kyF c f = kyF c g ↔ val f = val g := by
  have h0 := qne (Int.ne_of_gt hc)
  have e1 := kyF_val hf df
  have e2 := kyF_val hg dg
  constructor
  · intro h
    have : (kyF c f : Rat) = (kyF c g : Rat) := by rw [h]
    rw [e1, e2] at this
    grind
  · intro h
    have : (kyF c f : Rat) = (kyF c g : Rat) := by rw [e1, e2, h]
    exact_mod_cast this
end U

end
section
/-! Dicts whose keys are tuples, nested ones too: by what they hold. -/
namespace U
open PySem PySem.Spec PyProof.Rows L2 Evl
abbrev NK := NestedKey
mutual
/-- data as keys -/
def toK : PyData → Option NK
  | .none => some .none
  | .int i => some (.num i)
  | .str x => some (.text x)
  | .tuple xs => (toKs xs).map .tup
  | _ => none
def toKs : List PyData → Option (List NK)
  | [] => some []
  | x :: xs => (toK x).bind fun k => (toKs xs).map (k :: ·)
end
section
variable {X : Cx} {pins : List (Addr × Obj)} {σ : L2.St} {H : Hp} {s : Shared}
mutual
theorem nk_is (I : Inv X pins σ H s) : ∀ {x : PyData} {v : V} {u : Value} {k : NK}, Dp X.K H v x → RelV v u → toK x = some k → NestedIs s.heap k u
  | _, _, _, _, .non, r, e => by cases e; cases r; exact .none
  | _, _, _, _, .bl b, r, e => by cases e
  | _, _, _, _, .int i, r, e => by
    cases e
    obtain ⟨t, rfl⟩ := r
    exact .int i t
  | _, _, _, _, .str x, r, e => by
    cases e
    obtain ⟨t, rfl⟩ := r
    exact .text x t
  | _, _, _, _, .lst h t, r, e => by cases e
  | .tuple xs, _, _, _, .tup h t, r, e => by
    have e : (toKs xs).map NestedKey.tup = some _ := e
    obtain ⟨ks, hks, rfl⟩ := Option.map_eq_some_iff.mp e
    cases r
    obtain ⟨its, rv, ⟨o, h1, h2, n, h3⟩, _⟩ := I.tuple h
    exact .tup h1 h2 h3 (by rw [List.toList_toArray]; exact nk_all I t rv hks)
theorem nk_all (I : Inv X pins σ H s) : ∀ {xs : List PyData} {vs : List V} {us : List Value} {ks : List NK}, DpAll X.K H vs xs → Vals vs us → toKs xs = some ks → NestedAll s.heap ks us
  | _, _, _, _, .nil, r, e => by cases e; cases r; exact .nil
  | x :: xs, _, _, _, .cons h t, r, e => by
    have e : ((toK x).bind fun k => (toKs xs).map (k :: ·)) = some _ := e
    obtain ⟨k, hk, e⟩ := Option.bind_eq_some_iff.mp e
    obtain ⟨ks, hks, rfl⟩ := Option.map_eq_some_iff.mp e
    cases r with
    | cons a b => exact .cons (nk_is I h a hk) (nk_all I t b hks)
end
/-- the tuple at b is the key k -/
def KeyIs (K : Fg) (H : Hp) (k : NK) (b : Addr) : Prop := ∃ x, Dp K H (.ref b) x ∧ toK x = some k ∧ k.depth ≤ 8
theorem KeyIs.nk {k : NK} {b : Addr} (I : Inv X pins σ H s) (h : KeyIs X.K H k b) : (nestedKind X.prog X.w).is s.heap k b := by
  obtain ⟨x, hd, hk, hl⟩ := h
  exact ⟨nk_is I hd rfl hk, hl⟩
end
abbrev Ent := NK × Addr × V
inductive Es : List Ent → List (NK × Addr × Value) → Prop
  | nil : Es [] []
  | cons {k : NK} {b : Addr} {v : V} {u : Value} {es : List Ent} {xs : List (NK × Addr × Value)} : RelV v u → Es es xs → Es ((k, b, v) :: es) ((k, b, u) :: xs)
theorem Es.len : ∀ {es : List Ent} {xs : List (NK × Addr × Value)}, Es es xs → es.length = xs.length
  | _, _, .nil => rfl
  | _, _, .cons _ t => congrArg (· + 1) t.len
theorem Es.keys : ∀ {es : List Ent} {xs : List (NK × Addr × Value)}, Es es xs → es.map (·.1) = xs.map (·.1)
  | _, _, .nil => rfl
  | _, _, .cons _ t => by rw [List.map_cons, List.map_cons, t.keys]
theorem Es.snoc : ∀ {es : List Ent} {xs : List (NK × Addr × Value)} {k : NK} {b : Addr} {v : V} {u : Value}, Es es xs → RelV v u → Es (es ++ [(k, b, v)]) (xs ++ [(k, b, u)])
  | _, _, _, _, _, _, .nil, r => .cons r .nil
  | _, _, _, _, _, _, .cons a t, r => .cons a (t.snoc r)
def findE (es : List Ent) (k : NK) : Option V := (es.find? fun e => decide (e.1 = k)).map (·.2.2)
def putE (es : List Ent) (k : NK) (b : Addr) (v : V) : List Ent := if (findE es k).isSome then es.map (fun e => if e.1 = k then (e.1, e.2.1, v) else e) else es ++ [(k, b, v)]
theorem Es.find : ∀ {es : List Ent} {xs : List (NK × Addr × Value)} {k : NK}, Es es xs → (findE es k = none ∧ atKey xs k = none) ∨ ∃ v p, findE es k = some v ∧ atKey xs k = some p ∧ RelV v p.2
  | _, _, _, .nil => .inl ⟨rfl, rfl⟩
  | (k', b, v) :: es, (_, _, u) :: xs, k, .cons r t => by
    by_cases h : k' = k
    · exact .inr ⟨v, (b, u), by simp [findE, h], by simp [atKey, h], r⟩
    · have e1 : findE ((k', b, v) :: es) k = findE es k := by simp [findE, h]
      have e2 : atKey ((k', b, u) :: xs) k = atKey xs k := by simp [atKey, h]
      rw [e1, e2]
      exact t.find
theorem Es.mput {k : NK} {v : V} {u : Value} (r : RelV v u) : ∀ {es : List Ent} {xs : List (NK × Addr × Value)}, Es es xs → Es (es.map (fun e => if e.1 = k then (e.1, e.2.1, v) else e)) (xs.map (putAt k u))
  | _, _, .nil => .nil
  | (k', b, v') :: es, (_, _, u') :: xs, .cons a t => by
    rw [List.map_cons, List.map_cons, putAt]
    by_cases h : k' = k
    · rw [if_pos h, if_pos h]
      exact .cons r (t.mput r)
    · rw [if_neg h, if_neg h]
      exact .cons a (t.mput r)
theorem Es.put {k : NK} {b : Addr} {v : V} {u : Value} {es : List Ent} {xs : List (NK × Addr × Value)} (h : Es es xs) (r : RelV v u) : Es (putE es k b v) (storedH xs k b u) := by
  unfold putE storedH
  rcases h.find (k := k) with ⟨e1, e2⟩ | ⟨v', p, e1, e2, _⟩
  · rw [e1, e2]
    exact h.snoc r
  · rw [e1, e2]
    exact h.mput r
theorem putE_len {es : List Ent} {k : NK} {b : Addr} {v : V} : (putE es k b v).length ≤ es.length + 1 := by
  unfold putE
  split
  · rw [List.length_map]; omega
  · rw [List.length_append]; exact Nat.le_refl _
/-- a key that may stand in a dict -/
def KGood (k : NK) : Prop := k.depth ≤ 8 ∧ ∃ ks, k = .tup ks
def toKd (x : PyData) : NK := (toK x).getD .none
theorem toKd_good {x : PyData} (h : KGood (toKd x)) : toK x = some (toKd x) := by
  obtain ⟨_, ks, h⟩ := h
  unfold toKd at h ⊢
  cases e : toK x with
  | none => rw [e] at h; cases h
  | some k => rfl
/-- the tuple at b is the key k, if k is one -/
def KeyW (K : Fg) (H : Hp) (k : NK) (b : Addr) : Prop := ∃ x, Dp K H (.ref b) x ∧ toKd x = k
theorem KeyW.is {K : Fg} {H : Hp} {k : NK} {b : Addr} (h : KeyW K H k b) (g : KGood k) : KeyIs K H k b := by
  obtain ⟨x, hd, rfl⟩ := h
  exact ⟨x, hd, toKd_good g, g.1⟩
theorem KeyIs.good {K : Fg} {H : Hp} {k : NK} {b : Addr} (h : KeyIs K H k b) : KGood k := by
  obtain ⟨x, hd, hk, hl⟩ := h
  refine ⟨hl, ?_⟩
  cases hd with
  | lst a b => cases hk
  | tup a b =>
    obtain ⟨ks, _, e⟩ := Option.map_eq_some_iff.mp (show (toKs _).map NestedKey.tup = some k from hk)
    exact ⟨ks, e.symm⟩
/-- the dict at a holds es; ep its epoch -/
def DctN (w : World) (h : Heap) (a : Addr) (ep : Nat) (es : List Ent) : Prop := es.length ≤ sizeLine ∧ (a == sysModules) = false ∧ ((es.map (·.1)).Nodup ∧ ∀ e ∈ es, KGood e.1) ∧
  ∃ o ent xs, h.get? a = some o ∧ o.ExactDict ∧ o.data = .dict ent ep ∧ Es es xs ∧ ent.toList = xs.map fun x => ⟨x.1.hash w, .ref x.2.1, x.2.2⟩
def DctO (w : World) (a : Addr) (ep : Nat) (es : List Ent) : HO := .ext fun h => DctN w h a ep es
/-- the dict at a, its keys tuples that H holds -/
def DctH (K : Fg) (w : World) (H : Hp) (a : Addr) (ep : Nat) (es : List Ent) : Prop := H a = some (DctO w a ep es) ∧ ∀ e ∈ es, KeyW K H e.1 e.2.1
section
variable {X : Cx} {pins : List (Addr × Obj)} {σ : L2.St} {H : Hp} {s : Shared} {a b : Addr} {ep : Nat} {es : List Ent} {k : NK}
theorem dct_ok {P : Program} {w : World} {h : Heap} (R : DctN w h a ep es) : ObjOk P w H h a (DctO w a ep es) := by
  obtain ⟨h1, h2, h3, o, ent, xs, ho, r⟩ := id R
  refine ⟨R, ⟨o, ho⟩, fun h1 h2 p q => ?_⟩
  obtain ⟨k1, k2, k3, o', ent', xs', ho', r'⟩ := p
  exact ⟨k1, k2, k3, o', ent', xs', q _ ho', r'⟩
theorem dct_at (I : Inv X pins σ H s) (hD : H a = some (DctO X.w a ep es)) : DctN X.w s.heap a ep es :=
  have ok : ObjOk X.prog X.w H s.heap a (DctO X.w a ep es) := I.hok a _ hD
  ok.1
theorem es_keys {P : NK → Addr → Prop} : ∀ {es : List Ent} {xs : List (NK × Addr × Value)}, Es es xs → (∀ e ∈ es, P e.1 e.2.1) → ∀ x ∈ xs, P x.1 x.2.1
  | _, _, .nil, _, x, hx => nomatch hx
  | _, _, .cons (k := k) (b := b) (v := v) (es := es) r t, hk, x, hx => by
    rcases List.mem_cons.mp hx with rfl | hx
    · exact hk _ (List.mem_cons_self ..)
    · exact es_keys t (fun e he => hk e (List.mem_cons_of_mem _ he)) x hx
theorem dct_h (I : Inv X pins σ H s) (hD : DctH X.K X.w H a ep es) : ∃ xs, Es es xs ∧ s.heap.DictOfH (nestedKind X.prog X.w) a xs ∧ (a == sysModules) = false ∧ xs.length ≤ sizeLine := by
  obtain ⟨hD, hk⟩ := hD
  obtain ⟨h1, h2, h3, o, ent, xs, ho, hc, hd, he, hl⟩ := dct_at I hD
  refine ⟨xs, he, ⟨o, ent, ep, ho, hc, hd, hl, fun x hx => ?_, by rw [← he.keys]; exact h3.1⟩, h2, by rw [← he.len]; exact h1⟩
  exact (es_keys (P := fun k b => KeyIs X.K H k b) he (fun e m => (hk e m).is (h3.2 e m)) x hx).nk I
theorem dct_of (hg : ∀ e ∈ es, KGood e.1) {P : Program} {w : World} {h : Heap} {xs : List (NK × Addr × Value)} (he : Es es xs) (hm : h.DictOfH (nestedKind P w) a xs) (hd : (a == sysModules) = false) (hl : es.length ≤ sizeLine) : ∃ ep, DctN w h a ep es := by
  obtain ⟨o, ent, ep, ho, hc, hdat, e, his, hn⟩ := hm
  exact ⟨ep, hl, hd, ⟨by rw [he.keys]; exact hn, hg⟩, o, ent, xs, ho, hc, hdat, he, e⟩
/-! ### {}, d[k], d[k] = v, d.get(k, x) -/
def tDct0 (w : World) : TE := fun _ H Q => ∀ p, H p = none → Q (.ref p) (upd H p (DctO w p 0 []))
theorem dct_new (h : Heap) (w : World) (hb : sysModules < h.objs.size) : DctN w (h.push { cls := .type "dict", data := .dict #[] }) h.objs.size 0 [] :=
  ⟨Nat.zero_le _, beq_eq_false_iff_ne.mpr (Ne.symm (Nat.ne_of_lt hb)), ⟨List.nodup_nil, fun _ h => nomatch h⟩, _, #[], [], Heap.get?_push_size _ rfl, ⟨rfl, rfl, rfl⟩, rfl, .nil, rfl⟩
theorem pe_dct0 {pos : Pos} : PE X (.Dict [] [] pos) (tDct0 X.w) := ⟨fun pins s σ H Q I h =>
  wpAny_Dict_empty ⟨.ref s.heap.objs.size, _, I.laid (a := s.heap.objs.size) (o := DctO X.w s.heap.objs.size 0 []) (t' := s.toks) (fun _ _ q => Heap.get?_push_of_some _ q) (Nat.le_refl _) (dct_ok (dct_new s.heap X.w I.big)), rfl, h _ (I.hok.fresh (Nat.le_refl _))⟩⟩
/-- d[k] -/
def rDx (K : Fg) (w : World) : R2 := fun x y H Q => ∃ a b ep es k v, x = .ref a ∧ y = .ref b ∧ DctH K w H a ep es ∧ KeyIs K H k b ∧ findE es k = some v ∧ Q v H
theorem room_in1 {A : Around} (hu : A.units + 9 < cLine) : (nestedKind X.prog X.w).room A.in1 := by
  show A.in1.units + 8 < cLine
  have : A.in1.units = A.units + 1 := rfl
  omega
theorem ix_dct (hu : X.A.units + 9 < cLine) : IxR X (rDx X.K X.w) := by
  intro value slice pins s σ H x y v u Q I rx ry h hs
  obtain ⟨a, b, ep, es, k, r, rfl, rfl, hD, hk, hf, q⟩ := h
  obtain rfl : v = Value.ref a := rx
  obtain rfl : u = Value.ref b := ry
  obtain ⟨xs, he, hm, h1, h2⟩ := dct_h I hD
  rcases he.find (k := k) with ⟨e, _⟩ | ⟨v', p, e1, e2, e3⟩
  · rw [hf] at e; cases e
  · rw [hf] at e1
    cases e1
    exact tail_any hm.typeIs PySem.F.slot_dict_getitem.lookup (wpAny_getItem_heap (room_in1 hu) (hk.nk I) hm e2 ⟨r, H, I.tok _, e3, q⟩) hs
/-- d.get(k, x) -/
def rDget (K : Fg) (w : World) : V → List V → Hp → VK → Prop := fun x ys H Q => ∃ a b ep es k d, x = .ref a ∧ ys = [.ref b, d] ∧ DctH K w H a ep es ∧ KeyIs K H k b ∧ Q ((findE es k).getD d) H
theorem mt_dct_get (hu : X.A.units + 9 < cLine) : MtR X "dict.get" (rDget X.K X.w) := by
  intro pins s σ H x ys v us Q I rx rs h
  obtain ⟨a, b, ep, es, k, d, rfl, rfl, hD, hk, q⟩ := h
  obtain rfl : v = Value.ref a := rx
  cases rs with
  | cons r1 rs =>
    cases rs with
    | cons r2 rs =>
      cases rs
      cases r1
      obtain ⟨xs, he, hm, h1, h2⟩ := dct_h I hD
      refine call_meetsIn PySem.F.slot_dict_get hm.typeIs PySem.F.entry_dict_get (PySem.F.args_dict_get_3 _ _ _) (meetsH_dict_get_default (nestedKind X.prog X.w) a b h1 _) ⟨room_in1 hu, k, xs, hk.nk I, hm, ?_⟩
      rcases he.find (k := k) with ⟨e1, e2⟩ | ⟨v', p, e1, e2, e3⟩
      · rw [e1] at q
        rw [e2]
        exact ⟨d, H, I.tok _, r2, q⟩
      · rw [e1] at q
        rw [e2]
        exact ⟨v', H, I.tok _, e3, q⟩
/-- d[k] = v -/
def rDset (K : Fg) (w : World) : TSet := fun o i v H Q => ∃ a b ep es k, o = .ref a ∧ i = .ref b ∧ DctH K w H a ep es ∧ KeyIs K H k b ∧ es.length < sizeLine ∧ ∀ ep', Q (upd H a (DctO w a ep' (putE es k b v)))
theorem putE_good {v : V} (hg : ∀ e ∈ es, KGood e.1) (hk : KGood k) : ∀ e ∈ putE es k b v, KGood e.1 := fun e he => by
  unfold putE at he
  split at he
  · obtain ⟨e', h1, rfl⟩ := List.mem_map.mp he
    by_cases z : e'.1 = k
    · rw [if_pos z]; exact hg e' h1
    · rw [if_neg z]; exact hg e' h1
  · rcases List.mem_append.mp he with h | h
    · exact hg e h
    · rw [List.mem_singleton.mp h]; exact hk
theorem dct_put (hk : KGood k) {h' : Heap} {xs : List (NK × Addr × Value)} {t' : Nat} {v : V} {r : Value} (I : Inv X pins σ H s) (hD : H a = some (DctO X.w a ep es)) (he : Es es xs) (rv : RelV v r) (h1 : (a == sysModules) = false) (hl : es.length < sizeLine) (hm' : h'.DictOfH (nestedKind X.prog X.w) a (storedH xs k b r)) (hs : Heap.SameBut a s.heap h') : ∃ ep', Inv X pins σ (upd H a (DctO X.w a ep' (putE es k b v))) { s with heap := h', toks := t' } := by
  have hz : (putE es k b v).length ≤ sizeLine := Nat.le_trans putE_len hl
  obtain ⟨ep', hN⟩ := dct_of (putE_good (dct_at I hD).2.2.1.2 hk) (he.put (k := k) (b := b) rv) hm' h1 hz
  have hq : ∃ q, h'.get? a = some q := let ⟨q, _, _, hq, _⟩ := hm'; ⟨q, hq⟩
  exact ⟨ep', d_write I (by rw [hD]; exact True.intro) hs hq (dct_ok hN)⟩
theorem set_dct (hu : X.A.units + 9 < cLine) : PSet X (rDset X.K X.w) := by
  intro pins s σ H o i v ov iv u Q I ro ri rv h
  obtain ⟨a, b, ep, es, k, rfl, rfl, hD, hk, hl, q⟩ := h
  obtain rfl : ov = Value.ref a := ro
  obtain rfl : iv = Value.ref b := ri
  obtain ⟨xs, he, hm, h1, h2⟩ := dct_h I hD
  refine wpAny_setItem_heap (hsz := h2) (room_in1 hu) (hk.nk I) hm fun h' hm' hs => ?_
  obtain ⟨ep', I'⟩ := dct_put hk.good (t' := s.toks + (nestedKind X.prog X.w).draws k) I hD.1 he rv h1 hl hm' hs
  exact ⟨_, I', q ep'⟩
end
end U

end
section
/-! Dicts with tuple keys: walked, and made by a comprehension. -/
namespace U
open PySem PySem.Spec PyProof.Rows L2 Evl
/-- the keys of a dict, in order -/
def ItKd (w : World) (a : Addr) (ep : Nat) (es : List Ent) : It :=
  ⟨fun i H => H a = some (DctO w a ep es) ∧ i < es.length, fun i H x H' => H' = H ∧ ∃ k b v, es[i]? = some (k, b, v) ∧ x = .ref b, fun i H => H a = some (DctO w a ep es) ∧ es.length ≤ i⟩
theorem Es.at_ : ∀ {es : List Ent} {xs : List (NK × Addr × Value)}, Es es xs → ∀ {i : Nat} {k : NK} {b : Addr} {v : V}, es[i]? = some (k, b, v) → ∃ u, xs[i]? = some (k, b, u) ∧ RelV v u
  | _, _, .nil, i, _, _, _, h => by simp at h
  | _, _, .cons r t, 0, _, _, _, h => by
    simp only [List.getElem?_cons_zero, Option.some.injEq, Prod.mk.injEq] at h
    obtain ⟨rfl, rfl, rfl⟩ := h
    exact ⟨_, rfl, r⟩
  | _, _, .cons r t, i + 1, _, _, _, h => by
    obtain ⟨u, h1, h2⟩ := t.at_ (i := i) (by simpa using h)
    exact ⟨u, by simpa using h1, h2⟩
section
variable {P : Program} {w : World} {K : Fg} {tg : Expr} {d : Addr} {ep : Nat} {es : List Ent}
theorem turn_dct (it : Addr) : L2.Turn P w K tg (ItKd w d ep es) [it] it (fun i h => h.IsKeyIter it d i es.length ep) where
  mem := by simp
  obj := fun i h st b hb => by
    have e : b = it := by simpa using hb
    subst e
    obtain ⟨oi, e, c, dd⟩ := st
    exact ⟨oi, e, fun v z => by rw [dd] at z; cases z⟩
  keep := fun i h h' st k => st.at fun oi e => k it (by simp) oi e
  item := by
    intro X hP hw hK hc i pins s σ H E I hf st hg
    subst hP hw hK
    obtain ⟨hd, hi⟩ := hg
    obtain ⟨f0, f1, f2, f3, f4, f5⟩ := hf it (by simp)
    obtain ⟨n1, n2, n3, o, ent, xs, ho, hx, hdt, he, hl⟩ := dct_at I hd
    obtain ⟨⟨k, b, v⟩, hkv⟩ : ∃ p, es[i]? = some p := ⟨es[i], List.getElem?_eq_getElem hi⟩
    obtain ⟨u, hu, _⟩ := he.at_ hkv
    have hsz : ent.size = es.length := by rw [← Array.length_toList, hl, List.length_map, he.len]
    have hen : ent[i]? = some ⟨k.hash X.w, .ref b, u⟩ := by rw [← Array.getElem?_toList, hl, List.getElem?_map, hu] <;> rfl
    refine next_key_item st ho hdt hsz hen fun h' st' sb => ?_
    have I1 : Inv X pins σ H { s with heap := h' } := I.turned (t' := s.toks) (fun b ob hb e => (sb.2 b hb).trans e) f0 f1 f3 f4 f5
    obtain ⟨oi, e, c, dd⟩ := id st'
    exact ⟨_, rfl, go_of (s := { s with heap := h' }) e c dd (by decide) ⟨.ref b, H, I1, rfl, ⟨rfl, k, b, v, hkv, rfl⟩, st', fun b hb => (hf b hb).1⟩⟩
  done := by
    intro X hP hw hK hc i pins s σ H E I hf st hg
    subst hP hw hK
    obtain ⟨hd, hi⟩ := hg
    obtain ⟨f0, f1, f2, f3, f4, f5⟩ := hf it (by simp)
    obtain ⟨n1, n2, n3, o, ent, xs, ho, hx, hdt, he, hl⟩ := dct_at I hd
    have hsz : ent.size = es.length := by rw [← Array.length_toList, hl, List.length_map, he.len]
    exact next_key_end (I.ok.hd hc) st ho hdt hsz hi fun h' eb => ⟨rfl, I.turned (t' := s.toks) (fun b ob hb e => eb b ob hb e) f0 f1 f3 f4 f5⟩
  self := fun A i s Q E st h => by
    refine wpAny_pyIter_slot st.typeIs F.slot_dict_keyiterator_iter (wpAny_call_entry F.slot_dict_keyiterator_iter st.typeIs F.entry_dict_keyiterator_iter ?_ (F.args_dict_keyiterator_iter_1 _))
    show wpAny _ _ (ret (.ref it)) _ _ s
    exact wpAny_pure ⟨_, rfl, "dict_keyiterator", _, st.typeIs, F.slot_dict_keyiterator_next.lookup, h⟩
end
/-- for k in d -/
def iDct (w : World) (td : TE) : TI := fun σ H R => td σ H fun x H1 => ∃ d ep es, x = .ref d ∧ H1 d = some (DctO w d ep es) ∧ R (ItKd w d ep es) H1
section
variable {X : Cx} {tg e : Expr} {td : TE}
theorem pi_dct (he : PE X e td) : PI X tg e (iDct X.w td) := by
  refine ⟨fun pins s σ H R I h => ?_⟩
  refine thn (he.run pins s σ H _ I h) fun u s1 ⟨x, H1, I1, rx, d, ep, es, ex, hd, q⟩ => ?_
  subst ex
  obtain rfl : u = Value.ref d := rx
  obtain ⟨n1, n2, n3, o, ent, xs, ho, hx, hdt, hee, hl⟩ := dct_at I1 hd
  have hsz : ent.size = es.length := by rw [← Array.length_toList, hl, List.length_map, hee.len]
  refine iter_keys n2 ho hx hdt (pi_one (tk := s1.toks) I1 _ (turn_dct _) ⟨_, Heap.get?_push_size _ rfl, rfl, ?_⟩ q)
  rw [hsz] <;> rfl
end
section
variable {X : Cx} {pins : List (Addr × Obj)} {σ : L2.St} {H : Hp} {s : Shared}
theorem dct_dset {E : Value → Shared → Prop} {D b : Addr} {ep : Nat} {es : List Ent} {k : NK} {v : V} {u r : Value} {Q : Unit → Shared → Prop} (hu : X.A.units + 9 < cLine) (I : Inv X pins σ H s) (hD : DctH X.K X.w H D ep es) (hk : KeyIs X.K H k b) (hz : es.length < sizeLine)
    (ry : RelV (.ref b) u) (rv : RelV v r) (h : ∀ ep' s', Inv X pins σ (upd H D (DctO X.w D ep' (putE es k b v))) s' → Q () s') : wpAny (model X.prog X.w) X.A (dictSet D u r) Q E s := by
  obtain rfl : u = Value.ref b := ry
  obtain ⟨xs, he, hm, h1, h2⟩ := dct_h I hD
  have hr : (nestedKind X.prog X.w).room X.A := by
    show X.A.units + 8 < cLine
    omega
  refine wpAny_dictSet_heap (hsz := h2) hr (hk.nk I) hm fun h' hm' hs => ?_
  obtain ⟨ep', I'⟩ := dct_put hk.good (t' := s.toks + (nestedKind X.prog X.w).draws k) I hD.1 he rv h1 hz hm' hs
  exact h ep' _ I'
end
section
variable {X : Cx}
/-- {k: v for target in iter if ..}, keys tuples: D the new dict (follows HandS.DictComp, whose keys are ints and texts) -/
def tDcd (K : Fg) (w : World) (wi : TI) (g : TG) (tt : TT) (tk tv : TE) (vs : List Nat) : TE := fun σ H Q => wi σ H fun J H1 => ∀ D, H1 D = none → ∃ W : Nat → Nat → Hp → Prop, (∃ m, W 0 m (upd H1 D (DctO w D 0 []))) ∧ ∀ i m H, W i m H →
  (J.stop i H ∧ Q (.ref D) H) ∨ (J.go i H ∧ ∃ Nx : Hp → Prop, (∀ H', Nx H' → ∃ m', m' < m ∧ W (i + 1) m' H') ∧ ∀ x H', J.yld i H x H' → g x (wipe σ vs) H' fun σ2 H2 => wipe σ2 vs = wipe σ vs ∧ tt σ2 H2 fun b H3 =>
    if b = true then tk σ2 H3 fun y H4 => tv σ2 H4 fun z H5 => ∃ b ep es k, y = .ref b ∧ DctH K w H5 D ep es ∧ KeyIs K H5 k b ∧ es.length < sizeLine ∧ ∀ ep', Nx (upd H5 D (DctO w D ep' (putE es k b z))) else Nx H3)
theorem dcd_core {pins : List (Addr × Obj)} {s : Shared} {σ : St} {H : Hp} {Q : VK} {kx vx tg iter : Expr} {ifs : List Expr} {scope : Scope} {own : List (Str × Nat)} {pos pos' : Pos} {wi : TI} {g : TG} {tt : TT} {tk tv : TE} {use : Option (Value → Sem Unit)} {Qf : Value → Shared → Prop}
    (hu : X.A.units + 9 < cLine) (hc : X.calm = true) (hN : X.N.Nodup) (I : Inv X pins σ H s) (hi : PI X tg iter wi) (ok : BlkOk X.N X.env.scope scope own)
    (hg : ∀ (s : Shared) (H : Hp) (C : Addr) (cl : List (Str × Addr)) (fp : List Addr), PG (X.blk s H scope (compEnvC scope cl C X.env) fp) tg g) (ht : ∀ (s : Shared) (H : Hp) (C : Addr) (cl : List (Str × Addr)) (fp : List Addr), PTs (X.blk s H scope (compEnvC scope cl C X.env) fp) ifs tt)
    (hk : ∀ (s : Shared) (H : Hp) (C : Addr) (cl : List (Str × Addr)) (fp : List Addr), PE (X.blk s H scope (compEnvC scope cl C X.env) fp) kx tk)
    (he : ∀ (s : Shared) (H : Hp) (C : Addr) (cl : List (Str × Addr)) (fp : List Addr), PE (X.blk s H scope (compEnvC scope cl C X.env) fp) vx tv) (hs : ∀ x, foldedSetIterable iter X.env x = pure x)
    (h : tDcd X.K X.w wi g tt tk tv (own.map (·.2)) σ H Q)
    (hRR : ∀ D C s' m H', Inv X pins σ H' s' → Q (.ref D) H' → s'.heap.Ns C m → FpOk X pins H' C → compPost (model X.prog X.w) X.A X.xe use Qf (.ref D) C (.ok .next) s') :
    wpAny (model X.prog X.w) X.A (comprehension (.DictComp kx vx [⟨tg, iter, ifs, 0⟩] scope pos) scope X.env pos' newDict false (eval iter X.env) use) Qf X.xe s := by
  have hfree : ∀ y ∈ scope.names, y.2 = .free → ∃ c, X.env.cells.lookup y.1 = some c := fun y hy e => by
    rcases ok.free y hy e with k | k
    · exact I.ok.has _ (.inl k)
    · exact I.ok.has _ (.inr k)
  refine wpAny_comprehension_free (use := use) rfl hs (closure_ok hfree) ok.kind (fun y hy e => by rw [ok.uniq y hy, e])
    (thn (hi.run pins s σ H _ I h) fun xv s1 hx => thn hx fun itv s2 h2 => ?_)
  obtain ⟨it, fp, tn, J, H2, e, I2, T, st2, f2, q⟩ := h2
  subst e
  refine wpAny_newObj_type (newEnv_comp ?_)
  generalize hD : s2.heap.objs.size = D
  have hDn : H2 D = none := I2.hok.fresh (Nat.le_of_eq hD)
  obtain ⟨W, ⟨m0, w0⟩, turn⟩ := q D hDn
  -- the new list
  generalize hs3 : ({ s2 with heap := s2.heap.push { cls := .type "dict", data := .dict #[] } } : Shared) = s3
  have I3 : Inv X pins σ (upd H2 D (DctO X.w D 0 [])) s3 := by
    rw [← hs3]
    refine I2.laid (t' := s2.toks) (fun b o e => Heap.get?_push_of_some _ e) (Nat.le_of_eq hD) ?_
    rw [← hD]
    exact dct_ok (dct_new s2.heap X.w I2.big)
  have h3 : s3.heap = s2.heap.push { cls := .type "dict", data := .dict #[] } := by rw [← hs3]
  have sz : ∀ b ∈ fp, b < s2.heap.objs.size := fun b hb => by
    obtain ⟨o, e, _⟩ := T.obj _ _ st2 b hb
    exact Heap.lt_size e
  have f3 : ∀ b ∈ fp, FpOk X pins (upd H2 D (DctO X.w D 0 [])) b ∧ b < s3.heap.objs.size := fun b hb => by
    have hlt := sz b hb
    refine ⟨⟨?_, (f2 b hb).2⟩, by rw [h3, Heap.size_push]; exact Nat.lt_succ_of_lt hlt⟩
    rw [upd_ne (by rw [← hD]; exact Nat.ne_of_lt hlt)]
    exact (f2 b hb).1
  have st3 : tn 0 s3.heap := T.keep _ _ _ st2 fun b _ o e => by rw [h3]; exact Heap.get?_push_of_some _ e
  have I4 := block_start I3 ok hN f3
  have pg := hg s3 (upd H2 D (DctO X.w D 0 [])) s3.heap.objs.size (cellsFrom (s3.heap.objs.size + 1) scope.names (cloFrom X.env.cells scope.names [])) fp
  have pt := ht s3 (upd H2 D (DctO X.w D 0 [])) s3.heap.objs.size (cellsFrom (s3.heap.objs.size + 1) scope.names (cloFrom X.env.cells scope.names [])) fp
  have pk := hk s3 (upd H2 D (DctO X.w D 0 [])) s3.heap.objs.size (cellsFrom (s3.heap.objs.size + 1) scope.names (cloFrom X.env.cells scope.names [])) fp
  have pe := he s3 (upd H2 D (DctO X.w D 0 [])) s3.heap.objs.size (cellsFrom (s3.heap.objs.size + 1) scope.names (cloFrom X.env.cells scope.names [])) fp
  show codeAny _ _ (.compStart (.DictComp kx vx [⟨tg, iter, ifs, 0⟩] scope pos) 0 (.ref it) (.ref D) (compEnvC scope (cellsFrom (s3.heap.objs.size + 1) scope.names (cloFrom X.env.cells scope.names [])) s3.heap.objs.size X.env)) (compPost (model X.prog X.w) X.A X.xe use Qf (.ref D) s3.heap.objs.size) { s3 with heap := pushCells (s3.heap.push { cls := .type "dict", data := .dict #[] }) scope.names }
  have nfp : ∀ b ∈ fp, (upd H2 D (DctO X.w D 0 [])) b = none := fun b hb => (f3 b hb).1.1
  generalize hce : compEnvC scope (cellsFrom (s3.heap.objs.size + 1) scope.names (cloFrom X.env.cells scope.names [])) s3.heap.objs.size X.env = ce at I4 pg pt pk pe ⊢
  have cL : ce.locals = s3.heap.objs.size := by subst hce; rfl
  generalize hH3 : upd H2 D (DctO X.w D 0 []) = H3 at I3 I4 pg pt pk pe w0 nfp f3
  generalize hs4 : ({ s3 with heap := pushCells (s3.heap.push { cls := .type "dict", data := .dict #[] }) scope.names } : Shared) = s4 at I4 ⊢
  have st4 : tn 0 s4.heap := T.keep _ _ _ st3 fun b _ o e => by rw [← hs4]; exact pushCells_keeps _ _ _ _ (Heap.get?_push_of_some _ e)
  have stat : ∀ {σ' : St} {H' : Hp} {s' : Shared}, Inv (X.blk s3 H3 scope ce fp) [] σ' H' s' → (∀ b ∈ fp, H' b = none) → ∀ b ∈ fp, FpOk (X.blk s3 H3 scope ce fp) [] H' b := fun {σ' H' s'} I' hn b hb =>
    ⟨hn b hb, (I'.ok.exf b hb).1, I'.ok.exfs b hb, .inl hb, fun x c e => (I'.ok.exf b hb).2 x c e, fun p hp => absurd (show p ∈ ([] : List (Addr × Obj)) ++ [] from hp) (by simp)⟩
  have loop : codeAny (model X.prog X.w) X.A (.compLoop (.DictComp kx vx [⟨tg, iter, ifs, 0⟩] scope pos) 0 (.ref it) (.ref D) ce) (compPost (model X.prog X.w) X.A X.xe use Qf (.ref D) s3.heap.objs.size) s4 := by
    refine compLoop_anyD (fun n s' => ∃ i H', Inv (X.blk s3 H3 scope ce fp) [] (wipe σ (own.map (·.2))) H' s' ∧ tn i s'.heap ∧ (∀ b ∈ fp, H' b = none) ∧ W i n H') ?_ m0 ⟨0, H3, I4, st4, nfp, w0⟩
    rintro n s5 ⟨i, H5, I5, st5, n5, w5⟩
    rcases turn i n H5 w5 with ⟨stop, qq⟩ | ⟨go, Nx, hNx, step⟩
    · have td := T.done (X.blk s3 H3 scope ce fp) rfl rfl rfl hc i [] s5 _ H5 (fun _ _ => False) I5 (stat I5 n5) st5 stop
      refine thnF td fun r s6 ⟨hr, I6⟩ => ?_
      subst hr
      -- back in the def's context
      have I7 : Inv X pins σ H5 s6 := I3.call' (ch := fp) I6.os I6.base I6.hok I6.bare fun b hb => ⟨(f3 b hb).1.2.2.2.1, (f3 b hb).1.2.1, (f3 b hb).1.2.2.2.2.1, (f3 b hb).1.2.2.2.2.2⟩
      have nC : H5 s3.heap.objs.size = none := by
        have z : H5 ce.locals = none := I6.free
        rw [cL] at z
        exact z
      obtain ⟨m, hn, _⟩ := I6.loc
      have hn : s6.heap.Ns ce.locals m := hn
      rw [cL] at hn
      exact hRR D s3.heap.objs.size s6 m H5 I7 qq hn (I3.fpOk (Nat.le_refl _) nC)
    · have ti := T.item (X.blk s3 H3 scope ce fp) rfl rfl rfl hc i [] s5 _ H5 (fun _ _ => False) I5 (stat I5 n5) st5 go
      refine thnF ti fun r s6 ⟨u, hr, h6⟩ => ?_
      subst hr
      refine thnF h6 fun _ s7 ⟨x, H7, I7, r7, y7, st7, n7⟩ => ?_
      have I7' := I7.pinned (stat I7 n7) (T.obj _ _ st7)
      refine thnF (pg.run _ s7 _ H7 x u _ I7' r7 (step x H7 y7)) fun _ s8 ⟨σ8, H8, I8, hw8, q8⟩ => ?_
      refine thnF (pt.run _ s8 σ8 H8 _ I8 q8) fun b s9 ⟨H9, I9, q9⟩ => ?_
      -- the turn's end
      have fin : ∀ {s' : Shared} {H' : Hp}, Inv (X.blk s3 H3 scope ce fp) ([] ++ pinsAt fp s7.heap) σ8 H' s' → Nx H' → ∃ m, m < n ∧ ∃ i H', Inv (X.blk s3 H3 scope ce fp) [] (wipe σ (own.map (·.2))) H' s' ∧ tn i s'.heap ∧ (∀ b ∈ fp, H' b = none) ∧ W i m H' := fun {s' H'} I' nx => by
        obtain ⟨m', hm, w'⟩ := hNx H' nx
        have pin' : ∀ b ∈ fp, ∀ o, s7.heap.get? b = some o → s'.heap.get? b = some o ∧ H' b = none := fun b hb o e =>
          let z := I'.pin (b, o) (List.mem_append_right _ (List.mem_append_right _ (mem_pinsAt hb e)))
          ⟨z.1, z.2.1⟩
        have hl : (wipe σ (own.map (·.2))).length = σ8.length := by rw [← hw8, wipe_length]
        refine ⟨m', hm, i + 1, H', (I'.unpinned (pins := [])).weak hl (fun j v e => ?_), T.keep _ _ _ st7 fun b hb o e => (pin' b hb o e).1, fun b hb => ?_, w'⟩
        · rw [← hw8] at e
          exact (wipe_some e).1
        · obtain ⟨o, e, _⟩ := T.obj _ _ st7 b hb
          exact (pin' b hb o e).2
      cases b with
      | false =>
        simp only [Bool.false_eq_true, if_false] at q9 ⊢
        exact fin I9 q9
      | true =>
        simp only [if_true] at q9 ⊢
        refine thnF (pk.run _ s9 σ8 H9 _ I9 q9) fun z s10 ⟨yk, H10, I10, r10, q10⟩ => ?_
        refine thnF (pe.run _ s10 σ8 H10 _ I10 q10) fun z2 s11 ⟨yv, H11, I11, r11, b, ep, es, k, ek, hD11, hk11, hz11, nx⟩ => ?_
        subst ek
        exact dct_dset (X := X.blk s3 H3 scope ce fp) hu I11 hD11 hk11 hz11 r10 r11 fun ep' s12 I12 => fin I12 (nx ep')
  exact codeAny_compStart_dict loop (T.self X.A 0 _ _ _ st4 loop)
/-- as a value -/
theorem pe_dcd {kx vx tg iter : Expr} {ifs : List Expr} {scope : Scope} {own : List (Str × Nat)} {pos : Pos} {wi : TI} {g : TG} {tt : TT} {tk tv : TE} (hu : X.A.units + 9 < cLine) (hc : X.calm = true) (hN : X.N.Nodup) (hi : PI X tg iter wi) (ok : BlkOk X.N X.env.scope scope own)
    (hg : ∀ (s : Shared) (H : Hp) (C : Addr) (cl : List (Str × Addr)) (fp : List Addr), PG (X.blk s H scope (compEnvC scope cl C X.env) fp) tg g) (ht : ∀ (s : Shared) (H : Hp) (C : Addr) (cl : List (Str × Addr)) (fp : List Addr), PTs (X.blk s H scope (compEnvC scope cl C X.env) fp) ifs tt)
    (hk : ∀ (s : Shared) (H : Hp) (C : Addr) (cl : List (Str × Addr)) (fp : List Addr), PE (X.blk s H scope (compEnvC scope cl C X.env) fp) kx tk)
    (he : ∀ (s : Shared) (H : Hp) (C : Addr) (cl : List (Str × Addr)) (fp : List Addr), PE (X.blk s H scope (compEnvC scope cl C X.env) fp) vx tv) (hs : ∀ x, foldedSetIterable iter X.env x = pure x := by intro _; rfl) :
    PE X (.DictComp kx vx [⟨tg, iter, ifs, 0⟩] scope pos) (tDcd X.K X.w wi g tt tk tv (own.map (·.2))) := by
  refine ⟨fun pins s σ H Q I h => ?_⟩
  rw [arm_eval_DictComp]
  refine dcd_core hu hc hN I hi ok hg ht hk he hs h fun D C s' m H' I' q hn f => ⟨m, hn, fun h'' sb => ?_⟩
  obtain ⟨f0, f1, f2, f3, f4, f5⟩ := f
  exact ⟨.ref D, H', I'.turned (t' := s'.toks) (fun b o hb e => (sb.2 b hb).trans e) f0 f1 f3 f4 f5, rfl, q⟩
end
end U

end
section
/-! sorted(xs) of data that compare, sorted(d) of a dict with such keys. -/
namespace U
open PySem PySem.Spec PyProof.Rows L2 Evl
/-- data in order -/
def srtD (xs : List PyData) : List PyData := xs.mergeSort (PySem.W.dataLe false id)
def SrtOk (xs : List PyData) : Prop := PySem.W.AllAlike xs ∧ PySem.W.Sortable xs ∧ ∀ x ∈ xs, x.depth ≤ 60
abbrev srtP (ps : List (V × PyData)) : List (V × PyData) := ps.mergeSort (PySem.W.dataLe false (·.2))
theorem srt_map (ps : List (V × PyData)) : (ps.mergeSort (PySem.W.dataLe false (·.2))).map (·.2) = srtD (ps.map (·.2)) := by
  unfold srtD
  exact List.map_mergeSort fun a _ b _ => rfl
theorem dpa_zip {K : Fg} {H : Hp} : ∀ {vs : List V} {xs : List PyData}, DpAll K H vs xs → ∃ ps : List (V × PyData), ps.map (·.1) = vs ∧ ps.map (·.2) = xs ∧ ∀ p ∈ ps, Dp K H p.1 p.2
  | _, _, .nil => ⟨[], rfl, rfl, fun _ h => nomatch h⟩
  | _, _, .cons (v := v) (d := x) a b => by
    obtain ⟨ps, h1, h2, h3⟩ := dpa_zip b
    refine ⟨(v, x) :: ps, by rw [List.map_cons, h1], by rw [List.map_cons, h2], fun p hp => ?_⟩
    rcases List.mem_cons.mp hp with rfl | hp
    · exact a
    · exact h3 p hp
theorem zip_dpa {K : Fg} {H : Hp} : ∀ {ps : List (V × PyData)}, (∀ p ∈ ps, Dp K H p.1 p.2) → DpAll K H (ps.map (·.1)) (ps.map (·.2))
  | [], _ => .nil
  | p :: ps, h => .cons (h p (List.mem_cons_self ..)) (zip_dpa fun q hq => h q (List.mem_cons_of_mem _ hq))
theorem vals_each : ∀ {ps : List (V × PyData)} {us : List Value}, Vals (ps.map (·.1)) us → PySem.W.EachIs (fun u p => RelV p.1 u) us ps
  | [], _, h => by cases h; exact .nil
  | p :: ps, _, h => by
    cases h with
    | cons a b => exact .cons a (vals_each b)
theorem each_vals : ∀ {ps : List (V × PyData)} {us : List Value}, PySem.W.EachIs (fun u p => RelV p.1 u) us ps → Vals (ps.map (·.1)) us
  | _, _, .nil => .nil
  | _, _, .cons a b => .cons a (each_vals b)
section
variable {X : Cx} {pins : List (Addr × Obj)} {σ : L2.St} {H : Hp} {s : Shared}
theorem each_reads (I : Inv X pins σ H s) : ∀ {ps : List (V × PyData)} {us : List Value}, (∀ p ∈ ps, Dp X.K H p.1 p.2) → PySem.W.EachIs (fun u p => RelV p.1 u) us ps → PySem.W.EachIs (fun u p => ∃ as, Reads s.heap u p.2 as) us ps
  | _, _, _, .nil => .nil
  | p :: ps, _, h, .cons a b => .cons (Dp.reads I _ _ _ (h p (List.mem_cons_self ..)) a) (each_reads I (fun q hq => h q (List.mem_cons_of_mem _ hq)) b)
/-- sorted(d) -/
def rSrtD (K : Fg) (w : World) : List V → Hp → VK → Prop := fun vs H Q => ∃ a ep es ps, vs = [.ref a] ∧ H a = some (DctO w a ep es) ∧ ps.map (·.1) = (es.map fun e => V.ref e.2.1) ∧ (∀ p ∈ ps, Dp K H p.1 p.2) ∧ SrtOk (ps.map (·.2)) ∧ ∀ l, H l = none → Q (.ref l) (upd H l (.lst ((srtP ps).map (·.1))))
theorem es_vals : ∀ {es : List Ent} {xs : List (NK × Addr × Value)}, Es es xs → Vals (es.map fun e => .ref e.2.1) (xs.map fun x => .ref x.2.1)
  | _, _, .nil => .nil
  | _, _, .cons r t => .cons rfl (es_vals t)
theorem cr_srtD (hc : X.calm = true) (hu : X.A.units + 64 < cLine) : CallR X (.builtin "sorted") (rSrtD X.K X.w) := by
  intro pins s σ H vs us Q I r h
  obtain ⟨d, ep, es, ps, rfl, hD, e1, hp, ⟨ok1, ok2, ok3⟩, q⟩ := h
  rw [Vals.ref1 r]
  obtain ⟨n1, n2, n3, o, ent, ks, ho, hx, hdt, he, hl⟩ := dct_at I hD
  have hsz : ent.size = ks.length := by rw [← Array.length_toList, hl, List.length_map]
  refine PySem.Calls.call_function_entry kind_sorted plain_sorted entry_sorted (args_sorted1 _) ?_
  unfold Builtin.«sorted»
  refine wpAny_bind (m := checkCount "sorted" 1 1 _) (wpAny_pure ?_)
  refine wpAny_bind (PySem.W.kdu_collect (A := X.A.in1) (kdl_raw n2 hx hdt) (I.ok.hd hc) ho (by rw [hsz, ← he.len]; exact n1) fun h' tk acc hk hacc => ?_)
  have el : acc.toList = ks.map fun x => .ref x.2.1 := by
    apply List.ext_getElem?
    intro j
    have hla : acc.toList.length = ks.length := by rw [Array.length_toList, hacc.1]; exact hsz
    rcases Nat.lt_or_ge j ks.length with hj | hj
    · have h1 : acc.toList[j]? = some acc.toList[j] := List.getElem?_eq_getElem (by omega)
      obtain ⟨en, hen, hv⟩ := hacc.2 j _ (by rw [← Array.getElem?_toList]; exact h1)
      rw [← Array.getElem?_toList, hl, List.getElem?_map, List.getElem?_eq_getElem hj] at hen
      rw [h1, hv, List.getElem?_map, List.getElem?_eq_getElem hj]
      cases hen
      rfl
    · rw [List.getElem?_eq_none (by omega), List.getElem?_eq_none (by rw [List.length_map]; omega)]
  have rv : Vals (ps.map (·.1)) acc.toList := by
    rw [e1, el]
    exact es_vals he
  have ev := vals_each rv
  have hL : ps.length ≤ sizeLine := by
    have z := congrArg List.length e1
    rw [List.length_map, List.length_map] at z
    omega
  have hla : acc.toList.length = ps.length := by rw [← rv.length, List.length_map]
  refine wpAny_bind (wpAny_newList ?_ (by rw [hla]; exact hL))
  have hoL : (h'.push { cls := .type "list", data := .seq acc.toList.toArray }).get? h'.objs.size = some (seqObj "list" acc.toList.toArray 0) := Heap.get?_push_size _ rfl
  have kp : ∀ b o, s.heap.get? b = some o → (h'.push { cls := .type "list", data := .seq acc.toList.toArray }).get? b = some o := fun b o e => Heap.get?_push_of_some _ (hk b o e)
  have I1 : Inv X pins σ H { s with heap := h'.push { cls := .type "list", data := .seq acc.toList.toArray }, toks := tk } := I.kept (t' := tk) kp
  have er : PySem.W.EachIs (fun u p => ∃ as, Reads (h'.push { cls := .type "list", data := .seq acc.toList.toArray }) u p.2 as ∧ h'.objs.size ∉ as) acc.toList ps := (each_reads I hp ev).mono fun u p ⟨as, r⟩ => ⟨as, PyProof.Rows.Reads.keeps kp r, fun z => by
    obtain ⟨o, e⟩ := PyProof.On.reads_mem_get r _ z
    exact absurd (Heap.lt_size (hk _ _ e)) (Nat.lt_irrefl _)⟩
  refine wpAny_bind (wpAny_holding (PySem.W.list_sort_data (A := X.A.in1) (enc := (·.2)) hoL ev er ok1 ok2 hL (fun p hp' => ?_) fun out ho' eo => ?_))
  · have := ok3 _ (List.mem_map.mpr ⟨p, hp', rfl⟩)
    have e : X.A.in1.units = X.A.units + 1 := rfl
    omega
  · obtain ⟨ep', he'⟩ := PyProof.Rows.sortedHeap_at (vs := acc.toList) (out := out.toArray) hoL
    have hps : ∀ p ∈ ps.mergeSort (PySem.W.dataLe false (·.2)), Dp X.K H p.1 p.2 := fun p h => hp p (List.mem_mergeSort.mp h)
    have hlen : ((ps.mergeSort (PySem.W.dataLe false (·.2))).map (·.1)).length ≤ sizeLine := by rw [List.length_map, List.length_mergeSort]; exact hL
    have I0 : Inv X pins σ H { s with heap := h', toks := tk } := I.kept (t' := tk) hk
    have kk : ∀ b o, h'.get? b = some o → (sortedHeap (h'.push { cls := .type "list", data := .seq acc.toList.toArray }) h'.objs.size acc.toList out.toArray).get? b = some o := fun b o e => by
      have hb := Heap.lt_size e
      rw [PyProof.Rows.sortedHeap_old (Nat.ne_of_lt hb) (by rw [Heap.size_push]; exact Nat.lt_succ_of_lt hb)]
      exact Heap.get?_push_of_some _ e
    refine wpAny_pure ⟨_, rfl, ?_⟩
    refine ⟨.ref h'.objs.size, upd H h'.objs.size (.lst ((ps.mergeSort (PySem.W.dataLe false (·.2))).map (·.1))), I0.laid (t' := tk) kk (Nat.le_refl _) ⟨hlen, out, ep', each_vals eo, he'⟩, rfl, q _ (I0.hok.fresh (Nat.le_refl _))⟩
/-- d.m(e, ..) -/
def tDM (w : World) (r : V → List V → Hp → VK → Prop) (to : TE) (t : TA) : TE := fun σ H Q => to σ H fun x H1 => (∃ a ep es, x = .ref a ∧ H1 a = some (DctO w a ep es)) ∧ t σ H1 fun xs H2 => r x xs H2 Q
theorem pe_dm {o e : Expr} {ess : List Expr} {to : TE} {t : TA} {name : Str} {apos cpos : Pos} {id : String} {r : V → List V → Hp → VK → Prop} (pa : PlainAttrs "dict") (slot : PySem.Slot "dict" name id) (hty : typeOf (.builtin id) = pure (.type "method_descriptor")) (hm : MtR X id r) (ho : PE X o to) (ha : PA X (e :: ess) t)
    (hbase : attributeBase o name X.env (eval o X.env) = eval o X.env := by rfl)
    (hfew : ((backTo cpos (starEach (e :: ess) X.env)).all (fun x => !x.1) && (backToKw cpos (keywordEach [] X.env)).all (fun x => x.1.isSome)
      && decide ((e :: ess).length + ([] : List Keyword).length + (if ([] : List Keyword).isEmpty then 0 else 1) < 30)) = true := by rfl)
    (hline : (apos.endLine == cpos.line) = true := by rfl) (hs : starEach (e :: ess) X.env = (false, eval e X.env) :: starEach ess X.env := by rfl) (hplain : (backTo cpos (starEach ess X.env)).any (·.1) = false := by rfl) :
    PE X (.Call (.Attribute o name apos) (e :: ess) [] cpos) (tDM X.w r to t) := by
  refine ⟨fun pins s σ H Q I h => ?_⟩
  refine wpAny_Call_method_late hbase hfew hline rfl (thn (ho.run pins s σ H _ I h) fun v s1 ⟨x, H1, I1, r1, ⟨a, ep, es, ex, hD⟩, q1⟩ => ?_)
  subst ex
  obtain rfl : v = Value.ref a := r1
  obtain ⟨n1, n2, n3, ob, ent, xs, hob, hx, hdt, he, hl⟩ := dct_at I1 hD
  refine ⟨"dict", id, pa, slot, hty, ⟨ob, hob, hx.1⟩, fun b q => by cases q; exact ⟨ob, hob, hx.2.1⟩, ?_⟩
  have hA := ha.run cpos pins s1 σ H1 _ I1 q1
  rw [hs] at hA ⊢
  refine Calls.callWith_builtin (by show (false || (backTo cpos (starEach ess X.env)).any (·.1)) = false; rw [hplain] <;> rfl) (Calls.evalArgs_plain ?_)
  exact thn hA fun us s2 ⟨vs, H2, I2, r2, q2⟩ => hm pins s2 σ H2 (.ref a) vs (.ref a) us Q I2 rfl r2 q2
end
end U

end
section
/-! Dicts of one's own, keys tuples; sorted. -/
namespace U.N
open PySem L2 Evl
abbrev Kvs := List (List PyData × PyData)
abbrev kk (k : List PyData) : NK := toKd (.tuple k)
def flK : Kvs → List PyData
  | [] => []
  | (k, v) :: r => .tuple k :: v :: flK r
def entOf : Kvs → List V → List Ent
  | (k, _) :: r, .ref b :: v :: vs => (kk k, b, v) :: entOf r vs
  | _, _ => []
/-- a dict of one's own -/
def od (w : World) (ep : Nat) (kvs : Kvs) : Own := ⟨flK kvs, fun a vs => DctO w a ep (entOf kvs vs)⟩
def lookK (kvs : Kvs) (k : List PyData) : Option PyData := (kvs.find? fun p => decide (kk p.1 = kk k)).map (·.2)
def putK (kvs : Kvs) (k : List PyData) (x : PyData) : Kvs := if (lookK kvs k).isSome then kvs.map (fun p => if kk p.1 = kk k then (p.1, x) else p) else kvs ++ [(k, x)]
section
variable {K : Fg} {M : Hp}
inductive KvR (K : Fg) (M : Hp) : Kvs → List V → List Ent → Prop
  | nil : KvR K M [] [] []
  | cons {k : List PyData} {x : PyData} {b : Addr} {v : V} {kvs : Kvs} {vs : List V} {es : List Ent} : Dp K M (.ref b) (.tuple k) → Dp K M v x → KvR K M kvs vs es → KvR K M ((k, x) :: kvs) (.ref b :: v :: vs) ((kk k, b, v) :: es)
theorem kvr_of : ∀ {kvs : Kvs} {vs : List V}, DpAll K M vs (flK kvs) → KvR K M kvs vs (entOf kvs vs)
  | [], _, h => by cases h; exact .nil
  | (k, x) :: kvs, _, h => by
    cases h with
    | cons a t =>
      cases t with
      | cons b t =>
        have ha := a
        cases a with
        | tup g u => exact .cons ha b (kvr_of t)
theorem KvR.dpa {kvs : Kvs} {vs : List V} {es : List Ent} (h : KvR K M kvs vs es) : DpAll K M vs (flK kvs) ∧ entOf kvs vs = es := by
  induction h with
  | nil => exact ⟨.nil, rfl⟩
  | cons a b t ih => exact ⟨.cons a (.cons b ih.1), by rw [entOf, ih.2]⟩
theorem KvR.keys {kvs : Kvs} {vs : List V} {es : List Ent} (h : KvR K M kvs vs es) : (∀ e ∈ es, KeyW K M e.1 e.2.1) ∧ DpAll K M (es.map fun e => .ref e.2.1) (kvs.map fun p => .tuple p.1) ∧ es.length = kvs.length := by
  induction h with
  | nil => exact ⟨(fun _ h => nomatch h), .nil, rfl⟩
  | cons a b t ih =>
    refine ⟨fun e he => ?_, .cons a ih.2.1, congrArg (· + 1) ih.2.2⟩
    rcases List.mem_cons.mp he with rfl | he
    · exact ⟨_, a, rfl⟩
    · exact ih.1 e he
theorem KvR.at_ {kvs : Kvs} {vs : List V} {es : List Ent} (h : KvR K M kvs vs es) : ∀ (i : Nat) (p : List PyData × PyData), kvs[i]? = some p → ∃ b v, es[i]? = some (kk p.1, b, v) ∧ Dp K M (.ref b) (.tuple p.1) ∧ Dp K M v p.2 := by
  induction h with
  | nil => intro i p h; simp at h
  | cons a b t ih =>
    intro i p hp
    cases i with
    | zero => simp only [List.getElem?_cons_zero, Option.some.injEq] at hp; subst hp; exact ⟨_, _, rfl, a, b⟩
    | succ i =>
      obtain ⟨b', v', h1, h2⟩ := ih i p (by simpa using hp)
      exact ⟨b', v', by simpa using h1, h2⟩
theorem KvR.find {kvs : Kvs} {vs : List V} {es : List Ent} (h : KvR K M kvs vs es) (k : List PyData) : (lookK kvs k = none ∧ findE es (kk k) = none) ∨ ∃ x v, lookK kvs k = some x ∧ findE es (kk k) = some v ∧ Dp K M v x := by
  induction h with
  | nil => exact .inl ⟨rfl, rfl⟩
  | @cons k' x b v kvs vs es a d t ih =>
    by_cases e : kk k' = kk k
    · refine .inr ⟨x, v, ?_, ?_, d⟩
      · unfold lookK; rw [List.find?_cons_of_pos (by simpa using e)]; rfl
      · unfold findE; rw [List.find?_cons_of_pos (by simpa using e)]; rfl
    · have e1 : lookK ((k', x) :: kvs) k = lookK kvs k := by unfold lookK; rw [List.find?_cons_of_neg (by simpa using e)]
      have e2 : findE ((kk k', b, v) :: es) (kk k) = findE es (kk k) := by unfold findE; rw [List.find?_cons_of_neg (by simpa using e)]
      rw [e1, e2]; exact ih
theorem KvR.mput {kvs : Kvs} {vs : List V} {es : List Ent} (h : KvR K M kvs vs es) {k : List PyData} {v : V} {x : PyData} (dv : Dp K M v x) : ∃ vs', KvR K M (kvs.map (fun p => if kk p.1 = kk k then (p.1, x) else p)) vs' (es.map (fun e => if e.1 = kk k then (e.1, e.2.1, v) else e)) := by
  induction h with
  | nil => exact ⟨[], .nil⟩
  | @cons k' x' b v' kvs vs es a d t ih =>
    obtain ⟨vs', ih⟩ := ih
    rw [List.map_cons, List.map_cons]
    by_cases e : kk k' = kk k
    · rw [if_pos e, if_pos e]; exact ⟨_, .cons a dv ih⟩
    · rw [if_neg e, if_neg e]; exact ⟨_, .cons a d ih⟩
theorem KvR.snoc {kvs : Kvs} {vs : List V} {es : List Ent} (h : KvR K M kvs vs es) {k : List PyData} {b : Addr} {v : V} {x : PyData} (db : Dp K M (.ref b) (.tuple k)) (dv : Dp K M v x) : ∃ vs', KvR K M (kvs ++ [(k, x)]) vs' (es ++ [(kk k, b, v)]) := by
  induction h with
  | nil => exact ⟨_, .cons db dv .nil⟩
  | cons a d t ih => obtain ⟨vs', ih⟩ := ih; exact ⟨_, .cons a d ih⟩
theorem KvR.put {kvs : Kvs} {vs : List V} {es : List Ent} (h : KvR K M kvs vs es) {k : List PyData} {b : Addr} {v : V} {x : PyData} (db : Dp K M (.ref b) (.tuple k)) (dv : Dp K M v x) : ∃ vs', KvR K M (putK kvs k x) vs' (putE es (kk k) b v) := by
  unfold putK putE
  rcases h.find k with ⟨e1, e2⟩ | ⟨x', v', e1, e2, _⟩
  · rw [e1, e2]; exact h.snoc db dv
  · rw [e1, e2]; exact h.mput dv
/-- k may be a key -/
def KG (k : List PyData) : Prop := KGood (kk k)
theorem kg_is {H : Hp} {b : Addr} {k : List PyData} (d : Dp K H (.ref b) (.tuple k)) (g : KG k) : KeyIs K H (kk k) b := ⟨_, d, toKd_good g, g.1⟩
theorem dct_hh {w : World} {H : Hp} {Z : Addr → Prop} {a : Addr} {ep : Nat} {kvs : Kvs} {vs : List V} (g : H a = some ((od w ep kvs).obj a vs)) (d : DpAll K (less H Z) vs (od w ep kvs).flat) : DctH K w H a ep (entOf kvs vs) := by
  refine ⟨g, fun e he => ?_⟩
  obtain ⟨x, h1, h2⟩ := (kvr_of d).keys.1 e he
  exact ⟨x, dp_mono less_ex h1, h2⟩
end
section
variable {K : Fg} {cs : Cs} {W : WX} {G G' G1 G2 : Gam} {ta tb tc te : TE} {t u : TT} {φ : PyData → Prop} {ε : Xw → Prop} {ψ : Bool → Prop} {α : List PyData → Prop} {ι : List PyData → Prop} {χ : Own → Prop} {Φ : Out → Prop} {tu : TS}
variable {Wd : Addr → Prop} {B : Option (Addr × Addr)} {ad : Nat → Addr} {H0 H H1 H2 : Hp} {σ : L2.St} {w : World} {ep : Nat} {kvs : Kvs} {i : Nat}
theorem ef_dct0 (p : χ (od w 0 [])) : EF K cs W (tDct0 w) G χ ε := fun Wd B ad H0 H σ S Q q _ a hn => q _ p a [] H S Xb.refl hn .nil
/-- a dict of one's own, or one that stays -/
def IsOd (G : Gam) (i : Nat) (w : World) (ep : Nat) (kvs : Kvs) : Prop := G[i]? = some (.ow (od w ep kvs)) ∨ G[i]? = some (.fz (od w ep kvs))
theorem isod_at (S : Sta K Wd B ad H0 H σ G) (hi : IsOd G i w ep kvs) : ∃ a vs, σ[i]? = some (some (.ref a)) ∧ H a = some ((od w ep kvs).obj a vs) ∧ DpAll K (less H (Zs Wd B ad G)) vs (od w ep kvs).flat := by
  rcases hi with hi | hi
  · obtain ⟨o, g1, rfl, vs, g3, g4⟩ := S.at_ i _ hi
    exact ⟨_, vs, g1, g3, g4⟩
  · obtain ⟨o, g1, a, vs, rfl, g3, g4⟩ := S.at_ i _ hi
    exact ⟨a, vs, g1, (less_some g3).2, g4⟩
theorem isod_same {σ' : L2.St} {H2 : Hp} {a : Addr} {vs : List V} (S : Sta K Wd B ad H0 H σ G) (S2 : Sta K Wd B ad H0 H2 σ G) (hi : IsOd G i w ep kvs) (g : σ[i]? = some (some (.ref a))) : ∃ vs, H2 a = some ((od w ep kvs).obj a vs) ∧ DpAll K (less H2 (Zs Wd B ad G)) vs (od w ep kvs).flat := by
  obtain ⟨a', vs, g1, g2, g3⟩ := isod_at S2 hi
  rw [g1] at g
  cases g
  exact ⟨vs, g2, g3⟩
theorem ew_dx (hi : IsOd G i w ep kvs) (h : EW K cs W tb G (fun y => ∃ k x, y = .tuple k ∧ KG k ∧ lookK kvs k = some x ∧ φ x) ε) : EW K cs W (tOp (rDx K w) (tVar i) tb) G φ ε := fun Wd B ad H0 H σ S Q q x => by
  obtain ⟨a, vs, g1, g2, g3⟩ := isod_at S hi
  refine ⟨_, g1, h Wd B ad H0 H σ S _ (fun y ⟨k, z, e, kg, hz, p⟩ v H2 S2 x2 d2 => ?_) x⟩
  subst e
  obtain ⟨vs, g4, g5⟩ := isod_same (σ' := σ) (vs := vs) S S2 hi g1
  have d2' := d2
  cases d2 with
  | @tup b us _ gb ub =>
    rcases (kvr_of g5).find k with ⟨e1, _⟩ | ⟨x', v', e1, e2, e3⟩
    · rw [hz] at e1; cases e1
    · rw [hz] at e1
      cases e1
      exact ⟨a, b, ep, _, kk k, v', rfl, rfl, dct_hh g4 g5, kg_is (dp_mono less_ex d2') kg, e2, q _ p _ H2 S2 x2 e3⟩
/-- d.get(k, x) -/
theorem ew_dget (hi : IsOd G i w ep kvs) (h : EW K cs W ta G (fun y => EW K cs W tb G (fun z => ∃ k, y = .tuple k ∧ KG k ∧ φ ((lookK kvs k).getD z)) ε) ε) : EW K cs W (tDM w (rDget K w) (tVar i) (tCons ta (tCons tb tNil))) G φ ε := fun Wd B ad H0 H σ S Q q x => by
  obtain ⟨a, vs, g1, g2, g3⟩ := isod_at S hi
  refine ⟨_, g1, ⟨a, ep, _, rfl, g2⟩, h Wd B ad H0 H σ S _ (fun y p v H2 S2 x2 d2 => p Wd B ad H0 H2 σ S2 _ (fun z ⟨k, e, kg, p'⟩ u H3 S3 x3 d3 => ?_) (x.go x2)) x⟩
  subst e
  obtain ⟨vs, g4, g5⟩ := isod_same (σ' := σ) (vs := vs) S S3 hi g1
  have d2' := dp_mono (Xb.lz x3) d2
  cases d2' with
  | @tup b us _ gb ub =>
    refine ⟨a, b, ep, _, kk k, u, rfl, rfl, dct_hh g4 g5, kg_is (dp_mono less_ex (.tup gb ub)) kg, ?_⟩
    rcases (kvr_of g5).find k with ⟨e1, e2⟩ | ⟨x', v', e1, e2, e3⟩
    · rw [e1] at p'
      rw [e2]
      exact q _ p' _ H3 S3 (x2.trans x3) d3
    · rw [e1] at p'
      rw [e2]
      exact q _ p' _ H3 S3 (x2.trans x3) e3
/-- d[k] = v -/
theorem sw_dset (hi : G[i]? = some (.ow (od w ep kvs))) (hl : kvs.length < 16000000) (h : EW K cs W te G (fun x => EW K cs W tb G (fun y => ∃ k, y = .tuple k ∧ KG k ∧ ∀ ep', Φ (.nx (G.set i (.ow (od w ep' (putK kvs k x)))))) (fun e => Φ (.ex e G))) (fun e => Φ (.ex e G))) : SW K cs W (tAsg te (gSub (tVar i) tb (rDset K w))) G Φ := fun Wd B ad H0 H σ D S q =>
  h Wd B ad H0 H σ S _ (fun x p v H1 S1 e1 d1 => by
    obtain ⟨o, g1, rfl, _⟩ := S1.at_ i _ hi
    refine ⟨_, g1, p Wd B ad H0 H1 σ S1 _ (fun y ⟨k, ek, kg, p⟩ u H2 S2 e2 d2 => ?_) ((post_xp q).go e1)⟩
    subst ek
    obtain ⟨_, _, _, us, g5, g6⟩ := S2.at_ i _ hi
    have d2' := d2
    cases d2 with
    | @tup b _ _ gb ub =>
      have kr := kvr_of g6
      obtain ⟨vs', kr'⟩ := kr.put d2' (dp_mono (Xb.lz e2) d1)
      obtain ⟨da, ee⟩ := kr'.dpa
      refine ⟨ad i, b, ep, _, kk k, rfl, rfl, dct_hh g5 g6, kg_is (dp_mono less_ex d2') kg, ?_, fun ep' => ?_⟩
      · rw [kr.keys.2.2]; exact Nat.lt_of_lt_of_le hl (by decide)
      · have S3 := S2.chg (c' := od w ep' (putK kvs k x)) hi da
        have k3 := q _ (p ep') ad _ σ S3 ((Xb.lz (e1.trans e2)).trans (chg_ex hi))
        have eo : (od w ep' (putK kvs k x)).obj (ad i) vs' = DctO w (ad i) ep' (putE (entOf kvs us) (kk k) b v) := by
          show DctO w (ad i) ep' (entOf (putK kvs k x) vs') = _
          rw [ee]
        rw [eo] at k3
        exact k3) (post_xp q)
theorem sw_freezeO {c : Own} (hi : G[i]? = some (.ow c)) (h : SW K cs W tu (G.set i (.fz c)) Φ) : SW K cs W tu G Φ := fun Wd B ad H0 H σ D S q =>
  h Wd B ad H0 H σ D (S.freezeO hi) fun o p => (q o p).mono (less_sub fun a z => Zs.set_of (fun _ z => by cases z) z)
/-- for k in d, a dict that stays -/
theorem iw_dct (hi : G[i]? = some (.fz (od w ep kvs))) (p : ι (kvs.map fun q => .tuple q.1)) : IW K cs W (iDct w (tVar i)) G ι ε := fun Wd B ad H0 H σ S R q x => by
  obtain ⟨o, g1, a, vs, rfl, g3, g4⟩ := S.at_ i _ hi
  have kr := kvr_of g4
  refine ⟨_, g1, a, ep, _, rfl, (less_some g3).2, q _ p _ H S Xb.refl fun H' Z hz e j => ?_⟩
  have g5 : H' a = some (DctO w a ep (entOf kvs vs)) := (less_some (e _ _ g3)).2
  have hl := kr.keys.2.2
  refine ⟨fun d hd => ⟨g5, ?_⟩, fun hn => ⟨g5, by rw [hl]; rw [List.length_map] at hn; exact hn⟩, fun y H'' hy => ?_⟩
  · have := (List.getElem?_eq_some_iff.mp hd).1
    rw [List.length_map] at this
    rw [hl]; exact this
  · obtain ⟨rfl, k, b, v, h1, rfl⟩ := hy
    refine ⟨Ex.refl _, fun d hd => ?_⟩
    rw [List.getElem?_map] at hd
    obtain ⟨p', hp', rfl⟩ := Option.map_eq_some_iff.mp hd
    obtain ⟨b', v', h2, h3, _⟩ := kr.at_ j p' hp'
    rw [h1] at h2
    cases h2
    exact dp_mono e h3
/-! ### sorted -/
theorem srt_dpa {M : Hp} {ps : List (V × PyData)} (h : ∀ p ∈ ps, Dp K M p.1 p.2) : DpAll K M ((srtP ps).map (·.1)) (srtD (ps.map (·.2))) := by
  rw [← srt_map]
  exact zip_dpa fun p hp => h p (List.mem_mergeSort.mp hp)
theorem ef_srtD (hi : IsOd G i w ep kvs) (ok : SrtOk (kvs.map fun q => .tuple q.1)) (p : χ (ol (srtD (kvs.map fun q => .tuple q.1)))) : EF K cs W (tCB (rSrtD K w) (tCons (tVar i) tNil)) G χ ε := fun Wd B ad H0 H σ S Q q x => by
  obtain ⟨a, vs, g1, g2, g3⟩ := isod_at S hi
  obtain ⟨_, kd, _⟩ := (kvr_of g3).keys
  obtain ⟨ps, k1, k2, k3⟩ := dpa_zip kd
  refine ⟨_, g1, a, ep, _, ps, rfl, g2, k1, fun p hp => dp_mono less_ex (k3 p hp), by rw [k2]; exact ok, fun l hn => ?_⟩
  have d := srt_dpa k3
  rw [k2] at d
  exact q _ p l _ H S Xb.refl hn d
theorem ew_srtD (hi : IsOd G i w ep kvs) (ok : SrtOk (kvs.map fun q => .tuple q.1)) (p : φ (.list (srtD (kvs.map fun q => .tuple q.1)))) : EW K cs W (tCB (rSrtD K w) (tCons (tVar i) tNil)) G φ ε := ew_ef (ef_srtD hi ok ⟨_, rfl, p⟩)
end
/-! ### a dict by a comprehension -/
def putO (m : Kvs) : Option (List PyData × PyData) → Kvs
  | none => m
  | some (k, z) => putK m k z
def putAll (os : List (Option (List PyData × PyData))) : Kvs := os.foldl putO []
theorem putK_len {m : Kvs} {k : List PyData} {z : PyData} : (putK m k z).length ≤ m.length + 1 := by
  unfold putK
  split
  · rw [List.length_map]; omega
  · rw [List.length_append]; exact Nat.le_refl _
theorem putAll_some {os : List (Option (List PyData × PyData))} {k : List PyData} {z : PyData} : putAll (os ++ [some (k, z)]) = putK (putAll os) k z := by unfold putAll; rw [List.foldl_append]; rfl
theorem putAll_none {os : List (Option (List PyData × PyData))} : putAll (os ++ [none]) = putAll os := by unfold putAll; rw [List.foldl_append]; rfl
theorem putAll_len (os : List (Option (List PyData × PyData))) : (putAll os).length ≤ os.length := by
  have key : ∀ (os : List (Option (List PyData × PyData))) (m : Kvs), (os.foldl putO m).length ≤ m.length + os.length := fun os => by
    induction os with
    | nil => intro m; exact Nat.le_refl _
    | cons o os ih =>
      intro m
      rw [List.foldl_cons, List.length_cons]
      have := ih (putO m o)
      have h2 : (putO m o).length ≤ m.length + 1 := by
        cases o with
        | none => exact Nat.le_succ _
        | some p => exact putK_len
      omega
  have := key os []
  unfold putAll
  simpa using this
section
variable {K : Fg} {cs : Cs} {W : WX} {G : Gam} {tk tv : TE} {ε : Xw → Prop} {χ : Own → Prop} {wi : TI} {g : TG} {tt : TT} {vs : List Nat} {w : World}
def DcI (K : Fg) (cs : Cs) (W : WX) (w : World) (g : TG) (tt : TT) (tk tv : TE) (vs : List Nat) (G : Gam) (χ : Own → Prop) (ds : List PyData) : Prop :=
  ds.length ≤ 16000000 ∧ Unk vs G ∧ ∃ R : Nat → Option (List PyData × PyData) → Prop, (∀ i x, ds[i]? = some x → GC K g vs G x (fun Gt => TW K cs W tt Gt (fun b => Cnd b (EW K cs W tk Gt (fun y => EW K cs W tv Gt (fun z => ∃ k, y = .tuple k ∧ KG k ∧ R i (some (k, z))) noX) noX) (R i none)) noX)) ∧ ∀ os ep, Each R ds.length os → χ (od w ep (putAll os))
theorem ef_dc (h : IW K cs W wi G (DcI K cs W w g tt tk tv vs G χ) ε) : EF K cs W (tDcd K w wi g tt tk tv vs) G χ ε := fun Wd B ad H0 H σ S Q q x =>
  h Wd B ad H0 H σ S _ (fun ds ⟨hz, hu, R, hs, hd⟩ J H1 S1 e1 ok Dl hD => by
    have hgu : ∀ i c, i ∈ vs → G[i]? ≠ some (.ow c) := fun i c hi g => by cases hu i _ hi g
    obtain ⟨L0, el0⟩ := S1.lend (o := DctO w Dl 0 []) hD
    have fr := S1.fresh hD
    refine ⟨fun i m H' => m = ds.length - i ∧ i ≤ ds.length ∧ Sta K (fun a => Wd a ∨ a = Dl) B ad H0 H' σ G ∧ Ex (less H1 (Zs Wd B ad G)) (less H' (Zs (fun a => Wd a ∨ a = Dl) B ad G)) ∧ Xb B H1 H' ∧
      ∃ os ep acc, Each R i os ∧ H' Dl = some ((od w ep (putAll os)).obj Dl acc) ∧ DpAll K (less H' (Zs (fun a => Wd a ∨ a = Dl) B ad G)) acc (flK (putAll os)), ⟨ds.length, rfl, Nat.zero_le _, L0, by rw [el0]; exact Ex.refl _, .of (Ex.new hD), [], 0, [], each_nil, upd_same, .nil⟩, ?_⟩
    rintro i m H' ⟨rfl, hi, S', e', xb, os, ep, acc, ha2, ha, hda⟩
    obtain ⟨k1, k2, k3⟩ := ok H' (Zs (fun a => Wd a ∨ a = Dl) B ad G) S'.there e' i
    by_cases hlt : i < ds.length
    · have hx : ds[i]? = some ds[i] := List.getElem?_eq_getElem hlt
      refine .inr ⟨k1 _ hx, fun H3 => Sta K (fun a => Wd a ∨ a = Dl) B ad H0 H3 σ G ∧ Ex (less H1 (Zs Wd B ad G)) (less H3 (Zs (fun a => Wd a ∨ a = Dl) B ad G)) ∧ Xb B H1 H3 ∧
        ∃ os ep acc, Each R (i + 1) os ∧ H3 Dl = some ((od w ep (putAll os)).obj Dl acc) ∧ DpAll K (less H3 (Zs (fun a => Wd a ∨ a = Dl) B ad G)) acc (flK (putAll os)), fun H3 h3 => ⟨ds.length - (i + 1), by omega, rfl, hlt, h3⟩, fun v H'' hyl => ?_⟩
      obtain ⟨ex, dx⟩ := k3 v H'' hyl
      have S2 := (S'.ext ex).slots (σ' := wipe σ vs) (G' := G) (vs := vs) rfl (fun _ _ => rfl) hu hgu wipe_wipe.symm
      refine hs i _ hx _ B ad H0 H'' _ v S2 (dx _ hx) _ fun Gt σ2 hte hl ho hw S3 e3 ew => ⟨by rw [ew, wipe_wipe], ?_⟩
      have own : ∀ (i : Nat) (c : Own), Gt[i]? = some (En.ow c) ↔ G[i]? = some (En.ow c) := fun i c => by
        by_cases hi : i ∈ vs
        · exact ⟨fun g => hw i c hi g, fun g => absurd g (hgu i c hi)⟩
        · rw [ho i hi]
      have eZ : Zs (fun a => Wd a ∨ a = Dl) B ad Gt = Zs (fun a => Wd a ∨ a = Dl) B ad G := zs_same own
      have back : ∀ {H5 : Hp}, Sta K (fun a => Wd a ∨ a = Dl) B ad H0 H5 σ2 Gt → Sta K (fun a => Wd a ∨ a = Dl) B ad H0 H5 σ G := fun {H5} S5 =>
        S5.slots (G' := G) (vs := vs) hl.symm (fun i hi => (ho i hi).symm) hu (fun i c hi g => hgu i c hi (hw i c hi g)) (by rw [ew, wipe_wipe])
      have hB : ¬ InB B Dl := fr.2.1
      have ha3 : H'' Dl = some ((od w ep (putAll os)).obj Dl acc) := ex _ _ ha
      have al : (entOf (putAll os) acc).length < sizeLine := by
        have h1 := (kvr_of hda).keys.2.2
        have h2 := putAll_len os
        have h3 := ha2.1
        exact Nat.lt_of_lt_of_le (show (entOf (putAll os) acc).length < 16777216 by omega) (by decide)
      refine hte _ B ad H0 H'' σ2 S3 _ (fun b p H3 S4 e4 => ?_) xp_no
      have e4' : Ex (less H'' (Zs (fun a => Wd a ∨ a = Dl) B ad G)) (less H3 (Zs (fun a => Wd a ∨ a = Dl) B ad G)) := by
        have := Xb.lz (W := fun a => Wd a ∨ a = Dl) (ad := ad) (G := G) e4
        exact this
      have e5 : Ex (less H' (Zs (fun a => Wd a ∨ a = Dl) B ad G)) (less H3 (Zs (fun a => Wd a ∨ a = Dl) B ad G)) := (less_mono ex).trans e4'
      cases b with
      | false =>
        refine iteF ⟨back S4, e'.trans e5, (xb.trans (.of ex)).trans e4, os ++ [none], ep, acc, ?_, ?_, ?_⟩
        · exact ha2.snoc (p.2 rfl)
        · rw [putAll_none]; exact e4 _ _ ha3 hB
        · rw [putAll_none]; exact dpa_mono e5 hda
      | true =>
        refine iteT ?_
        refine p.1 rfl _ B ad H0 H3 σ2 S4 _ (fun y py u H4 S5 e6 du => ?_) xp_no
        refine py _ B ad H0 H4 σ2 S5 _ (fun z ⟨k, ek, kg, pz⟩ u2 H5 S5' e7 du2 => ?_) xp_no
        subst ek
        rw [eZ] at du du2
        have S6 := back S5'
        have e6' := Xb.lz (W := fun a => Wd a ∨ a = Dl) (ad := ad) (G := G) e6
        have e7' := Xb.lz (W := fun a => Wd a ∨ a = Dl) (ad := ad) (G := G) e7
        have hd5 := dpa_mono (e5.trans (e6'.trans e7')) hda
        have g5 : H5 Dl = some ((od w ep (putAll os)).obj Dl acc) := e7 _ _ (e6 _ _ (e4 _ _ ha3 hB) hB) hB
        have dk := dp_mono e7' du
        have dk' := dk
        cases dk with
        | @tup b _ _ gb ub =>
          obtain ⟨acc', kr'⟩ := (kvr_of hd5).put dk' du2
          obtain ⟨da, ee⟩ := kr'.dpa
          refine ⟨b, ep, _, kk k, rfl, dct_hh g5 hd5, kg_is (dp_mono less_ex dk') kg, al, fun ep' => ?_⟩
          obtain ⟨S7, el7⟩ := S6.foreign (o := DctO w Dl ep' (putE (entOf (putAll os) acc) (kk k) b u2)) (p := Dl) (.inr rfl) fr.1 hB
          refine ⟨S7, ?_, ?_, os ++ [some (k, z)], ep', acc', ?_, ?_, ?_⟩
          · rw [el7]
            exact e'.trans (e5.trans (e6'.trans e7'))
          · intro a o g n
            have na : a ≠ Dl := ne_of_none g hD
            rw [upd_ne na]
            exact (((((xb.trans (.of ex)).trans e4).trans e6).trans e7) a o g n)
          · exact ha2.snoc pz
          · rw [upd_same, putAll_some]
            show _ = some (DctO w Dl ep' (entOf _ acc'))
            rw [ee]
          · rw [el7, putAll_some]
            exact da
    · have en : i = ds.length := by omega
      subst en
      obtain ⟨S5, e5⟩ := S'.back
      obtain ⟨S6, x6, n6, l6⟩ := fl_go S1 xb S'.bag hD ha
      refine .inl ⟨k2 (Nat.le_refl _), ?_⟩
      have k := q _ (hd os ep ha2) Dl acc _ S6 (e1.trans x6) n6 (by rw [l6, ← zs_lend]; exact hda)
      have k2 : Q (.ref Dl) (upd (less H' fun b => b = Dl) Dl ((od w ep (putAll os)).obj Dl acc)) := k
      rw [fl_upd ha] at k2
      exact k2) x
/-- each turn known -/
theorem dcM {β : Type} {xs : List β} {f : β → PyData} (hk : β → List PyData) (hv : β → PyData) (hz : xs.length ≤ 16000000) (hu : Unk vs G) (hs : ∀ x, x ∈ xs → GC K g vs G (f x) (fun Gt => EW K cs W tk Gt (fun y => EW K cs W tv Gt (fun z => y = .tuple (hk x) ∧ KG (hk x) ∧ z = hv x) noX) noX)) (p : ∀ ep, χ (od w ep (putAll (xs.map fun x => some (hk x, hv x))))) : DcI K cs W w g tYes tk tv vs G χ (xs.map f) := by
  refine ⟨by rw [List.length_map]; exact hz, hu, fun i o => ∀ x, xs[i]? = some x → o = some (hk x, hv x), fun i y hy => ?_, fun os ep ha => ?_⟩
  · obtain ⟨x, hx, rfl, hm⟩ := map_at hy
    refine gc_mono (hs x hm) fun Gt h => tw_yes (cnd_t (ew_mono h fun y h => ew_mono h fun z ⟨e1, e2, e3⟩ => ⟨_, e1, e2, fun x' hx' => ?_⟩))
    rw [hx] at hx'
    cases hx'
    rw [e3]
  · have e : os = xs.map fun x => some (hk x, hv x) := by
      obtain ⟨h1, h2⟩ := ha
      rw [List.length_map] at h1
      apply List.ext_getElem?
      intro i
      rcases Nat.lt_or_ge i xs.length with hl | hl
      · rw [List.getElem?_map, List.getElem?_eq_getElem hl, List.getElem?_eq_getElem (by omega : i < os.length)]
        exact congrArg some (h2 i _ (List.getElem?_eq_getElem (by omega)) _ (List.getElem?_eq_getElem hl))
      · rw [List.getElem?_eq_none (by omega), List.getElem?_eq_none (by rw [List.length_map]; exact hl)]
    rw [e]; exact p ep
end
end U.N

end
section
/-! The order of spots; dicts by keys of a type. -/
namespace U
open PySem PyProof.Rows L2 Evl
abbrev Spot := List Fr
def sLt : Spot → Spot → Prop
  | [], [] => False
  | [], _ :: _ => True
  | _ :: _, [] => False
  | f :: s, g :: t => val f < val g ∨ (val f = val g ∧ sLt s t)
theorem sLt_irr : ∀ s : Spot, ¬ sLt s s
  | [] => id
  | f :: s => fun h => h.elim (Rat.lt_irrefl) fun h => sLt_irr s h.2
theorem sLt_asy : ∀ s t : Spot, sLt s t → ¬ sLt t s
  | [], [] => fun h => h.elim
  | [], _ :: _ => fun _ h => h
  | _ :: _, [] => fun h => h.elim
  | f :: s, g :: t => fun h h' => by
    rcases h with h | ⟨e, h⟩
    · rcases h' with h' | ⟨e', h'⟩
      · exact absurd h' (Rat.not_lt.mpr (Rat.le_of_lt h))
      · rw [e'] at h; exact Rat.lt_irrefl h
    · rcases h' with h' | ⟨e', h'⟩
      · rw [e] at h'; exact Rat.lt_irrefl h'
      · exact sLt_asy s t h h'
/-- a spot whose numbers below divide c -/
structure SpC (c : Int) (s : Spot) : Prop where
  gd : ∃ a, ∀ f ∈ s, Gd a f
  dv : ∀ f ∈ s, f.2 ∣ c
theorem SpC.tl {c : Int} {f : Fr} {s : Spot} (h : SpC c (f :: s)) : SpC c s := ⟨h.gd.imp fun a g x hx => g x (List.mem_cons_of_mem _ hx), fun x hx => h.dv x (List.mem_cons_of_mem _ hx)⟩
theorem SpC.hd {c : Int} {f : Fr} {s : Spot} (h : SpC c (f :: s)) : (∃ a, Gd a f) ∧ f.2 ∣ c := ⟨h.gd.imp fun a g => g f (List.mem_cons_self ..), h.dv f (List.mem_cons_self ..)⟩
abbrev ky (c : Int) (s : Spot) : List Int := s.map (kyF c)
theorem ky_slt {c : Int} (hc : 0 < c) : ∀ {s t : Spot}, SpC c s → SpC c t → (ky c s < ky c t ↔ sLt s t)
  | [], [], _, _ => by simp [ky, sLt]
  | [], _ :: _, _, _ => by simp [ky, sLt]
  | _ :: _, [], _, _ => by simp [ky, sLt]
  | f :: s, g :: t, h1, h2 => by
    obtain ⟨⟨a, g1⟩, d1⟩ := h1.hd
    obtain ⟨⟨b, g2⟩, d2⟩ := h2.hd
    show (kyF c f :: ky c s) < (kyF c g :: ky c t) ↔ _
    rw [List.cons_lt_cons_iff, ky_lt hc g1.pos g2.pos d1 d2, ky_eq hc g1.pos g2.pos d1 d2, ky_slt hc h1.tl h2.tl]
    rfl
theorem ky_inj {c : Int} (hc : 0 < c) : ∀ {s t : Spot}, SpC c s → SpC c t → ky c s = ky c t → s = t
  | [], [], _, _, _ => rfl
  | [], _ :: _, _, _, h => by cases h
  | _ :: _, [], _, _, h => by cases h
  | f :: s, g :: t, h1, h2, h => by
    obtain ⟨⟨a, g1⟩, d1⟩ := h1.hd
    obtain ⟨⟨b, g2⟩, d2⟩ := h2.hd
    have h : kyF c f :: ky c s = kyF c g :: ky c t := h
    injection h with e1 e2
    rw [gd_inj g1 g2 ((ky_eq hc g1.pos g2.pos d1 d2).mp e1), ky_inj hc h1.tl h2.tl e2]
/-- in order, each once -/
def Rising (ss ys : List Spot) : Prop := ys.Pairwise sLt ∧ ∀ s, s ∈ ys ↔ s ∈ ss
theorem pw_uniq {α : Type} {R : α → α → Prop} (irr : ∀ x, ¬ R x x) (asy : ∀ x y, R x y → ¬ R y x) : ∀ {l m : List α}, l.Pairwise R → m.Pairwise R → (∀ x, x ∈ l ↔ x ∈ m) → l = m
  | [], [], _, _, _ => rfl
  | [], y :: m, _, _, h => absurd ((h y).mpr (List.mem_cons_self ..)) (by simp)
  | x :: l, [], _, _, h => absurd ((h x).mp (List.mem_cons_self ..)) (by simp)
  | x :: l, y :: m, h1, h2, h => by
    rw [List.pairwise_cons] at h1 h2
    have e : x = y := by
      rcases List.mem_cons.mp ((h x).mp (List.mem_cons_self ..)) with e | hx
      · exact e
      · rcases List.mem_cons.mp ((h y).mpr (List.mem_cons_self ..)) with e | hy
        · exact e.symm
        · exact absurd (h2.1 x hx) (asy _ _ (h1.1 y hy))
    subst e
    rw [pw_uniq irr asy h1.2 h2.2 fun z => ⟨fun hz => ?_, fun hz => ?_⟩]
    · rcases List.mem_cons.mp ((h z).mp (List.mem_cons_of_mem _ hz)) with rfl | hz'
      · exact absurd (h1.1 z hz) (irr z)
      · exact hz'
    · rcases List.mem_cons.mp ((h z).mpr (List.mem_cons_of_mem _ hz)) with rfl | hz'
      · exact absurd (h2.1 z hz) (irr z)
      · exact hz'
theorem rising_uniq {ss ys zs : List Spot} (h1 : Rising ss ys) (h2 : Rising ss zs) : ys = zs := pw_uniq sLt_irr sLt_asy h1.1 h2.1 fun s => (h1.2 s).trans (h2.2 s).symm
/-! ### dicts by typed keys -/
namespace N
section
variable {κ β : Type} [DecidableEq κ] {ek : κ → List PyData} {ev : β → PyData}
def aget (m : List (κ × β)) (k : κ) : Option β := (m.find? fun p => decide (p.1 = k)).map (·.2)
def aput (m : List (κ × β)) (k : κ) (v : β) : List (κ × β) := if (aget m k).isSome then m.map (fun p => if p.1 = k then (p.1, v) else p) else m ++ [(k, v)]
def encM (ek : κ → List PyData) (ev : β → PyData) (m : List (κ × β)) : Kvs := m.map fun p => (ek p.1, ev p.2)
theorem look_enc (inj : ∀ a b, kk (ek a) = kk (ek b) → a = b) (m : List (κ × β)) (k : κ) : lookK (encM ek ev m) (ek k) = (aget m k).map ev := by
  unfold lookK aget encM
  induction m with
  | nil => rfl
  | cons p m ih =>
    rw [List.map_cons]
    by_cases e : p.1 = k
    · rw [List.find?_cons_of_pos (by simp [e]), List.find?_cons_of_pos (by simp [e])]; rfl
    · rw [List.find?_cons_of_neg (by simpa using fun z => e (inj _ _ z)), List.find?_cons_of_neg (by simpa using e)]
      exact ih
theorem put_enc (inj : ∀ a b, kk (ek a) = kk (ek b) → a = b) (m : List (κ × β)) (k : κ) (v : β) : putK (encM ek ev m) (ek k) (ev v) = encM ek ev (aput m k v) := by
  unfold putK aput
  rw [look_enc inj, Option.isSome_map]
  split
  · unfold encM
    rw [List.map_map, List.map_map]
    refine List.map_congr_left fun p _ => ?_
    show (if kk (ek p.1) = kk (ek k) then _ else _) = _
    by_cases e : p.1 = k
    · rw [if_pos (by rw [e])]
      show _ = (fun p : κ × β => (ek p.1, ev p.2)) (if p.1 = k then (p.1, v) else p)
      rw [if_pos e]
    · rw [if_neg (fun z => e (inj _ _ z))]
      show _ = (fun p : κ × β => (ek p.1, ev p.2)) (if p.1 = k then (p.1, v) else p)
      rw [if_neg e]
  · unfold encM; rw [List.map_append]; rfl
theorem aget_none {m : List (κ × β)} {k : κ} : aget m k = none ↔ ∀ p ∈ m, p.1 ≠ k := by
  unfold aget
  rw [Option.map_eq_none_iff, List.find?_eq_none]
  simp
theorem aget_mem {m : List (κ × β)} {k : κ} {v : β} (h : aget m k = some v) : (k, v) ∈ m := by
  unfold aget at h
  obtain ⟨p, h1, rfl⟩ := Option.map_eq_some_iff.mp h
  have h2 := List.find?_some h1
  have h3 := List.mem_of_find?_eq_some h1
  have : p.1 = k := by simpa using h2
  rw [← this]; exact h3
theorem aget_aput {m : List (κ × β)} {k j : κ} {v : β} : aget (aput m k v) j = if j = k then some v else aget m j := by
  unfold aput
  split
  · rename_i hs
    induction m with
    | nil => cases hs
    | cons p m ih =>
      have step : ∀ (q : κ × β) (l : List (κ × β)), aget (q :: l) j = if q.1 = j then some q.2 else aget l j := fun q l => by
        unfold aget
        by_cases e : q.1 = j
        · rw [if_pos e, List.find?_cons_of_pos (by simpa using e)]; rfl
        · rw [if_neg e, List.find?_cons_of_neg (by simpa using e)]
      have stepk : ∀ (q : κ × β) (l : List (κ × β)), aget (q :: l) k = if q.1 = k then some q.2 else aget l k := fun q l => by
        unfold aget
        by_cases e : q.1 = k
        · rw [if_pos e, List.find?_cons_of_pos (by simpa using e)]; rfl
        · rw [if_neg e, List.find?_cons_of_neg (by simpa using e)]
      rw [List.map_cons, step, step]
      by_cases e : p.1 = k
      · rw [if_pos e]
        show (if p.1 = j then some v else _) = _
        by_cases ej : j = k
        · rw [if_pos (by rw [e, ej]), if_pos ej]
        · rw [if_neg (by rw [e]; exact fun z => ej z.symm), if_neg ej, if_neg (by rw [e]; exact fun z => ej z.symm)]
          by_cases hm : (aget m k).isSome = true
          · rw [ih hm, if_neg ej]
          · have hn : ∀ q ∈ m, q.1 ≠ k := aget_none.mp (by cases h : aget m k with | none => rfl | some v => rw [h] at hm; exact absurd rfl hm)
            have : (m.map fun p => if p.1 = k then (p.1, v) else p) = m := by
              conv => rhs; rw [← List.map_id m]
              exact List.map_congr_left fun q hq => if_neg (hn q hq)
            rw [this]
      · rw [if_neg e]
        rw [stepk, if_neg e] at hs
        rw [ih hs]
        by_cases ej : j = k
        · rw [if_pos ej, if_pos ej]
          rw [if_neg (by rw [ej]; exact e)]
        · rw [if_neg ej, if_neg ej]
  · rename_i hs
    have hn : ∀ q ∈ m, q.1 ≠ k := aget_none.mp (by cases h : aget m k with | none => rfl | some v => rw [h] at hs; exact absurd rfl hs)
    unfold aget
    rw [List.find?_append]
    by_cases ej : j = k
    · subst ej
      rw [if_pos rfl, List.find?_eq_none.mpr (by simpa using hn)]
      simp
    · rw [if_neg ej]
      have : [(k, v)].find? (fun p => decide (p.1 = j)) = none := by
        rw [List.find?_eq_none]
        intro p hp
        rw [List.mem_singleton.mp hp]
        simpa using fun z => ej z.symm
      rw [this, Option.or_none]
theorem aput_keys {m : List (κ × β)} {k : κ} {v : β} (h : (m.map (·.1)).Nodup) : ((aput m k v).map (·.1)).Nodup := by
  unfold aput
  split
  · rw [List.map_map]
    have : (m.map ((·.1) ∘ fun p : κ × β => if p.1 = k then (p.1, v) else p)) = m.map (·.1) := List.map_congr_left fun p _ => by
      show (if p.1 = k then (p.1, v) else p).1 = p.1
      split <;> rfl
    rw [this]; exact h
  · rename_i hs
    have hn : ∀ q ∈ m, q.1 ≠ k := aget_none.mp (by cases h : aget m k with | none => rfl | some v => rw [h] at hs; exact absurd rfl hs)
    rw [List.map_append, List.nodup_append]
    refine ⟨h, by simp, fun a ha b hb => ?_⟩
    obtain ⟨q, hq, rfl⟩ := List.mem_map.mp ha
    have : b = k := by simpa using hb
    rw [this]; exact hn q hq
end
end N
end U

end
section
/-! x in a list or a tuple of data of any depth. -/
namespace U
open PySem PySem.Spec PyProof.Rows L2 Evl
theorem u9 {n : Nat} (h : n + 64 < cLine) : n + 9 < cLine := by omega
section
variable {X : Cx}
end
end U

end
section
/-! Keys that are whole numbers; sorted rows of whole numbers; forms for the walking tactic. -/
namespace U.N
open PySem L2 Evl
abbrev inz (a : List Int) : List PyData := a.map PyData.int
theorem toKs_ints : ∀ a : List Int, toKs (inz a) = some (a.map NestedKey.num)
  | [] => rfl
  | x :: a => by
    show ((toK (.int x)).bind fun k => (toKs (inz a)).map (k :: ·)) = _
    rw [toKs_ints a]
    rfl
theorem kk_ints (a : List Int) : kk (inz a) = .tup (a.map NestedKey.num) := by
  show ((toKs (inz a)).map NestedKey.tup).getD .none = _
  rw [toKs_ints]
  rfl
theorem num_inj : ∀ {a b : List Int}, a.map NestedKey.num = b.map NestedKey.num → a = b
  | [], [], _ => rfl
  | [], _ :: _, h => by cases h
  | _ :: _, [], h => by cases h
  | x :: a, y :: b, h => by
    injection h with h1 h2
    injection h1 with h1
    rw [h1, num_inj h2]
theorem kk_inj (a b : List Int) (h : kk (inz a) = kk (inz b)) : a = b := by
  rw [kk_ints, kk_ints] at h
  injection h with h
  exact num_inj h
theorem kg_ints (a : List Int) : KG (inz a) := by
  unfold KG
  rw [kk_ints]
  refine ⟨?_, _, rfl⟩
  have : NestedKey.depthAll (a.map NestedKey.num) ≤ 1 := by
    induction a with
    | nil => simp [NestedKey.depthAll]
    | cons x a ih =>
      rw [List.map_cons, NestedKey.depthAll]
      have : NestedKey.depth (.num x) ≤ 1 := by simp [NestedKey.depth]
      omega
  rw [NestedKey.depth]
  omega
/-! ### rows of whole numbers, sorted -/
theorem le_tr {a b c : List Int} (h1 : decide (a ≤ b) = true) (h2 : decide (b ≤ c) = true) : decide (a ≤ c) = true := by
  simp only [decide_eq_true_eq] at *
  exact List.le_trans h1 h2
theorem le_to (a b : List Int) : (decide (a ≤ b) || decide (b ≤ a)) = true := by
  rcases List.le_total a b with h | h <;> simp [h]
def srtI (xs : List (List Int)) : List (List Int) := xs.mergeSort fun a b => decide (a ≤ b)
theorem srtI_pw (xs : List (List Int)) : (srtI xs).Pairwise (· ≤ ·) := by
  have := List.pairwise_mergeSort (le := fun a b : List Int => decide (a ≤ b)) (fun a b c => le_tr) (fun a b => le_to a b) xs
  exact this.imp fun h => by simpa using h
theorem srtI_mem {xs : List (List Int)} {a : List Int} : a ∈ srtI xs ↔ a ∈ xs := List.mem_mergeSort
theorem srtI_nodup {xs : List (List Int)} (h : xs.Nodup) : (srtI xs).Nodup := (List.mergeSort_perm xs _).nodup_iff.mpr h
theorem srtI_lt {xs : List (List Int)} (h : xs.Nodup) : (srtI xs).Pairwise (· < ·) := by
  have h1 := srtI_pw xs
  have h2 := srtI_nodup h
  have h3 := h1.and h2
  refine h3.imp fun ⟨a, b⟩ => ?_
  rcases List.le_iff_lt_or_eq.mp a with h | h
  · exact h
  · exact absurd h b
theorem le_not (a b : List Int) : (!decide (b < a)) = decide (a ≤ b) := by
  by_cases h : a ≤ b
  · rw [decide_eq_true h, decide_eq_false (List.not_lt.mpr h)]; rfl
  · rw [decide_eq_false h, decide_eq_true (List.not_le.mp h)]; rfl
theorem srt_tups (xs : List (List Int)) : srtD (xs.map fun a => .tuple (inz a)) = (srtI xs).map fun a => .tuple (inz a) := by
  unfold srtD srtI
  refine (List.map_mergeSort fun a _ b _ => ?_).symm
  show decide (a ≤ b) = !PySem.W.rowLt (inz b) (inz a)
  rw [PySem.W.dataLt_ints, le_not]
theorem depth_ints (a : List Int) : PyData.depthAll (inz a) = 0 := PySem.W.depth_ints a
theorem ok_tups {xs : List (List Int)} (h : ∀ a ∈ xs, a ≠ []) : SrtOk (xs.map fun a => .tuple (inz a)) := by
  refine ⟨fun d hd d' hd' => ?_, .inl fun d hd => ?_, fun d hd => ?_⟩
  · obtain ⟨a, _, rfl⟩ := List.mem_map.mp hd
    obtain ⟨b, _, rfl⟩ := List.mem_map.mp hd'
    exact PySem.W.alike_ints a b
  · obtain ⟨a, ha, rfl⟩ := List.mem_map.mp hd
    cases a with
    | nil => exact absurd rfl (h [] ha)
    | cons x a => exact ⟨_, _, rfl⟩
  · obtain ⟨a, _, rfl⟩ := List.mem_map.mp hd
    rw [PyData.depth, depth_ints]
    decide
/-! ### forms for the tactic -/
section
variable {K : Fg} {cs : Cs} {W : WX} {G : Gam} {ta tb : TE} {φ : PyData → Prop} {ε : Xw → Prop} {w : World} {ep : Nat} {kvs : Kvs} {i : Nat}
theorem ew_dxO (hi : G[i]? = some (.ow (od w ep kvs))) (h : EW K cs W tb G (fun y => ∃ k x, y = .tuple k ∧ KG k ∧ lookK kvs k = some x ∧ φ x) ε) : EW K cs W (tOp (rDx K w) (tVar i) tb) G φ ε := ew_dx (.inl hi) h
theorem ew_dxF (hi : G[i]? = some (.fz (od w ep kvs))) (h : EW K cs W tb G (fun y => ∃ k x, y = .tuple k ∧ KG k ∧ lookK kvs k = some x ∧ φ x) ε) : EW K cs W (tOp (rDx K w) (tVar i) tb) G φ ε := ew_dx (.inr hi) h
theorem ew_dgetO (hi : G[i]? = some (.ow (od w ep kvs))) (h : EW K cs W ta G (fun y => EW K cs W tb G (fun z => ∃ k, y = .tuple k ∧ KG k ∧ φ ((lookK kvs k).getD z)) ε) ε) : EW K cs W (tDM w (rDget K w) (tVar i) (tCons ta (tCons tb tNil))) G φ ε := ew_dget (.inl hi) h
theorem dpa_rev {M : Hp} : ∀ {vs : List V} {xs : List PyData}, DpAll K M vs xs → DpAll K M vs.reverse xs.reverse
  | _, _, .nil => .nil
  | _, _, .cons a b => by
    rw [List.reverse_cons, List.reverse_cons]
    exact dpa_app (dpa_rev b) (.cons a .nil)
theorem ef_revL {χ : Own → Prop} (h : EW K cs W ta G (fun x => ∃ xs, x = .list xs ∧ χ (ol xs.reverse)) ε) : EF K cs W (tRevL K ta) G χ ε := fun Wd B ad H0 H σ S Q q x =>
  h Wd B ad H0 H σ S _ (fun y ⟨xs, e, p⟩ v H1 S1 e1 d1 => by
    subst e
    cases d1 with
    | @lst a us _ g t => exact ⟨a, us, rfl, ex_l less_ex g, fun l hn => q _ p l _ H1 S1 e1 hn (dpa_rev t)⟩) x
theorem ew_revL (h : EW K cs W ta G (fun x => ∃ xs, x = .list xs ∧ φ (.list xs.reverse)) ε) : EW K cs W (tRevL K ta) G φ ε := ew_ef (ef_revL (ew_mono h fun x ⟨xs, e, p⟩ => ⟨xs, e, _, rfl, p⟩))
end
end U.N

end
section
/-! The common number divides every common multiple. -/
namespace U
open PySem PyProof.Rows L2 Evl
theorem lcI_dvd {a b c : Int} (ha : 0 < a) (hb : 0 < b) (h1 : a ∣ c) (h2 : b ∣ c) : lcI a b ∣ c := by
  have e : gI a b = (Nat.gcd a.natAbs b.natAbs : Int) := by
    unfold gI gN
    have : 0 < Nat.gcd a.natAbs b.natAbs := Nat.gcd_pos_of_pos_right _ (by omega)
    omega
  obtain ⟨x, rfl⟩ : ∃ x : Nat, a = x := ⟨a.toNat, by omega⟩
  obtain ⟨y, rfl⟩ : ∃ y : Nat, b = y := ⟨b.toNat, by omega⟩
  have e1 : lcI x y = (Nat.lcm x y : Int) := by
    unfold lcI
    rw [e, Int.fdiv_eq_ediv_of_nonneg _ (Int.natCast_nonneg _)]
    show ((x : Int) * y) / ((Nat.gcd x y : Nat) : Int) = _
    unfold Nat.lcm
    norm_cast
  rw [e1]
  exact Int.ofNat_dvd_left.mpr (Nat.lcm_dvd (Int.ofNat_dvd_left.mp h1) (Int.ofNat_dvd_left.mp h2))
theorem cbS_dvd {a : Nat} {c : Int} : ∀ {s : List Fr} {acc : Int}, Gds' a s → 0 < acc → acc ∣ c → (∀ f ∈ s, f.2 ∣ c) → 0 < cbS acc s ∧ cbS acc s ∣ c
  | [], acc, _, h, b, _ => ⟨h, b⟩
  | f :: s, acc, g, h, b, d => by
    have gf := g f (List.mem_cons_self ..)
    exact cbS_dvd (s := s) (acc := lcI acc f.2) (fun x hx => g x (List.mem_cons_of_mem _ hx)) (lcI_spec h gf.pos).1 (lcI_dvd h gf.pos b (d f (List.mem_cons_self ..))) fun x hx => d x (List.mem_cons_of_mem _ hx)
theorem cb_dvd {a : Nat} {c : Int} : ∀ {ss : List (List Fr)} {acc : Int}, (∀ s ∈ ss, Gds' a s) → 0 < acc → acc ∣ c → (∀ s ∈ ss, ∀ f ∈ s, f.2 ∣ c) → 0 < cb acc ss ∧ cb acc ss ∣ c
  | [], acc, _, h, b, _ => ⟨h, b⟩
  | s :: ss, acc, g, h, b, d => by
    obtain ⟨l1, l2⟩ := cbS_dvd (g s (List.mem_cons_self ..)) h b (d s (List.mem_cons_self ..))
    exact cb_dvd (ss := ss) (acc := cbS acc s) (fun x hx => g x (List.mem_cons_of_mem _ hx)) l1 l2 fun x hx => d x (List.mem_cons_of_mem _ hx)
theorem bd_dvd {n : Nat} {a c : Int} (hc : 0 < c) (h : a ∣ c) (b : Bd n c) : Bd n a := by
  unfold Bd at *
  exact Nat.lt_of_le_of_lt (Nat.le_of_dvd (by omega) (Int.natAbs_dvd_natAbs.mpr h)) b
/-- numbers of a bits, the numbers below with a common multiple of N bits -/
structure CbB (a N : Nat) (ss : List Spot) : Prop where
  gd : ∀ s ∈ ss, Gds a s
  cm : ∃ c0 : Int, 0 < c0 ∧ (∀ s ∈ ss, ∀ f ∈ s, f.2 ∣ c0) ∧ Bd N c0
theorem CbB.sub {a N : Nat} {ss ts : List Spot} (h : CbB a N ss) (k : ∀ s ∈ ts, s ∈ ss) : CbB a N ts := ⟨fun s hs => h.gd s (k s hs), h.cm.imp fun c ⟨h1, h2, h3⟩ => ⟨h1, fun s hs => h2 s (k s hs), h3⟩⟩
theorem CbB.spc {a N : Nat} {ss : List Spot} (h : CbB a N ss) : 0 < cb 1 ss ∧ (∀ s ∈ ss, SpC (cb 1 ss) s) ∧ Bd N (cb 1 ss) := by
  obtain ⟨c0, h1, h2, h3⟩ := h.cm
  obtain ⟨k1, k2⟩ := cb_dvd (acc := 1) h.gd (by decide) (Int.one_dvd _) h2
  refine ⟨k1, fun s hs => ⟨⟨a, h.gd s hs⟩, ?_⟩, bd_dvd h1 k2 h3⟩
  have key : ∀ {ss : List Spot} {acc : Int}, (∀ s ∈ ss, Gds' a s) → 0 < acc → acc ∣ cb acc ss ∧ ∀ s ∈ ss, ∀ f ∈ s, f.2 ∣ cb acc ss := fun {ss} => by
    induction ss with
    | nil => intro acc _ _; exact ⟨Int.dvd_refl _, by simp⟩
    | cons s ss ih =>
      intro acc g ha
      obtain ⟨B, hB⟩ : ∃ n, Bd n acc := ⟨acc.natAbs, Nat.lt_two_pow_self⟩
      obtain ⟨l1, l2, l3, l4⟩ := cbS_spec (g s (List.mem_cons_self ..)) ha hB
      obtain ⟨i1, i2⟩ := ih (acc := cbS acc s) (fun x hx => g x (List.mem_cons_of_mem _ hx)) l1
      refine ⟨Int.dvd_trans l2 i1, fun x hx f hf => ?_⟩
      rcases List.mem_cons.mp hx with rfl | hx
      · exact Int.dvd_trans (l3 f hf) i1
      · exact i2 x hx f hf
  exact (key h.gd (by decide)).2 s hs
theorem CbB.of {a r : Nat} {ss : List Spot} (h : ∀ s ∈ ss, Gds a s ∧ s.length ≤ r) : CbB a (1 + ss.length * (r * a)) ss := by
  obtain ⟨h1, _, h3, h4⟩ := cb_spec (n := 1) (acc := 1) h (by decide) (by unfold Bd; decide)
  exact ⟨fun s hs => (h s hs).1, _, h1, h3, h4⟩
end U

end
section
/-! Corners round: plain geometry over the rationals. -/
namespace U.Hull
structure Pt where
  x : Rat
  y : Rat
deriving DecidableEq
def sub (a b : Pt) : Pt := ⟨a.x - b.x, a.y - b.y⟩
/-- the area by which two steps span -/
def cr (u v : Pt) : Rat := u.x * v.y - u.y * v.x
/-- > 0: c lies to the left of a → b -/
def tn (a b c : Pt) : Rat := cr (sub b a) (sub c a)
/-- steps onward (b = false), steps back (b = true) -/
def Fw (b : Bool) (u : Pt) : Prop := if b then u.x < 0 ∨ (u.x = 0 ∧ u.y < 0) else 0 < u.x ∨ (u.x = 0 ∧ 0 < u.y)
theorem cr_self (u : Pt) : cr u u = 0 := by unfold cr; grind
theorem cr_anti (u v : Pt) : cr v u = - cr u v := by unfold cr; grind
theorem mul_nn {a b : Rat} (ha : 0 ≤ a) (hb : 0 ≤ b) : 0 ≤ a * b := Rat.mul_nonneg ha hb
theorem mul_pp {a b : Rat} (ha : 0 < a) (hb : 0 < b) : 0 < a * b := Rat.mul_pos ha hb
/-- among steps onward, those to the left of one another go on -/
theorem tr0 {u v w : Pt} (hu : Fw false u) (hv : Fw false v) (hw : Fw false w) (h1 : 0 ≤ cr u v) (h2 : 0 ≤ cr v w) : 0 ≤ cr u w := by
  have key : cr u w * v.x = cr u v * w.x + cr v w * u.x := by unfold cr; grind
  simp only [Fw, Bool.false_eq_true, if_false] at hu hv hw
  have ux : 0 ≤ u.x := by grind
  have wx : 0 ≤ w.x := by grind
  rcases hv with hv | ⟨vx, vy⟩
  · have := mul_nn h1 wx
    have := mul_nn h2 ux
    apply Classical.byContradiction
    intro hn
    have hn : cr u w < 0 := Rat.not_le.mp hn
    have := mul_pp (a := - cr u w) (b := v.x) (by grind) hv
    grind
  · unfold cr at h1 h2 ⊢
    rw [vx] at h1 h2
    have w0 : w.x = 0 := by
      apply Classical.byContradiction
      intro hn
      have : 0 < w.x := by grind
      have := mul_pp vy this
      grind
    have wy : 0 < w.y := by grind
    rw [w0]
    have := mul_nn ux (Rat.le_of_lt wy)
    grind
theorem tr1 {u v w : Pt} (hu : Fw false u) (hv : Fw false v) (hw : Fw false w) (h1 : 0 < cr u v) (h2 : 0 ≤ cr v w) : 0 < cr u w := by
  have h3 := tr0 hu hv hw (Rat.le_of_lt h1) h2
  apply Classical.byContradiction
  intro hn
  have e : cr u w = 0 := by grind
  have h4 : 0 ≤ cr w u := by rw [cr_anti]; grind
  have h5 := tr0 hv hw hu h2 h4
  rw [cr_anti] at h5
  grind
theorem tr2 {u v w : Pt} (hu : Fw false u) (hv : Fw false v) (hw : Fw false w) (h1 : 0 ≤ cr u v) (h2 : 0 < cr v w) : 0 < cr u w := by
  have h3 := tr0 hu hv hw h1 (Rat.le_of_lt h2)
  apply Classical.byContradiction
  intro hn
  have e : cr u w = 0 := by grind
  have h4 : 0 ≤ cr w u := by rw [cr_anti]; grind
  have h5 := tr0 hw hu hv h4 h1
  rw [cr_anti] at h5
  grind
def neg (u : Pt) : Pt := ⟨-u.x, -u.y⟩
theorem fw_neg {u : Pt} : Fw true u ↔ Fw false (neg u) := by
  simp only [Fw, neg, if_true, Bool.false_eq_true, if_false]
  constructor <;> (intro h; grind)
theorem cr_neg (u v : Pt) : cr (neg u) (neg v) = cr u v := by unfold cr neg; grind
theorem tle {b : Bool} {u v w : Pt} (hu : Fw b u) (hv : Fw b v) (hw : Fw b w) (h1 : 0 ≤ cr u v) (h2 : 0 ≤ cr v w) : 0 ≤ cr u w := by
  cases b with
  | false => exact tr0 hu hv hw h1 h2
  | true => rw [← cr_neg] at *; exact tr0 (fw_neg.mp hu) (fw_neg.mp hv) (fw_neg.mp hw) h1 h2
theorem tlt1 {b : Bool} {u v w : Pt} (hu : Fw b u) (hv : Fw b v) (hw : Fw b w) (h1 : 0 < cr u v) (h2 : 0 ≤ cr v w) : 0 < cr u w := by
  cases b with
  | false => exact tr1 hu hv hw h1 h2
  | true => rw [← cr_neg] at *; exact tr1 (fw_neg.mp hu) (fw_neg.mp hv) (fw_neg.mp hw) h1 h2
theorem tlt2 {b : Bool} {u v w : Pt} (hu : Fw b u) (hv : Fw b v) (hw : Fw b w) (h1 : 0 ≤ cr u v) (h2 : 0 < cr v w) : 0 < cr u w := by
  cases b with
  | false => exact tr2 hu hv hw h1 h2
  | true => rw [← cr_neg] at *; exact tr2 (fw_neg.mp hu) (fw_neg.mp hv) (fw_neg.mp hw) h1 h2
theorem fw_add {b : Bool} {a c d : Pt} (h1 : Fw b (sub c a)) (h2 : Fw b (sub d c)) : Fw b (sub d a) := by
  cases b <;> simp only [Fw, sub, if_true, Bool.false_eq_true, if_false] at * <;> grind
/-! ### one side -/
def pop (q : Pt) : List Pt → List Pt
  | t :: s :: r => if tn s t q ≤ 0 then pop q (s :: r) else t :: s :: r
  | l => l
def Cv (b : Bool) : List Pt → Prop
  | t :: s :: r :: l => Fw b (sub t s) ∧ 0 < tn r s t ∧ Cv b (s :: r :: l)
  | [t, s] => Fw b (sub t s)
  | _ => True
def Lf (P : List Pt) : List Pt → Prop
  | t :: s :: l => (∀ p ∈ P, 0 ≤ tn s t p) ∧ Lf P (s :: l)
  | _ => True
theorem Cv.tl {b : Bool} {t : Pt} {l : List Pt} (h : Cv b (t :: l)) : Cv b l := by
  match l, h with
  | [], _ => trivial
  | [s], _ => trivial
  | s :: r :: l, h => exact h.2.2
theorem Cv.fw {b : Bool} {t s : Pt} {l : List Pt} (h : Cv b (t :: s :: l)) : Fw b (sub t s) := by
  match l, h with
  | [], h => exact h
  | r :: l, h => exact h.1
theorem tn_eq (s t q : Pt) : tn s t q = cr (sub t s) (sub q t) := by unfold tn cr sub; grind
theorem fw_tri {b : Bool} {p s : Pt} (h : p ≠ s) : Fw b (sub s p) ∨ Fw b (sub p s) := by
  have : p.x ≠ s.x ∨ p.y ≠ s.y := by
    apply Classical.byContradiction
    intro hn
    apply h
    cases p; cases s
    grind
  cases b <;> simp only [Fw, sub, if_true, Bool.false_eq_true, if_false] <;> grind
/-- the edges below see the new spot to their left -/
theorem deep {b : Bool} {q : Pt} : ∀ {l : List Pt} {t : Pt}, Cv b (t :: l) → Fw b (sub q t) → (∀ s, l.head? = some s → 0 < cr (sub t s) (sub q t)) → Lf [q] (t :: l)
  | [], t, _, _, _ => trivial
  | s :: l, t, hc, hq, h => by
    have h0 := h s rfl
    have fts := hc.fw
    have fqs : Fw b (sub q s) := fw_add fts hq
    refine ⟨fun p hp => ?_, deep (l := l) (t := s) hc.tl fqs fun r hr => ?_⟩
    · rw [List.mem_singleton.mp hp, tn_eq]; exact Rat.le_of_lt h0
    · match l, hr, hc with
      | r' :: l, hr, hc =>
        cases hr
        have h1 : 0 < cr (sub s r) (sub t s) := by have := hc.2.1; rwa [tn_eq] at this
        have h2 : 0 ≤ cr (sub t s) (sub q s) := by
          have : cr (sub t s) (sub q s) = cr (sub t s) (sub q t) := by unfold cr sub; grind
          rw [this]; exact Rat.le_of_lt h0
        exact tlt1 hc.tl.fw fts fqs h1 h2
theorem lf_and {P Q : List Pt} : ∀ {l : List Pt}, Lf P l → Lf Q l → Lf (P ++ Q) l
  | [], _, _ => trivial
  | [_], _, _ => trivial
  | t :: s :: l, h1, h2 => ⟨fun p hp => (List.mem_append.mp hp).elim (h1.1 p) (h2.1 p), lf_and h1.2 h2.2⟩
theorem pop_ok {b : Bool} {q : Pt} {P : List Pt} (hq : ∀ p ∈ P, Fw b (sub q p)) : ∀ {l : List Pt} {t : Pt}, Cv b (t :: l) → Lf P (t :: l) → (∀ p ∈ t :: l, p ∈ P) → (∀ p ∈ P, Fw b (sub p t) → 0 ≤ tn t q p) →
    (∀ e, (t :: l).getLast? = some e → ∀ p ∈ P, p = e ∨ Fw b (sub p e)) → Cv b (q :: pop q (t :: l)) ∧ Lf (P ++ [q]) (q :: pop q (t :: l))
  | [], t, hc, hl, hm, hH, hb => by
    have ht := hm t (List.mem_cons_self ..)
    refine ⟨hq t ht, fun p hp => ?_, trivial⟩
    rcases List.mem_append.mp hp with hp | hp
    · rcases hb t rfl p hp with rfl | h
      · unfold tn cr sub; grind
      · exact hH p hp h
    · rw [List.mem_singleton.mp hp]; unfold tn; rw [cr_self]; exact Rat.le_refl
  | s :: l, t, hc, hl, hm, hH, hb => by
    have ht := hm t (List.mem_cons_self ..)
    have hs := hm s (List.mem_cons_of_mem _ (List.mem_cons_self ..))
    have fts := hc.fw
    unfold pop
    split
    · rename_i hn
      refine pop_ok hq hc.tl hl.2 (fun p hp => hm p (List.mem_cons_of_mem _ hp)) (fun p hp fps => ?_) fun e he => hb e (by rw [List.getLast?_cons_cons]; exact he)
      have h1 : 0 ≤ cr (sub q s) (sub t s) := by rw [cr_anti]; unfold tn at hn; grind
      have h2 : 0 ≤ cr (sub t s) (sub p s) := hl.1 p hp
      exact tle (hq s hs) fts fps h1 h2
    · rename_i hn
      have hp0 : 0 < tn s t q := by grind
      have fqt := hq t ht
      have h0 : 0 < cr (sub t s) (sub q t) := by rwa [tn_eq] at hp0
      refine ⟨⟨fqt, hp0, hc⟩, ⟨fun p hp => ?_, lf_and hl (deep hc fqt fun s' hs' => by cases hs'; exact h0)⟩⟩
      rcases List.mem_append.mp hp with hp | hp
      · by_cases e : p = t
        · subst e; unfold tn cr sub; grind
        · rcases fw_tri (b := b) e with ft | ft
          · have h1 := hl.1 p hp
            have h2 : 0 ≤ cr (sub t p) (sub t s) := by
              have : cr (sub t p) (sub t s) = tn s t p := by unfold tn cr sub; grind
              rw [this]; exact h1
            have h3 := tlt2 ft fts fqt h2 h0
            have : tn t q p = cr (sub t p) (sub q t) := by unfold tn cr sub; grind
            rw [this]; exact Rat.le_of_lt h3
          · exact hH p hp ft
      · rw [List.mem_singleton.mp hp]; unfold tn; rw [cr_self]; exact Rat.le_refl
theorem pop_sub {q : Pt} : ∀ {l : List Pt}, ∀ p ∈ pop q l, p ∈ l
  | [], p, h => h
  | [t], p, h => h
  | t :: s :: r, p, h => by
    unfold pop at h
    split at h
    · exact List.mem_cons_of_mem _ (pop_sub p h)
    · exact h
theorem pop_last {q : Pt} : ∀ {l : List Pt}, (pop q l).getLast? = l.getLast?
  | [] => rfl
  | [t] => rfl
  | t :: s :: r => by
    unfold pop
    split
    · rw [pop_last, List.getLast?_cons_cons]
    · rfl
theorem pop_ne {q : Pt} : ∀ {t : Pt} {l : List Pt}, pop q (t :: l) ≠ []
  | t, [], h => by cases h
  | t, s :: r, h => by
    unfold pop at h
    split at h
    · exact pop_ne h
    · cases h
/-- what the stack keeps, top first, behind the spots Q -/
structure Stk (b : Bool) (Q st : List Pt) : Prop where
  cv : Cv b st
  lf : Lf Q st
  mem : ∀ p ∈ st, p ∈ Q
  top : st.head? = Q.getLast?
  bot : st.getLast? = Q.head?
theorem stk_step {b : Bool} {Q st : List Pt} {q : Pt} (S : Stk b Q st) (hQ : Q ≠ []) (hp : (Q ++ [q]).Pairwise fun a c => Fw b (sub c a)) : Stk b (Q ++ [q]) (q :: pop q st) := by
  obtain ⟨p1, p2, p3⟩ := List.pairwise_append.mp hp
  have hq : ∀ p ∈ Q, Fw b (sub q p) := fun p h => p3 p h q (List.mem_singleton.mpr rfl)
  obtain ⟨Q0, e, rfl⟩ : ∃ Q0 e, Q = Q0 ++ [e] := ⟨Q.dropLast, Q.getLast hQ, (List.dropLast_concat_getLast hQ).symm⟩
  obtain ⟨f, F, ef⟩ : ∃ f F, Q0 ++ [e] = f :: F := List.exists_cons_of_ne_nil hQ
  match st, S with
  | [], S => 
    have := S.top
    rw [List.getLast?_concat] at this
    cases this
  | t :: l, S =>
    have et : t = e := by
      have := S.top
      rw [List.getLast?_concat] at this
      exact Option.some.inj this
    have k := pop_ok hq S.cv S.lf S.mem (fun p hp fp => ?_) (fun e' he p hp => ?_)
    · refine ⟨k.1, k.2, fun p hp => ?_, by rw [List.getLast?_concat]; rfl, ?_⟩
      · rcases List.mem_cons.mp hp with rfl | hp
        · simp
        · exact List.mem_append_left _ (S.mem p (pop_sub p hp))
      · obtain ⟨c, C, ec⟩ : ∃ c C, pop q (t :: l) = c :: C := List.exists_cons_of_ne_nil pop_ne
        have h1 := pop_last (q := q) (l := t :: l)
        rw [ec] at h1 ⊢
        rw [List.getLast?_cons_cons, h1, S.bot, ef]
        rfl
    · subst et
      exfalso
      rcases List.mem_append.mp hp with h | h
      · have := (List.pairwise_append.mp p1).2.2 p h t (List.mem_singleton.mpr rfl)
        cases b <;> simp only [Fw, sub, if_true, Bool.false_eq_true, if_false] at * <;> grind
      · rw [List.mem_singleton.mp h] at fp
        cases b <;> simp only [Fw, sub, if_true, Bool.false_eq_true, if_false] at * <;> grind
    · have := S.bot
      rw [he, ef] at this
      have e2 : e' = f := Option.some.inj this
      subst e2
      rw [ef] at hp p1
      rcases List.mem_cons.mp hp with rfl | h
      · exact .inl rfl
      · exact .inr ((List.pairwise_cons.mp p1).1 p h)
def stack (P : List Pt) : List Pt := P.foldl (fun st q => q :: pop q st) []
theorem stk_fold {b : Bool} : ∀ {R Q st : List Pt}, Q ≠ [] → Stk b Q st → ((Q ++ R).Pairwise fun a c => Fw b (sub c a)) → Stk b (Q ++ R) (R.foldl (fun st q => q :: pop q st) st)
  | [], Q, st, _, S, _ => by rw [List.append_nil]; exact S
  | q :: R, Q, st, hQ, S, hp => by
    have e : Q ++ q :: R = (Q ++ [q]) ++ R := by simp
    rw [e] at hp ⊢
    exact stk_fold (R := R) (Q := Q ++ [q]) (by simp) (stk_step S hQ (List.pairwise_append.mp hp).1) hp
theorem stack_ok {b : Bool} {P : List Pt} (h : P ≠ []) (hp : P.Pairwise fun a c => Fw b (sub c a)) : Stk b P (stack P) := by
  match P, h, hp with
  | p :: R, _, hp =>
    have S : Stk b [p] [p] := ⟨trivial, trivial, fun x hx => hx, rfl, rfl⟩
    exact stk_fold (Q := [p]) (by simp) S hp
/-! ### edges -/
/-- v follows u in the list -/
def Edge (l : List Pt) (u v : Pt) : Prop := ∃ A B, l = A ++ v :: u :: B
theorem lf_edge {P : List Pt} : ∀ {l : List Pt} {u v : Pt}, Lf P l → Edge l u v → ∀ p ∈ P, 0 ≤ tn u v p
  | [], u, v, _, ⟨A, B, e⟩, p, hp => by simp at e
  | [t], u, v, _, ⟨A, B, e⟩, p, hp => by
    cases A with
    | nil => cases e
    | cons a A => simp at e
  | t :: s :: l, u, v, h, ⟨A, B, e⟩, p, hp => by
    cases A with
    | nil =>
      injection e with e1 e2
      injection e2 with e2 e3
      subst e1; subst e2
      exact h.1 p hp
    | cons a A =>
      injection e with e1 e2
      exact lf_edge h.2 ⟨A, B, e2⟩ p hp
theorem cv_edge {b : Bool} : ∀ {l : List Pt} {u v : Pt}, Cv b l → Edge l u v → Fw b (sub v u)
  | [], u, v, _, ⟨A, B, e⟩ => by simp at e
  | t :: l, u, v, h, ⟨A, B, e⟩ => by
    cases A with
    | nil =>
      injection e with e1 e2
      subst e1; subst e2
      exact h.fw
    | cons a A =>
      injection e with e1 e2
      exact cv_edge h.tl ⟨A, B, e2⟩
theorem cv_turn {b : Bool} : ∀ {l : List Pt} {u v w : Pt} {A B : List Pt}, Cv b l → l = A ++ w :: v :: u :: B → 0 < tn u v w
  | [], u, v, w, A, B, _, e => by simp at e
  | t :: l, u, v, w, A, B, h, e => by
    cases A with
    | nil =>
      injection e with e1 e2
      subst e1; subst e2
      exact h.2.1
    | cons a A =>
      injection e with e1 e2
      exact cv_turn h.tl e2
end U.Hull

end
section
namespace U.Hull
/-- q lies between h and r -/
def Btw (h r q : Pt) : Prop := (q.x - h.x) * (q.x - r.x) ≤ 0 ∧ (q.y - h.y) * (q.y - r.y) ≤ 0 ∧ tn h r q = 0
theorem mul_eq0 {a b : Rat} (h : a * b = 0) (ha : a ≠ 0) : b = 0 := by
  rcases Rat.mul_eq_zero.mp h with h | h
  · exact absurd h ha
  · exact h
theorem pt_ext {p q : Pt} (h1 : p.x = q.x) (h2 : p.y = q.y) : p = q := by cases p; cases q; cases h1; cases h2; rfl
theorem btw_fw0 {h r q : Pt} (hb : Btw h r q) (hr : r ≠ q) (f : Fw false (sub q h)) : Fw false (sub r q) ∧ cr (sub q h) (sub r q) = 0 := by
  obtain ⟨b1, b2, b3⟩ := hb
  have e : cr (sub q h) (sub r q) = 0 := by unfold tn cr sub at *; grind
  refine ⟨?_, e⟩
  simp only [Fw, sub, Bool.false_eq_true, if_false] at f ⊢
  unfold cr sub at e
  simp only at e
  generalize hu : q.x - h.x = ux at *
  generalize hv : q.y - h.y = uy at *
  have ev : q.x - r.x = -(r.x - q.x) := by grind
  have ew : q.y - r.y = -(r.y - q.y) := by grind
  rw [ev] at b1
  rw [ew] at b2
  have hne : r.x - q.x ≠ 0 ∨ r.y - q.y ≠ 0 := by
    apply Classical.byContradiction
    intro hn
    exact hr (pt_ext (by grind) (by grind))
  generalize r.x - q.x = vx at *
  generalize r.y - q.y = vy at *
  rcases f with f | ⟨f1, f2⟩
  · have h1 : 0 ≤ vx := by
      apply Classical.byContradiction
      intro hn
      have := mul_pp f (show 0 < -vx by grind)
      grind
    by_cases h2 : vx = 0
    · exfalso
      subst h2
      have : vy = 0 := mul_eq0 (a := ux) (by grind) (by grind)
      grind
    · left; grind
  · subst f1
    have h1 : vx = 0 := mul_eq0 (a := uy) (by grind) (by grind)
    subst h1
    right
    refine ⟨rfl, ?_⟩
    apply Classical.byContradiction
    intro hn
    have : vy ≠ 0 := by grind
    have := mul_pp f2 (show 0 < -vy by grind)
    grind
theorem btw_neg {h r q : Pt} (hb : Btw h r q) : Btw (neg h) (neg r) (neg q) := by
  obtain ⟨b1, b2, b3⟩ := hb
  unfold tn cr sub at b3
  refine ⟨?_, ?_, ?_⟩
  · unfold neg; grind
  · unfold neg; grind
  · unfold tn cr sub neg; grind
theorem sub_neg (a c : Pt) : sub (neg a) (neg c) = neg (sub a c) := by unfold sub neg; exact pt_ext (by grind) (by grind)
theorem neg_inj {a c : Pt} (h : neg a = neg c) : a = c := by
  unfold neg at h
  injection h with h1 h2
  exact pt_ext (by grind) (by grind)
theorem btw_fw {b : Bool} {h r q : Pt} (hb : Btw h r q) (hr : r ≠ q) (f : Fw b (sub q h)) : Fw b (sub r q) ∧ cr (sub q h) (sub r q) = 0 := by
  cases b with
  | false => exact btw_fw0 hb hr f
  | true =>
    have := btw_fw0 (btw_neg hb) (fun z => hr (neg_inj z)) (by rw [sub_neg]; exact fw_neg.mp f)
    rw [sub_neg, sub_neg, cr_neg] at this
    exact ⟨fw_neg.mpr this.1, this.2⟩
theorem fw_no {b : Bool} {a c : Pt} (h1 : Fw b (sub a c)) (h2 : Fw b (sub c a)) : False := by
  cases b <;> simp only [Fw, sub, if_true, Bool.false_eq_true, if_false] at * <;> grind
theorem fw_ne {b : Bool} {a c : Pt} (h1 : Fw b (sub a c)) : a ≠ c := fun e => by subst e; exact fw_no h1 h1
/-- q follows h round the spots P -/
def Nx (P : List Pt) (h q : Pt) : Prop := q ∈ P ∧ q ≠ h ∧ (∀ r ∈ P, 0 ≤ tn h q r) ∧ ∀ r ∈ P, r ≠ q → ¬ Btw h r q
theorem last_max {b : Bool} {P : List Pt} (hp : P.Pairwise fun a c => Fw b (sub c a)) {v : Pt} (hv : P.getLast? = some v) : ∀ p ∈ P, p = v ∨ Fw b (sub v p) := by
  have hn : P ≠ [] := fun e => by subst e; cases hv
  obtain ⟨Q, e, rfl⟩ : ∃ Q e, P = Q ++ [e] := ⟨P.dropLast, P.getLast hn, (List.dropLast_concat_getLast hn).symm⟩
  rw [List.getLast?_concat] at hv
  cases hv
  intro p h
  rcases List.mem_append.mp h with h | h
  · exact .inr ((List.pairwise_append.mp hp).2.2 p h v (List.mem_singleton.mpr rfl))
  · exact .inl (List.mem_singleton.mp h)
theorem edge_nx {b : Bool} {P st : List Pt} (S : Stk b P st) (hp : P.Pairwise fun a c => Fw b (sub c a)) {u v : Pt} (he : Edge st u v) : Nx P u v := by
  have fvu := cv_edge S.cv he
  obtain ⟨A, B, e⟩ := id he
  have mv : v ∈ P := S.mem v (by rw [e]; simp)
  refine ⟨mv, fw_ne fvu, lf_edge S.lf he, fun r hr hne hb => ?_⟩
  obtain ⟨f, c0⟩ := btw_fw hb hne fvu
  by_cases hA : A = []
  · subst hA
    have ht := S.top
    rw [e] at ht
    rcases last_max hp ht.symm r hr with h | h
    · exact hne h
    · exact fw_no f h
  · obtain ⟨A', w, rfl⟩ : ∃ A' w, A = A' ++ [w] := ⟨A.dropLast, A.getLast hA, (List.dropLast_concat_getLast hA).symm⟩
    have e' : st = A' ++ w :: v :: (u :: B) := by rw [e]; simp
    have h1 := cv_turn S.cv e'
    have ew : Edge st v w := ⟨A', u :: B, e'⟩
    have h2 := lf_edge S.lf ew r hr
    have fwv := cv_edge S.cv ew
    rw [tn_eq] at h1
    have h3 := tlt1 fvu fwv f h1 h2
    grind
theorem same0 {h q r : Pt} (f1 : Fw false (sub q h)) (f2 : Fw false (sub r q)) (c : cr (sub q h) (sub r q) = 0) : Btw h r q := by
  refine ⟨?_, ?_, by unfold tn cr sub at *; grind⟩
  all_goals
    simp only [Fw, sub, Bool.false_eq_true, if_false] at f1 f2
    unfold cr sub at c
    simp only at c
    have ev : q.x - r.x = -(r.x - q.x) := by grind
    have ew : q.y - r.y = -(r.y - q.y) := by grind
    first | rw [ev] | rw [ew]
    generalize q.x - h.x = ux at *
    generalize q.y - h.y = uy at *
    generalize r.x - q.x = vx at *
    generalize r.y - q.y = vy at *
  · have := mul_nn (show 0 ≤ ux by grind) (show 0 ≤ vx by grind)
    grind
  · apply Classical.byContradiction
    intro hn
    have hn : uy * vy < 0 := by grind
    rcases f1 with f1 | ⟨f1, f1'⟩
    · have k : uy * vy * ux = uy * uy * vx := by grind
      have : 0 ≤ uy * uy := by
        rcases (Rat.le_total : 0 ≤ uy ∨ uy ≤ 0) with z | z
        · exact mul_nn z z
        · have := mul_nn (show 0 ≤ -uy by grind) (show 0 ≤ -uy by grind)
          grind
      have := mul_nn this (show 0 ≤ vx by grind)
      have := mul_pp (show 0 < -(uy * vy) by grind) f1
      grind
    · subst f1
      have h1 : vx = 0 := mul_eq0 (a := uy) (by grind) (by grind)
      subst h1
      have := mul_pp f1' (show 0 < vy by grind)
      grind
theorem same {b : Bool} {h q r : Pt} (f1 : Fw b (sub q h)) (f2 : Fw b (sub r q)) (c : cr (sub q h) (sub r q) = 0) : Btw h r q := by
  cases b with
  | false => exact same0 f1 f2 c
  | true =>
    have := same0 (h := neg h) (q := neg q) (r := neg r) (by rw [sub_neg]; exact fw_neg.mp f1) (by rw [sub_neg]; exact fw_neg.mp f2) (by rw [sub_neg, sub_neg, cr_neg]; exact c)
    have k := btw_neg this
    have nn : ∀ p : Pt, neg (neg p) = p := fun p => pt_ext (by unfold neg; grind) (by unfold neg; grind)
    rwa [nn, nn, nn] at k
theorem nx_uniq {b : Bool} {P st : List Pt} (S : Stk b P st) (hp : P.Pairwise fun a c => Fw b (sub c a)) {u v q : Pt} (he : Edge st u v) (hq : Nx P u q) : q = v := by
  apply Classical.byContradiction
  intro hne
  have hv := edge_nx S hp he
  have fvu := cv_edge S.cv he
  have par : cr (sub v u) (sub q u) = 0 := by
    have h1 : 0 ≤ cr (sub v u) (sub q u) := hv.2.2.1 q hq.1
    have h2 : 0 ≤ cr (sub q u) (sub v u) := hq.2.2.1 v hv.1
    rw [cr_anti] at h2
    grind
  rcases fw_tri (b := b) hq.2.1 with f | f
  · -- the other side
    obtain ⟨A, B, e⟩ := id he
    cases B with
    | nil =>
      have hb := S.bot
      rw [e] at hb
      have hu : P.head? = some u := by rw [← hb]; simp
      match P, hu, hp, hq with
      | p :: P', hu, hp, hq =>
        cases hu
        rcases List.mem_cons.mp hq.1 with h | h
        · exact hq.2.1 h
        · exact fw_no f ((List.pairwise_cons.mp hp).1 q h)
    | cons t B =>
      have et : Edge st t u := ⟨A ++ [v], B, by rw [e]; simp⟩
      have e3 : st = A ++ v :: u :: t :: B := e
      have h1 := cv_turn S.cv e3
      rw [tn_eq] at h1
      have fut := cv_edge S.cv et
      have mt : t ∈ P := S.mem t (by rw [e]; simp)
      have h2 := hq.2.2.1 t mt
      have h3 : 0 ≤ cr (sub u q) (sub u t) := by
        have : cr (sub u q) (sub u t) = tn u q t := by unfold tn cr sub; grind
        rw [this]; exact h2
      have h4 : 0 ≤ cr (sub v u) (sub u q) := by
        have : cr (sub v u) (sub u q) = - cr (sub v u) (sub q u) := by unfold cr sub; grind
        rw [this, par]; grind
      have h5 := tlt1 fut fvu f h1 h4
      have h6 := tlt1 fut f fut h5 h3
      rw [cr_self] at h6
      grind
  · rcases fw_tri (b := b) hne with g | g
    · refine hq.2.2.2 v hv.1 (fun z => hne z.symm) (same f g ?_)
      unfold cr sub at *; grind
    · refine hv.2.2.2 q hq.1 hne (same fvu g ?_)
      unfold cr sub at *; grind
end U.Hull

end
section
namespace U.Hull
/-- a spot within both sides: none -/
theorem apart {P R stL stU : List Pt} (SL : Stk false P stL) (SU : Stk true R stU) (hR : ∀ p, p ∈ R ↔ p ∈ P) {a p b u w : Pt} (e1 : Edge stL a p) (e2 : Edge stL p b) (e3 : Edge stU u p) (e4 : Edge stU p w) (t1 : 0 < tn a p b) (t2 : 0 < tn u p w) : False := by
  have fa := cv_edge SL.cv e1
  have fb := cv_edge SL.cv e2
  have fu := fw_neg.mp (cv_edge SU.cv e3)
  have fw := fw_neg.mp (cv_edge SU.cv e4)
  have mem1 : ∀ {x y : Pt}, Edge stL x y → x ∈ P ∧ y ∈ P := fun {x y} ⟨A, B, e⟩ => ⟨SL.mem _ (by rw [e]; simp), SL.mem _ (by rw [e]; simp)⟩
  have mem2 : ∀ {x y : Pt}, Edge stU x y → x ∈ P ∧ y ∈ P := fun {x y} ⟨A, B, e⟩ => ⟨(hR _).mp (SU.mem _ (by rw [e]; simp)), (hR _).mp (SU.mem _ (by rw [e]; simp))⟩
  -- a' = p - a, b' = b - p, u' = u - p, w' = p - w, all onward
  have h1 : 0 ≤ tn a p w := lf_edge SL.lf e1 w (mem2 e4).2
  have h2 : 0 ≤ tn u p b := lf_edge SU.lf e3 b ((hR _).mpr (mem1 e2).2)
  have k1 : 0 ≤ cr (neg (sub w p)) (sub p a) := by
    have : cr (neg (sub w p)) (sub p a) = tn a p w := by unfold tn cr sub neg; grind
    rw [this]; exact h1
  have k2 : 0 ≤ cr (sub b p) (neg (sub p u)) := by
    have : cr (sub b p) (neg (sub p u)) = tn u p b := by unfold tn cr sub neg; grind
    rw [this]; exact h2
  have k3 : 0 < cr (sub p a) (sub b p) := by rwa [tn_eq] at t1
  have k4 : 0 < cr (neg (sub p u)) (neg (sub w p)) := by rw [cr_neg]; rwa [tn_eq] at t2
  have m1 := tlt1 fa fb fu k3 k2
  have m2 := tlt1 fa fu fw m1 (Rat.le_of_lt k4)
  have m3 := tlt1 fa fw fa m2 k1
  rw [cr_self] at m3
  grind
theorem cv_pw {b : Bool} : ∀ {st : List Pt}, Cv b st → st.Pairwise fun t s => Fw b (sub t s)
  | [], _ => .nil
  | [t], _ => List.pairwise_singleton _ _
  | t :: s :: l, h => by
    have ih := cv_pw h.tl
    refine List.pairwise_cons.mpr ⟨fun x hx => ?_, ih⟩
    rcases List.mem_cons.mp hx with rfl | hx
    · exact h.fw
    · exact fw_add ((List.pairwise_cons.mp ih).1 x hx) h.fw
theorem cv_nodup {b : Bool} {st : List Pt} (h : Cv b st) : st.Nodup := (cv_pw h).imp fun f => fw_ne f
theorem inside {st : List Pt} {x : Pt} (hx : x ∈ st) (h1 : st.head? ≠ some x) (h2 : st.getLast? ≠ some x) : ∃ A B a b, st = A ++ b :: x :: a :: B := by
  obtain ⟨A0, B0, rfl⟩ := List.append_of_mem hx
  have hA : A0 ≠ [] := fun e => by subst e; exact h1 rfl
  have hB : B0 ≠ [] := fun e => by subst e; exact h2 (by simp)
  obtain ⟨A, b, rfl⟩ : ∃ A b, A0 = A ++ [b] := ⟨A0.dropLast, A0.getLast hA, (List.dropLast_concat_getLast hA).symm⟩
  obtain ⟨a, B, rfl⟩ := List.exists_cons_of_ne_nil hB
  exact ⟨A, B, a, b, by simp⟩
/-- the corners round: below without its last, above without its last -/
def ring (row : List Pt) : List Pt := (stack row).tail.reverse ++ (stack row.reverse).tail.reverse
theorem rev_pw {row : List Pt} (h : row.Pairwise fun a c => Fw false (sub c a)) : row.reverse.Pairwise fun a c => Fw true (sub c a) := by
  rw [List.pairwise_reverse]
  refine h.imp fun {a c} f => ?_
  simp only [Fw, sub, if_true, Bool.false_eq_true, if_false] at *
  grind
theorem tail_ne {st : List Pt} (h : st.Nodup) {x : Pt} (hx : x ∈ st.tail) : st.head? ≠ some x := fun e => by
  match st, h, hx, e with
  | t :: l, h, hx, e =>
    cases e
    exact (List.nodup_cons.mp h).1 hx
theorem nd_rev {l : List Pt} (h : l.Nodup) : l.reverse.Nodup := (List.reverse_perm l).nodup_iff.mpr h
theorem ring_nodup {row : List Pt} (hn : row ≠ []) (h : row.Pairwise fun a c => Fw false (sub c a)) : (ring row).Nodup := by
  have SL := stack_ok hn h
  have SU := stack_ok (b := true) (P := row.reverse) (by simpa using hn) (rev_pw h)
  have nL := cv_nodup SL.cv
  have nU := cv_nodup SU.cv
  unfold ring
  rw [List.nodup_append]
  refine ⟨nd_rev (nL.sublist (List.tail_sublist _)), nd_rev (nU.sublist (List.tail_sublist _)), fun x hx y hy e => ?_⟩
  subst e
  have hx := List.mem_reverse.mp hx
  have hy := List.mem_reverse.mp hy
  have tL := tail_ne nL hx
  have tU := tail_ne nU hy
  have bL : (stack row).getLast? ≠ some x := fun e => tU (by rw [SU.top, List.getLast?_reverse, ← SL.bot]; exact e)
  have bU : (stack row.reverse).getLast? ≠ some x := fun e => tL (by rw [SL.top, ← List.head?_reverse, ← SU.bot]; exact e)
  obtain ⟨A, B, a, b, e1⟩ := inside (List.mem_of_mem_tail hx) tL bL
  obtain ⟨C, D, u, w, e2⟩ := inside (List.mem_of_mem_tail hy) tU bU
  exact apart SL SU (fun p => List.mem_reverse) ⟨A ++ [b], B, by rw [e1]; simp⟩ ⟨A, a :: B, e1⟩ ⟨C ++ [w], D, by rw [e2]; simp⟩ ⟨C, u :: D, e2⟩ (cv_turn SL.cv e1) (cv_turn SU.cv e2)
theorem edge_of {l : List Pt} {i : Nat} {u v : Pt} (h1 : l.reverse[i]? = some u) (h2 : l.reverse[i + 1]? = some v) : Edge l u v := by
  have hl : i + 1 < l.reverse.length := (List.getElem?_eq_some_iff.mp h2).1
  have e1 : l.reverse[i] = u := (List.getElem?_eq_some_iff.mp h1).2
  have e2 : l.reverse[i + 1] = v := (List.getElem?_eq_some_iff.mp h2).2
  have e : l.reverse = l.reverse.take i ++ u :: v :: l.reverse.drop (i + 2) := by
    conv => lhs; rw [← List.take_append_drop i l.reverse]
    rw [List.drop_eq_getElem_cons (by omega), List.drop_eq_getElem_cons hl, e1, e2]
  refine ⟨(l.reverse.drop (i + 2)).reverse, (l.reverse.take i).reverse, ?_⟩
  have := congrArg List.reverse e
  rw [List.reverse_reverse] at this
  refine this.trans ?_
  simp
theorem rev_tail {st : List Pt} : st.tail.reverse = st.reverse.dropLast := by
  cases st with
  | nil => rfl
  | cons t l => rw [List.reverse_cons, List.dropLast_concat]; rfl
theorem two_rings {X Y : List Pt} (hX : 2 ≤ X.length) (hY : 2 ≤ Y.length) (h1 : X.getLast? = Y.head?) (h2 : Y.getLast? = X.head?) {i : Nat} {c : Pt} (hi : (X.dropLast ++ Y.dropLast)[i]? = some c) :
    ∃ v, (X.dropLast ++ Y.dropLast)[(i + 1) % (X.dropLast ++ Y.dropLast).length]? = some v ∧ ((∃ k, X[k]? = some c ∧ X[k + 1]? = some v) ∨ ∃ k, Y[k]? = some c ∧ Y[k + 1]? = some v) := by
  have hlen : (X.dropLast ++ Y.dropLast).length = (X.length - 1) + (Y.length - 1) := by simp
  have hi' : i < (X.length - 1) + (Y.length - 1) := by rw [← hlen]; exact (List.getElem?_eq_some_iff.mp hi).1
  rw [hlen]
  have lX : X.dropLast.length = X.length - 1 := List.length_dropLast
  have lY : Y.dropLast.length = Y.length - 1 := List.length_dropLast
  have g : ∀ j, j < X.length - 1 → (X.dropLast ++ Y.dropLast)[j]? = X[j]? := fun j hj => by
    rw [List.getElem?_append_left (by omega), List.getElem?_dropLast, if_pos hj]
  have g' : ∀ j, j < Y.length - 1 → (X.dropLast ++ Y.dropLast)[X.length - 1 + j]? = Y[j]? := fun j hj => by
    rw [List.getElem?_append_right (by omega), List.getElem?_dropLast, lX, if_pos (by omega)]
    congr 1
    omega
  have hX0 : X[X.length - 1]? = Y[0]? := by rw [← List.getLast?_eq_getElem?, h1, List.head?_eq_getElem?]
  have hY0 : Y[Y.length - 1]? = X[0]? := by rw [← List.getLast?_eq_getElem?, h2, List.head?_eq_getElem?]
  by_cases hk : i < X.length - 1
  · rw [g i hk] at hi
    rw [Nat.mod_eq_of_lt (by omega)]
    refine ⟨X[i + 1], ?_, .inl ⟨i, hi, List.getElem?_eq_getElem (by omega)⟩⟩
    by_cases hk' : i + 1 < X.length - 1
    · rw [g _ hk']; exact List.getElem?_eq_getElem (by omega)
    · have e : (X.dropLast ++ Y.dropLast)[i + 1]? = X[i + 1]? := by
        have e1 : i + 1 = X.length - 1 + 0 := by omega
        have e2 : X.length - 1 = i + 1 := by omega
        have k := g' 0 (by omega)
        rw [← e1, ← hX0, e2] at k
        exact k
      rw [e]
      exact List.getElem?_eq_getElem (by omega)
  · obtain ⟨j, rfl⟩ : ∃ j, i = X.length - 1 + j := ⟨i - (X.length - 1), by omega⟩
    rw [g' j (by omega)] at hi
    refine ⟨Y[j + 1], ?_, .inr ⟨j, hi, List.getElem?_eq_getElem (by omega)⟩⟩
    by_cases hk' : j + 1 < Y.length - 1
    · rw [Nat.mod_eq_of_lt (by omega)]
      have e : X.length - 1 + j + 1 = X.length - 1 + (j + 1) := by omega
      rw [e, g' _ hk']; exact List.getElem?_eq_getElem (by omega)
    · have e : (X.length - 1 + j + 1) % (X.length - 1 + (Y.length - 1)) = 0 := by
        have e1 : X.length - 1 + j + 1 = X.length - 1 + (Y.length - 1) := by omega
        rw [e1, Nat.mod_self]
      have e2 : Y.length - 1 = j + 1 := by omega
      have k : (X.dropLast ++ Y.dropLast)[0]? = Y[j + 1]? := by rw [g 0 (by omega), ← hY0, e2]
      rw [e, k]
      exact List.getElem?_eq_getElem (by omega)
theorem stk_two {b : Bool} {P st : List Pt} (S : Stk b P st) (hl : 2 ≤ P.length) (hp : P.Pairwise fun a c => Fw b (sub c a)) : 2 ≤ st.length := by
  match st, S with
  | [], S =>
    have := S.bot
    cases P with
    | nil => simp at hl
    | cons p P => cases this
  | [t], S =>
    exfalso
    have h1 := S.top
    have h2 := S.bot
    match P, hl, hp, h1, h2 with
    | p :: q :: R, _, hp, h1, h2 =>
      have e : t = p := Option.some.inj h2
      rw [List.getLast?_cons_cons] at h1
      have m : t ∈ q :: R := List.mem_of_getLast? h1.symm
      exact fw_ne ((List.pairwise_cons.mp hp).1 t m) e
  | _ :: _ :: _, _ => simp
/-- each corner's edge leads to the next one -/
theorem ring_next {row : List Pt} (hl : 2 ≤ row.length) (h : row.Pairwise fun a c => Fw false (sub c a)) {i : Nat} {c : Pt} (hi : (ring row)[i]? = some c) : ∃ v, (ring row)[(i + 1) % (ring row).length]? = some v ∧ (Edge (stack row) c v ∨ Edge (stack row.reverse) c v) := by
  have hn : row ≠ [] := fun e => by subst e; simp at hl
  have SL := stack_ok hn h
  have SU := stack_ok (b := true) (P := row.reverse) (by simpa using hn) (rev_pw h)
  have l1 := stk_two SL hl h
  have l2 := stk_two SU (by simpa using hl) (rev_pw h)
  unfold ring at hi ⊢
  rw [rev_tail, rev_tail] at hi ⊢
  obtain ⟨v, hv, k⟩ := two_rings (X := (stack row).reverse) (Y := (stack row.reverse).reverse) (by simpa using l1) (by simpa using l2) (by rw [List.getLast?_reverse, List.head?_reverse, SL.top, SU.bot, List.head?_reverse]) (by rw [List.getLast?_reverse, List.head?_reverse, SU.top, SL.bot, List.getLast?_reverse]) hi
  exact ⟨v, hv, k.imp (fun ⟨k, a, b⟩ => edge_of a b) fun ⟨k, a, b⟩ => edge_of a b⟩
end U.Hull

end
section
/-! Corners round, of spots. -/
namespace U.Hull
open U
def pt : Spot → Pt
  | [a, b] => ⟨val a, val b⟩
  | [a] => ⟨val a, 0⟩
  | _ => ⟨0, 0⟩
def popS (q : Spot) : List Spot → List Spot
  | t :: s :: r => if tn (pt s) (pt t) (pt q) ≤ 0 then popS q (s :: r) else t :: s :: r
  | l => l
def stackS (row : List Spot) : List Spot := row.foldl (fun st q => q :: popS q st) []
theorem pop_map (q : Spot) : ∀ l : List Spot, (popS q l).map pt = pop (pt q) (l.map pt)
  | [] => rfl
  | [t] => rfl
  | t :: s :: r => by
    unfold popS
    show _ = pop (pt q) (pt t :: pt s :: r.map pt)
    unfold pop
    split
    · exact pop_map q (s :: r)
    · rfl
theorem stack_map (row : List Spot) : (stackS row).map pt = stack (row.map pt) := by
  have key : ∀ (row st : List Spot), (row.foldl (fun st q => q :: popS q st) st).map pt = (row.map pt).foldl (fun st q => q :: pop q st) (st.map pt) := fun row => by
    induction row with
    | nil => intro st; rfl
    | cons q row ih =>
      intro st
      rw [List.foldl_cons, ih, List.map_cons, List.map_cons, List.foldl_cons, pop_map]
  exact key row []
def ringS (row : List Spot) : List Spot := (stackS row).tail.reverse ++ (stackS row.reverse).tail.reverse
theorem ring_map (row : List Spot) : (ringS row).map pt = ring (row.map pt) := by
  unfold ringS ring
  rw [List.map_append, List.map_reverse, List.map_reverse, List.map_tail, List.map_tail, stack_map, stack_map, List.map_reverse]
theorem popS_sub {q : Spot} : ∀ {l : List Spot}, ∀ p ∈ popS q l, p ∈ l
  | [], p, h => h
  | [t], p, h => h
  | t :: s :: r, p, h => by
    unfold popS at h
    split at h
    · exact List.mem_cons_of_mem _ (popS_sub p h)
    · exact h
theorem stackS_sub {row : List Spot} : ∀ p ∈ stackS row, p ∈ row := by
  have key : ∀ (row st : List Spot), ∀ p ∈ row.foldl (fun st q => q :: popS q st) st, p ∈ row ∨ p ∈ st := fun row => by
    induction row with
    | nil => intro st p h; exact .inr h
    | cons q row ih =>
      intro st p h
      rcases ih _ p h with h | h
      · exact .inl (List.mem_cons_of_mem _ h)
      · rcases List.mem_cons.mp h with rfl | h
        · exact .inl (List.mem_cons_self ..)
        · exact .inr (popS_sub p h)
  intro p h
  exact (key row [] p h).resolve_right (by simp)
/-- spots of one room -/
structure Rm (r : Nat) (s : Spot) : Prop where
  gd : ∃ a, ∀ f ∈ s, Gd a f
  len : s.length = r
theorem pt_inj {r : Nat} {s t : Spot} (hr : r = 1 ∨ r = 2) (hs : Rm r s) (ht : Rm r t) (h : pt s = pt t) : s = t := by
  obtain ⟨⟨a, ga⟩, la⟩ := hs
  obtain ⟨⟨b, gb⟩, lb⟩ := ht
  rcases hr with rfl | rfl
  · match s, t, la, lb with
    | [x], [y], _, _ =>
      unfold pt at h
      injection h with h1 h2
      rw [gd_inj (ga x (by simp)) (gb y (by simp)) h1]
  · match s, t, la, lb with
    | [x, x'], [y, y'], _, _ =>
      unfold pt at h
      injection h with h1 h2
      rw [gd_inj (ga x (by simp)) (gb y (by simp)) h1, gd_inj (ga x' (by simp)) (gb y' (by simp)) h2]
theorem slt_fw {r : Nat} {s t : Spot} (hr : r = 1 ∨ r = 2) (hs : s.length = r) (ht : t.length = r) : sLt s t ↔ Fw false (sub (pt t) (pt s)) := by
  rcases hr with rfl | rfl
  · match s, t, hs, ht with
    | [x], [y], _, _ =>
      simp only [sLt, Fw, sub, pt, Bool.false_eq_true, if_false]
      grind
  · match s, t, hs, ht with
    | [x, x'], [y, y'], _, _ =>
      simp only [sLt, Fw, sub, pt, Bool.false_eq_true, if_false]
      grind
end U.Hull

end
section
/-! The body of spots in order. -/
namespace U.Hull
open U
structure RowOk (r : Nat) (row : List Spot) : Prop where
  hr : r = 1 ∨ r = 2
  rm : ∀ s ∈ row, Rm r s
  pw : row.Pairwise sLt
  ne : row ≠ []
theorem RowOk.fw {r : Nat} {row : List Spot} (h : RowOk r row) : (row.map pt).Pairwise fun a c => Fw false (sub c a) := by
  rw [List.pairwise_map]
  exact h.pw.imp_of_mem fun {a b} ma mb hab => (slt_fw h.hr (h.rm a ma).len (h.rm b mb).len).mp hab
theorem RowOk.inj {r : Nat} {row : List Spot} (h : RowOk r row) {s t : Spot} (hs : s ∈ row) (ht : t ∈ row) (e : pt s = pt t) : s = t := pt_inj h.hr (h.rm s hs) (h.rm t ht) e
def bodyS (row : List Spot) : List Spot := if row.length = 1 then row else ringS row
theorem nx_perm {P R : List Pt} (h : ∀ p, p ∈ P ↔ p ∈ R) {u v : Pt} (n : Nx P u v) : Nx R u v := ⟨(h v).mp n.1, n.2.1, fun r hr => n.2.2.1 r ((h r).mpr hr), fun r hr => n.2.2.2 r ((h r).mpr hr)⟩
theorem ringS_sub {row : List Spot} : ∀ s ∈ ringS row, s ∈ row := fun s hs => by
  unfold ringS at hs
  rcases List.mem_append.mp hs with h | h
  · exact stackS_sub s (List.mem_of_mem_tail (List.mem_reverse.mp h))
  · exact List.mem_reverse.mp (stackS_sub s (List.mem_of_mem_tail (List.mem_reverse.mp h)))
theorem ring_head {row : List Pt} (hl : 2 ≤ row.length) (h : row.Pairwise fun a c => Fw false (sub c a)) : (ring row).head? = row.head? := by
  have hn : row ≠ [] := by intro e; rw [e] at hl; simp at hl
  have S := stack_ok hn h
  have l2 := stk_two S hl h
  unfold ring
  rw [rev_tail]
  have hb := S.bot
  rw [← hb]
  match hs : (stack row).reverse with
  | [] => rw [List.reverse_eq_nil_iff] at hs; rw [hs] at l2; simp at l2
  | [a] =>
    have : (stack row).length = 1 := by rw [← List.length_reverse, hs]; rfl
    omega
  | a :: b :: l =>
    rw [← List.head?_reverse, hs]
    rfl
structure BodyOk (row bs : List Spot) : Prop where
  nd : bs.Nodup
  sub : ∀ s ∈ bs, s ∈ row
  hd : bs.head? = row.head?
  nx : ∀ (i : Nat) (c : Spot), bs[i]? = some c → ∃ v, bs[(i + 1) % bs.length]? = some v ∧ ((row = [c] ∧ v = c) ∨ (Nx (row.map pt) (pt c) (pt v) ∧ ∀ q, Nx (row.map pt) (pt c) q → q = pt v))
theorem map_nodup_of {α β : Type} {f : α → β} {l : List α} (h : (l.map f).Nodup) : l.Nodup := by
  unfold List.Nodup at *
  rw [List.pairwise_map] at h
  exact h.imp fun hab e => hab (by rw [e])
theorem body_ok {r : Nat} {row : List Spot} (R : RowOk r row) : BodyOk row (bodyS row) := by
  unfold bodyS
  split
  · rename_i h1
    match row, h1 with
    | [s], _ =>
      refine ⟨by simp, fun s hs => hs, rfl, fun i c hi => ⟨c, ?_, .inl ⟨?_, rfl⟩⟩⟩
      · cases i with
        | zero => simpa using hi
        | succ i => simp at hi
      · cases i with
        | zero => simp at hi; rw [hi]
        | succ i => simp at hi
  · rename_i h1
    have hn : row.map pt ≠ [] := by simpa using R.ne
    have hl : 2 ≤ (row.map pt).length := by
      have := List.length_pos_iff.mpr R.ne
      rw [List.length_map]; omega
    have hf := R.fw
    have hfr := rev_pw hf
    have hnr : (row.map pt).reverse ≠ [] := by simpa using hn
    have SL := stack_ok hn hf
    have SU := stack_ok hnr hfr
    have em := ring_map row
    refine ⟨map_nodup_of (f := pt) (by rw [em]; exact ring_nodup hn hf), ringS_sub, ?_, fun i c hi => ?_⟩
    · have h2 := ring_head hl hf
      rw [← em, List.head?_map, List.head?_map] at h2
      match h3 : (ringS row).head?, h4 : row.head? with
      | some a, some b =>
        rw [h3, h4] at h2
        have ma : a ∈ row := ringS_sub a (List.mem_of_mem_head? h3)
        have mb : b ∈ row := List.mem_of_mem_head? h4
        rw [R.inj ma mb (Option.some.inj h2)]
      | none, none => rfl
      | some a, none => rw [h3, h4] at h2; cases h2
      | none, some b => rw [h3, h4] at h2; cases h2
    · have hi' : (ring (row.map pt))[i]? = some (pt c) := by rw [← em, List.getElem?_map, hi]; rfl
      obtain ⟨v, hv, he⟩ := ring_next hl hf hi'
      have el : (ring (row.map pt)).length = (ringS row).length := by rw [← em, List.length_map]
      rw [el, ← em, List.getElem?_map] at hv
      obtain ⟨v', hv', rfl⟩ := Option.map_eq_some_iff.mp hv
      refine ⟨v', hv', .inr ?_⟩
      rcases he with he | he
      · exact ⟨edge_nx SL hf he, fun q hq => nx_uniq SL hf he hq⟩
      · have pm : ∀ p, p ∈ (row.map pt).reverse ↔ p ∈ row.map pt := fun p => List.mem_reverse
        exact ⟨nx_perm pm (edge_nx SU hfr he), fun q hq => nx_uniq SU hfr he (nx_perm (fun p => (pm p).symm) hq)⟩
theorem BodyOk.len {row bs : List Spot} (B : BodyOk row bs) : bs.length ≤ row.length := B.nd.length_le_of_subset B.sub
/-! ### on a line -/
theorem pop_line {q : Spot} (hq : q.length = 1) : ∀ {l : List Spot} {t : Spot}, (∀ s ∈ t :: l, s.length = 1) → popS q (t :: l) = [(t :: l).getLast (by simp)]
  | [], t, _ => rfl
  | s :: l, t, h => by
    have z : tn (pt s) (pt t) (pt q) = 0 := by
      obtain ⟨a, rfl⟩ := List.length_eq_one_iff.mp hq
      obtain ⟨b, rfl⟩ := List.length_eq_one_iff.mp (h t (by simp))
      obtain ⟨c, rfl⟩ := List.length_eq_one_iff.mp (h s (by simp))
      unfold tn cr sub pt
      grind
    unfold popS
    rw [if_pos (by rw [z]; exact Rat.le_refl), pop_line hq fun u hu => h u (List.mem_cons_of_mem _ hu), List.getLast_cons_cons]
theorem stack_line {a : Spot} : ∀ {row : List Spot} (hn : row ≠ []), (∀ s ∈ a :: row, s.length = 1) → stackS (a :: row) = [row.getLast hn, a] := by
  have key : ∀ (row : List Spot) (b : Spot), (∀ s ∈ row, s.length = 1) → a.length = 1 → b.length = 1 → row.foldl (fun st q => q :: popS q st) [b, a] = [(b :: row).getLast (by simp), a] := fun row => by
    induction row with
    | nil => intro b _ _ _; rfl
    | cons q row ih =>
      intro b h ha hb
      rw [List.foldl_cons, pop_line (h q (by simp)) (by intro s hs; simp at hs; rcases hs with rfl | rfl <;> assumption)]
      simp only [List.getLast_cons_cons, List.getLast_singleton]
      rw [ih q (fun s hs => h s (List.mem_cons_of_mem _ hs)) ha (h q (by simp))]
  intro row hn h
  match row, hn, h with
  | b :: row, hn, h =>
    show row.foldl (fun st q => q :: popS q st) (b :: popS b (a :: popS a [])) = _
    have e : popS b (a :: popS a []) = [a] := rfl
    rw [e, key row b (fun s hs => h s (by simp [hs])) (h a (by simp)) (h b (by simp))]
theorem ring_line {a b : Spot} {row : List Spot} (h : ∀ s ∈ a :: (row ++ [b]), s.length = 1) : ringS (a :: (row ++ [b])) = [a, b] := by
  unfold ringS
  have e : (a :: (row ++ [b])).reverse = b :: (row.reverse ++ [a]) := by simp
  rw [stack_line (row := row ++ [b]) (by simp) h, e, stack_line (row := row.reverse ++ [a]) (by simp) (by intro s hs; apply h; simp at hs ⊢; grind)]
  simp
end U.Hull

end
section
/-! enumerate of a list or a tuple. -/
namespace U
open PySem PySem.W PyProof.Rows L2 Evl
section
variable {prog : Program} {w : World} {A : Around} {E : Value → Shared → Prop} {s : Shared}
end
end U

end
section
/-! list comprehensions of two and three clauses. -/
namespace U
open PySem PySem.Spec PyProof.Rows L2
/-- what a clause's rest does to the list at D -/
abbrev TCl := Addr → St → Hp → (Hp → Prop) → Prop
def tElt (te : TE) : TCl := fun D σ H Nx => te σ H fun y H' => ∃ acc, H' D = some (.lst acc) ∧ acc.length < sizeLine ∧ Nx (upd H' D (.lst (acc ++ [y])))
def tClause (wi : TI) (g : TG) (tt : TT) (tc : TCl) (vs : List Nat) : TCl := fun D σ H Nx => wi σ H fun J H1 => ∃ W1 : Nat → Nat → Hp → Prop, (∃ m, W1 0 m H1) ∧ ∀ j k H, W1 j k H →
  (J.stop j H ∧ Nx H) ∨ (J.go j H ∧ ∃ Nx1 : Hp → Prop, (∀ H', Nx1 H' → ∃ k', k' < k ∧ W1 (j + 1) k' H') ∧ ∀ x H', J.yld j H x H' → g x (wipe σ vs) H' fun σ3 H5 => wipe σ3 vs = wipe σ vs ∧ tt σ3 H5 fun b H6 => if b = true then tc D σ3 H6 Nx1 else Nx1 H6)
def tLcN (wi : TI) (g : TG) (tt : TT) (tc : TCl) (vs : List Nat) : TE := fun σ H Q => wi σ H fun J H1 => ∀ D, H1 D = none → ∃ W : Nat → Nat → Hp → Prop, (∃ m, W 0 m (upd H1 D (.lst []))) ∧ ∀ i m H, W i m H →
  (J.stop i H ∧ Q (.ref D) H) ∨ (J.go i H ∧ ∃ Nx : Hp → Prop, (∀ H', Nx H' → ∃ m', m' < m ∧ W (i + 1) m' H') ∧ ∀ x H', J.yld i H x H' → g x (wipe σ vs) H' fun σ2 H2 => wipe σ2 vs = wipe σ vs ∧ tt σ2 H2 fun b H3 =>
    if b = true then tc D σ2 H3 Nx else Nx H3)
abbrev RunT := (Shared → Prop) → (Value → Shared → Prop) → Shared → Prop
def RunE (M : Model) (A : Around) (env : Env) (D : Addr) (elt : Expr) : RunT := fun Post E s => wpAny M A (eval elt env) (fun x s4 => wpAny M A (call (.builtin "list.append") [.ref D, x]) (fun _ s5 => Post s5) E s4) E s
def RunC (M : Model) (A : Around) (env : Env) (D : Addr) (c : Expr) (i : Nat) (iter : Expr) : RunT := fun Post E s =>
  wpAny M A (eval iter env) (fun x s4 => wpAny M A (pyIter x) (fun it1 s5 => codeAny M A (.compStart c i it1 (.ref D) env) (fun r s' => match r with | .ok _ => Post s' | .error _ => False) s5) E s4) E s
/-- the loop of clause i, whose body is run -/
def LoopF (M : Model) (A : Around) (env : Env) (D : Addr) (c : Expr) (i : Nat) (tg : Expr) (ifs : List Expr) (run : RunT) : Prop :=
  ∀ (R : Result → Shared → Prop) (it : Value) (s : Shared) (I : Nat → Shared → Prop)
    (_ : ∀ n s, I n s → wpAny M A (pyNext it) (fun r s₁ => match r with
      | none => R (.ok .next) s₁
      | some v => wpAny M A (letOwnedTupleGo tg it v) (fun _ s₁' => wpAny M A (assign tg env v) (fun _ s₂ =>
          wpAny M A (forIn ifs true fun c r => if r = true then do let ok ← isTrue c env (eval c env); pure (ForInStep.yield ok) else pure (ForInStep.yield r)) (fun ok s₃ =>
            if ok = true then run (fun s₅ => ∃ m, m < n ∧ I m s₅) (notedBy M A env fun e s' => R (.error e) s') s₃
            else ∃ m, m < n ∧ I m s₃) (notedBy M A env fun e s' => R (.error e) s') s₂) (notedBy M A env fun e s' => R (.error e) s') s₁') (notedBy M A env fun e s' => R (.error e) s') s₁) (notedBy M A env fun e s' => R (.error e) s') s)
    (n : Nat), I n s → codeAny M A (.compLoop c i it (.ref D) env) R s
def StartF (M : Model) (A : Around) (env : Env) (D : Addr) (c : Expr) (i : Nat) : Prop :=
  ∀ (R : Result → Shared → Prop) (it : Value) (s : Shared), codeAny M A (.compLoop c i it (.ref D) env) R s →
    wpAny M A (pyIter it) (fun it' s' => codeAny M A (.compLoop c i it' (.ref D) env) R s') (notedBy M A env fun x s' => R (.error x) s') s → codeAny M A (.compStart c i it (.ref D) env) R s
/-- a clause's rest keeps what its reading tells -/
def InnerOk (X : Cx) (own : List Nat) (D : Addr) (tc : TCl) (run : RunT) : Prop :=
  ∀ (pins : List (Addr × Obj)) (s : Shared) (σ : St) (H : Hp) (Nx : Hp → Prop) (Post : Shared → Prop) (E : Value → Shared → Prop), Inv X pins σ H s → tc D σ H Nx →
    (∀ s' H' σ', Inv X pins σ' H' s' → σ.length = σ'.length → (∀ (j : Nat) v, j ∉ own → σ[j]? = some (some v) → σ'[j]? = some (some v)) → Nx H' → Post s') → run Post E s
section
variable {X : Cx} {own : List Nat} {D : Addr}
theorem inner_elt {elt : Expr} {te : TE} (hx : X.xe = fun _ _ => False) (he : PE X elt te) : InnerOk X [] D (tElt te) (RunE (model X.prog X.w) X.A X.env D elt) := fun pins s σ H Nx Post E I h k => by
  have r := he.run pins s σ H _ I h
  rw [hx] at r
  refine thnF r fun z s1 ⟨yv, H1, I1, r1, acc, hD, hz, nx⟩ => ?_
  exact app_ok I1 hD hz r1 fun s2 I2 => k s2 _ σ I2 rfl (fun _ _ _ e => e) nx
theorem inner_mid {c : Expr} {i : Nat} {tg iter : Expr} {ifs : List Expr} {wi : TI} {g : TG} {tt : TT} {tc : TCl} {vs : List Nat} {run : RunT} (hx : X.xe = fun _ _ => False) (hc : X.calm = true) (hv : ∀ i ∈ own, i ∈ vs)
    (hi : PI X tg iter wi) (hg : PG X tg g) (ht : PTs X ifs tt) (ih : InnerOk X own D tc run) (L : LoopF (model X.prog X.w) X.A X.env D c i tg ifs run) (S : StartF (model X.prog X.w) X.A X.env D c i) :
    InnerOk X vs D (tClause wi g tt tc vs) (RunC (model X.prog X.w) X.A X.env D c i iter) := fun pins s σ H Nx Post E I h k => by
  have r := hi.run pins s σ H _ I h
  rw [hx] at r
  refine thnF r fun xv s10 hx1 => ?_
  refine thnF hx1 fun itv s11 h11 => ?_
  obtain ⟨it1, fp1, tn1, J1, H11, e1, I11, T1, st11, f11, W1, ⟨m1, w1⟩, turn1⟩ := h11
  subst e1
  have stat1 : ∀ {H' : Hp}, (∀ b ∈ fp1, H' b = none) → ∀ b ∈ fp1, FpOk X pins H' b := fun hn b hb => ⟨hn b hb, (f11 b hb).2⟩
  have loop1 : codeAny (model X.prog X.w) X.A (.compLoop c i (.ref it1) (.ref D) X.env) (fun r s' => match r with | .ok _ => Post s' | .error _ => False) s11 := by
    refine L _ _ _ (fun k s' => ∃ j H', Inv X pins (wipe σ vs) H' s' ∧ tn1 j s'.heap ∧ (∀ b ∈ fp1, H' b = none) ∧ W1 j k H') ?_ m1 ⟨0, H11, I11.weak (wipe_length _ _) (fun j v e => (wipe_some e).1), st11, fun b hb => (f11 b hb).1, w1⟩
    rintro k1 s12 ⟨j, H12, I12, st12, n12, w12⟩
    rcases turn1 j k1 H12 w12 with ⟨stop1, nx1⟩ | ⟨go1, Nx1, hNx1, step1⟩
    · refine thnF (T1.done X rfl rfl rfl hc j _ s12 (wipe σ vs) H12 (fun _ _ => False) I12 (stat1 n12) st12 stop1) fun r s13 ⟨hr, I13⟩ => ?_
      subst hr
      refine k s13 H12 (wipe σ vs) I13 (wipe_length σ vs).symm (fun j v hj e => ?_) nx1
      rw [wipe_out hj]
      exact e
    · refine thnF (T1.item X rfl rfl rfl hc j _ s12 (wipe σ vs) H12 (fun _ _ => False) I12 (stat1 n12) st12 go1) fun r s13 ⟨u1, hr, h13⟩ => ?_
      subst hr
      refine thnF h13 fun _ s14 ⟨x1, H14, I14, r14, y14, st14, n14⟩ => ?_
      have I14' := I14.pinned (stat1 n14) (T1.obj _ _ st14)
      have rg := hg.run _ s14 (wipe σ vs) H14 x1 u1 _ I14' r14 (step1 x1 H14 y14)
      rw [hx] at rg
      refine thnF rg fun _ s15 ⟨σ15, H15, I15, hw15, q15⟩ => ?_
      have rt := ht.run _ s15 σ15 H15 _ I15 q15
      rw [hx] at rt
      refine thnF rt fun b1 s16 ⟨H16, I16, q16⟩ => ?_
      have fin1 : ∀ {s' : Shared} {H' : Hp} {σ' : St}, Inv X (pins ++ pinsAt fp1 s14.heap) σ' H' s' → σ15.length = σ'.length → (∀ (j : Nat) v, (wipe σ vs)[j]? = some (some v) → σ'[j]? = some (some v)) → Nx1 H' → ∃ m, m < k1 ∧ ∃ j H', Inv X pins (wipe σ vs) H' s' ∧ tn1 j s'.heap ∧ (∀ b ∈ fp1, H' b = none) ∧ W1 j m H' := fun {s' H' σ'} I' hl hk nx => by
        obtain ⟨m', hm, w'⟩ := hNx1 H' nx
        have pin' : ∀ b ∈ fp1, ∀ o, s14.heap.get? b = some o → s'.heap.get? b = some o ∧ H' b = none := fun b hb o e =>
          let z := I'.pin (b, o) (List.mem_append_right _ (List.mem_append_right _ (mem_pinsAt hb e)))
          ⟨z.1, z.2.1⟩
        refine ⟨m', hm, j + 1, H', I'.unpinned.weak (by rw [← hl, ← hw15, wipe_length]) hk, T1.keep _ _ _ st14 fun b hb o e => (pin' b hb o e).1, fun b hb => ?_, w'⟩
        obtain ⟨o, e, _⟩ := T1.obj _ _ st14 b hb
        exact (pin' b hb o e).2
      have k15 : ∀ (j : Nat) v, (wipe σ vs)[j]? = some (some v) → σ15[j]? = some (some v) := fun j v e => by rw [← hw15] at e; exact (wipe_some e).1
      cases b1 with
      | false =>
        simp only [Bool.false_eq_true, if_false] at q16 ⊢
        exact fin1 I16 rfl k15 q16
      | true =>
        simp only [if_true] at q16 ⊢
        exact ih _ s16 σ15 H16 Nx1 _ _ I16 q16 fun s' H' σ' I' hl hk nx => fin1 I' hl (fun j v e => hk j v (fun z => (wipe_some e).2 (hv j z)) (k15 j v e)) nx
  exact S _ _ _ loop1 (T1.self X.A 0 _ _ _ st11 loop1)
/-- what a comprehension of many clauses is made of -/
structure LcOk (X : Cx) (c elt tg iter : Expr) (ifs : List Expr) (rest : List Comprehension) (scope : Scope) (pos : Pos) (g : TG) (tt : TT) (tc : TCl) (ns vs : List Nat) : Prop where
  hc : c = .ListComp elt (⟨tg, iter, ifs, 0⟩ :: rest) scope pos
  hns : ∀ i ∈ ns, i ∈ vs
  ok : ∀ (s : Shared) (H : Hp) (C : Addr) (cl : List (Str × Addr)) (fp : List Addr) (D : Addr), ∃ run, InnerOk (X.blk s H scope (compEnvC scope cl C X.env) fp) ns D tc run ∧ LoopF (model X.prog X.w) X.A (compEnvC scope cl C X.env) D c 0 tg ifs run
theorem lcN_core {pins : List (Addr × Obj)} {s : Shared} {σ : St} {H : Hp} {Q : VK} {c elt tg iter : Expr} {ifs : List Expr} {rest : List Comprehension} {scope : Scope} {own : List (Str × Nat)} {pos pos' : Pos} {wi : TI} {g : TG} {tt : TT} {tc : TCl} {ns : List Nat} {use : Option (Value → Sem Unit)} {Qf : Value → Shared → Prop}
    (hc : X.calm = true) (hN : X.N.Nodup) (I : Inv X pins σ H s) (hi : PI X tg iter wi) (ok : BlkOk X.N X.env.scope scope own)
    (hg : ∀ (s : Shared) (H : Hp) (C : Addr) (cl : List (Str × Addr)) (fp : List Addr), PG (X.blk s H scope (compEnvC scope cl C X.env) fp) tg g) (ht : ∀ (s : Shared) (H : Hp) (C : Addr) (cl : List (Str × Addr)) (fp : List Addr), PTs (X.blk s H scope (compEnvC scope cl C X.env) fp) ifs tt)
    (L : LcOk X c elt tg iter ifs rest scope pos g tt tc ns (own.map (·.2))) (hs : ∀ x, foldedSetIterable iter X.env x = pure x)
    (h : tLcN wi g tt tc (own.map (·.2)) σ H Q)
    (hRR : ∀ D C s' m H', Inv X pins σ H' s' → Q (.ref D) H' → s'.heap.Ns C m → FpOk X pins H' C → compPost (model X.prog X.w) X.A X.xe use Qf (.ref D) C (.ok .next) s') :
    wpAny (model X.prog X.w) X.A (comprehension (.ListComp elt (⟨tg, iter, ifs, 0⟩ :: rest) scope pos) scope X.env pos' (newList []) false (eval iter X.env) use) Qf X.xe s := by
  have hfree : ∀ y ∈ scope.names, y.2 = .free → ∃ c, X.env.cells.lookup y.1 = some c := fun y hy e => by
    rcases ok.free y hy e with k | k
    · exact I.ok.has _ (.inl k)
    · exact I.ok.has _ (.inr k)
  refine wpAny_comprehension_free (use := use) rfl hs (closure_ok hfree) ok.kind (fun y hy e => by rw [ok.uniq y hy, e])
    (thn (hi.run pins s σ H _ I h) fun xv s1 hx => thn hx fun itv s2 h2 => ?_)
  obtain ⟨it, fp, tn, J, H2, e, I2, T, st2, f2, q⟩ := h2
  subst e
  refine wpAny_newObj_type (newEnv_comp ?_) (by show 0 ≤ sizeLine; decide)
  generalize hD : s2.heap.objs.size = D
  have hDn : H2 D = none := I2.hok.fresh (Nat.le_of_eq hD)
  obtain ⟨W, ⟨m0, w0⟩, turn⟩ := q D hDn
  generalize hs3 : ({ s2 with heap := s2.heap.push { cls := .type "list", data := .seq ([] : List Value).toArray } } : Shared) = s3
  have I3 : Inv X pins σ (upd H2 D (.lst [])) s3 := by
    rw [← hs3]
    refine I2.laid (t' := s2.toks) (fun b o e => Heap.get?_push_of_some _ e) (Nat.le_of_eq hD) ⟨Nat.zero_le _, [], 0, .nil, ?_⟩
    rw [← hD]
    exact Heap.get?_push_size _ rfl
  have h3 : s3.heap = s2.heap.push { cls := .type "list", data := .seq ([] : List Value).toArray } := by rw [← hs3]
  have sz : ∀ b ∈ fp, b < s2.heap.objs.size := fun b hb => by
    obtain ⟨o, e, _⟩ := T.obj _ _ st2 b hb
    exact Heap.lt_size e
  have f3 : ∀ b ∈ fp, FpOk X pins (upd H2 D (.lst [])) b ∧ b < s3.heap.objs.size := fun b hb => by
    have hlt := sz b hb
    refine ⟨⟨?_, (f2 b hb).2⟩, by rw [h3, Heap.size_push]; exact Nat.lt_succ_of_lt hlt⟩
    rw [upd_ne (by rw [← hD]; exact Nat.ne_of_lt hlt)]
    exact (f2 b hb).1
  have st3 : tn 0 s3.heap := T.keep _ _ _ st2 fun b _ o e => by rw [h3]; exact Heap.get?_push_of_some _ e
  have I4 := block_start I3 ok hN f3
  have pg := hg s3 (upd H2 D (.lst [])) s3.heap.objs.size (cellsFrom (s3.heap.objs.size + 1) scope.names (cloFrom X.env.cells scope.names [])) fp
  have pt := ht s3 (upd H2 D (.lst [])) s3.heap.objs.size (cellsFrom (s3.heap.objs.size + 1) scope.names (cloFrom X.env.cells scope.names [])) fp
  obtain ⟨run, pe, LF⟩ := L.ok s3 (upd H2 D (.lst [])) s3.heap.objs.size (cellsFrom (s3.heap.objs.size + 1) scope.names (cloFrom X.env.cells scope.names [])) fp D
  rw [L.hc] at LF
  show codeAny _ _ (.compStart (.ListComp elt (⟨tg, iter, ifs, 0⟩ :: rest) scope pos) 0 (.ref it) (.ref D) (compEnvC scope (cellsFrom (s3.heap.objs.size + 1) scope.names (cloFrom X.env.cells scope.names [])) s3.heap.objs.size X.env)) (compPost (model X.prog X.w) X.A X.xe use Qf (.ref D) s3.heap.objs.size) { s3 with heap := pushCells (s3.heap.push { cls := .type "dict", data := .dict #[] }) scope.names }
  have nfp : ∀ b ∈ fp, (upd H2 D (.lst [])) b = none := fun b hb => (f3 b hb).1.1
  generalize hce : compEnvC scope (cellsFrom (s3.heap.objs.size + 1) scope.names (cloFrom X.env.cells scope.names [])) s3.heap.objs.size X.env = ce at I4 pg pt pe LF ⊢
  have cL : ce.locals = s3.heap.objs.size := by subst hce; rfl
  generalize hH3 : upd H2 D (.lst []) = H3 at I3 I4 pg pt pe w0 nfp f3
  generalize hs4 : ({ s3 with heap := pushCells (s3.heap.push { cls := .type "dict", data := .dict #[] }) scope.names } : Shared) = s4 at I4 ⊢
  have st4 : tn 0 s4.heap := T.keep _ _ _ st3 fun b _ o e => by rw [← hs4]; exact pushCells_keeps _ _ _ _ (Heap.get?_push_of_some _ e)
  have stat : ∀ {σ' : St} {H' : Hp} {s' : Shared}, Inv (X.blk s3 H3 scope ce fp) [] σ' H' s' → (∀ b ∈ fp, H' b = none) → ∀ b ∈ fp, FpOk (X.blk s3 H3 scope ce fp) [] H' b := fun {σ' H' s'} I' hn b hb =>
    ⟨hn b hb, (I'.ok.exf b hb).1, I'.ok.exfs b hb, .inl hb, fun x c e => (I'.ok.exf b hb).2 x c e, fun p hp => absurd (show p ∈ ([] : List (Addr × Obj)) ++ [] from hp) (by simp)⟩
  have loop : codeAny (model X.prog X.w) X.A (.compLoop (.ListComp elt (⟨tg, iter, ifs, 0⟩ :: rest) scope pos) 0 (.ref it) (.ref D) ce) (compPost (model X.prog X.w) X.A X.xe use Qf (.ref D) s3.heap.objs.size) s4 := by
    refine LF _ _ _ (fun n s' => ∃ i H', Inv (X.blk s3 H3 scope ce fp) [] (wipe σ (own.map (·.2))) H' s' ∧ tn i s'.heap ∧ (∀ b ∈ fp, H' b = none) ∧ W i n H') ?_ m0 ⟨0, H3, I4, st4, nfp, w0⟩
    rintro n s5 ⟨i, H5, I5, st5, n5, w5⟩
    rcases turn i n H5 w5 with ⟨stop, qq⟩ | ⟨go, Nx, hNx, step⟩
    · have td := T.done (X.blk s3 H3 scope ce fp) rfl rfl rfl hc i [] s5 _ H5 (fun _ _ => False) I5 (stat I5 n5) st5 stop
      refine thnF td fun r s6 ⟨hr, I6⟩ => ?_
      subst hr
      have I7 : Inv X pins σ H5 s6 := I3.call' (ch := fp) I6.os I6.base I6.hok I6.bare fun b hb => ⟨(f3 b hb).1.2.2.2.1, (f3 b hb).1.2.1, (f3 b hb).1.2.2.2.2.1, (f3 b hb).1.2.2.2.2.2⟩
      have nC : H5 s3.heap.objs.size = none := by
        have z : H5 ce.locals = none := I6.free
        rw [cL] at z
        exact z
      obtain ⟨m, hn, _⟩ := I6.loc
      have hn : s6.heap.Ns ce.locals m := hn
      rw [cL] at hn
      exact hRR D s3.heap.objs.size s6 m H5 I7 qq hn (I3.fpOk (Nat.le_refl _) nC)
    · have ti := T.item (X.blk s3 H3 scope ce fp) rfl rfl rfl hc i [] s5 _ H5 (fun _ _ => False) I5 (stat I5 n5) st5 go
      refine thnF ti fun r s6 ⟨u, hr, h6⟩ => ?_
      subst hr
      refine thnF h6 fun _ s7 ⟨x, H7, I7, r7, y7, st7, n7⟩ => ?_
      have I7' := I7.pinned (stat I7 n7) (T.obj _ _ st7)
      refine thnF (pg.run _ s7 _ H7 x u _ I7' r7 (step x H7 y7)) fun _ s8 ⟨σ8, H8, I8, hw8, q8⟩ => ?_
      refine thnF (pt.run _ s8 σ8 H8 _ I8 q8) fun b s9 ⟨H9, I9, q9⟩ => ?_
      have fin : ∀ {s' : Shared} {H' : Hp} {σ9 : St}, Inv (X.blk s3 H3 scope ce fp) ([] ++ pinsAt fp s7.heap) σ9 H' s' → σ8.length = σ9.length → (∀ (j : Nat) v, (wipe σ (own.map (·.2)))[j]? = some (some v) → σ9[j]? = some (some v)) → Nx H' → ∃ m, m < n ∧ ∃ i H', Inv (X.blk s3 H3 scope ce fp) [] (wipe σ (own.map (·.2))) H' s' ∧ tn i s'.heap ∧ (∀ b ∈ fp, H' b = none) ∧ W i m H' := fun {s' H' σ9} I' hl hk nx => by
        obtain ⟨m', hm, w'⟩ := hNx H' nx
        have pin' : ∀ b ∈ fp, ∀ o, s7.heap.get? b = some o → s'.heap.get? b = some o ∧ H' b = none := fun b hb o e =>
          let z := I'.pin (b, o) (List.mem_append_right _ (List.mem_append_right _ (mem_pinsAt hb e)))
          ⟨z.1, z.2.1⟩
        refine ⟨m', hm, i + 1, H', (I'.unpinned (pins := [])).weak (by rw [← hl, ← hw8, wipe_length]) hk, T.keep _ _ _ st7 fun b hb o e => (pin' b hb o e).1, fun b hb => ?_, w'⟩
        obtain ⟨o, e, _⟩ := T.obj _ _ st7 b hb
        exact (pin' b hb o e).2
      have k8 : ∀ (j : Nat) v, (wipe σ (own.map (·.2)))[j]? = some (some v) → σ8[j]? = some (some v) := fun j v e => by rw [← hw8] at e; exact (wipe_some e).1
      cases b with
      | false =>
        simp only [Bool.false_eq_true, if_false] at q9 ⊢
        exact fin I9 rfl k8 q9
      | true =>
        simp only [if_true] at q9 ⊢
        exact pe _ s9 σ8 H9 Nx _ _ I9 q9 fun s' H' σ' I' hl hk nx => fin I' hl (fun j v e => hk j v (fun z => (wipe_some e).2 (L.hns j z)) (k8 j v e)) nx
  exact codeAny_compStart_list loop (T.self X.A 0 _ _ _ st4 loop)
theorem pe_lcN {c elt tg iter : Expr} {ifs : List Expr} {rest : List Comprehension} {scope : Scope} {own : List (Str × Nat)} {pos : Pos} {wi : TI} {g : TG} {tt : TT} {tc : TCl} {ns : List Nat} (hc : X.calm = true) (hN : X.N.Nodup) (hi : PI X tg iter wi) (ok : BlkOk X.N X.env.scope scope own)
    (hg : ∀ (s : Shared) (H : Hp) (C : Addr) (cl : List (Str × Addr)) (fp : List Addr), PG (X.blk s H scope (compEnvC scope cl C X.env) fp) tg g) (ht : ∀ (s : Shared) (H : Hp) (C : Addr) (cl : List (Str × Addr)) (fp : List Addr), PTs (X.blk s H scope (compEnvC scope cl C X.env) fp) ifs tt)
    (L : LcOk X c elt tg iter ifs rest scope pos g tt tc ns (own.map (·.2))) (hs : ∀ x, foldedSetIterable iter X.env x = pure x := by intro _; rfl) :
    PE X (.ListComp elt (⟨tg, iter, ifs, 0⟩ :: rest) scope pos) (tLcN wi g tt tc (own.map (·.2))) := by
  refine ⟨fun pins s σ H Q I h => ?_⟩
  rw [eval_ListComp]
  refine lcN_core hc hN I hi ok hg ht L hs h fun D C s' m H' I' q hn f => ⟨m, hn, fun h'' sb => ?_⟩
  obtain ⟨f0, f1, f2, f3, f4, f5⟩ := f
  exact ⟨.ref D, H', I'.turned (t' := s'.toks) (fun b o hb e => (sb.2 b hb).trans e) f0 f1 f3 f4 f5, rfl, q⟩
end
section
variable {X : Cx}
end
/-! ### the clauses' own loops -/
def MidF (c : Expr) (i : Nat) (t0 i0 : Expr) (ifs0 : List Expr) (i1 : Expr) : Prop := ∀ (it acc : Value) (env : Env), compTurn c i it acc env = (do
      standAt i0.pos
      match ← pyNext it with
      | none => pure (.done .next)
      | some v =>
        letOwnedTupleGo t0 it v
        assign t0 env v
        let mut ok := true
        for c in ifs0 do
          if ok then ok ← isTrue c env (eval c env)
        if ok then
          let x ← eval i1 env
          standAt i1.pos
          let x ← foldedSetIterable i1 env x
          let _ ← runOwn (.compStart c (i + 1) (← holding [x] (pyIter x)) acc env) env
        again (.compLoop c i it acc env))
def LastF (c : Expr) (i : Nat) (t1 i1 : Expr) (ifs1 : List Expr) (elt : Expr) : Prop := ∀ (it acc : Value) (env : Env), compTurn c i it acc env = (do
      standAt i1.pos
      match ← pyNext it with
      | none => pure (.done .next)
      | some v =>
        letOwnedTupleGo t1 it v
        assign t1 env v
        let mut ok := true
        for c in ifs1 do
          if ok then ok ← isTrue c env (eval c env)
        if ok then
          (do let _ ← call (.builtin "list.append") [acc, ← eval elt env])
        again (.compLoop c i it acc env))
section
variable {prog : Program} {w : World} {A : Around} {env : Env} {D : Addr} {c elt t0 i0 i1 : Expr} {i : Nat} {ifs0 : List Expr}
theorem loop_mid {el : Expr} {gens : List Comprehension} {scope : Scope} {pos : Pos} (hcc : c = .ListComp el gens scope pos) (F : MidF c i t0 i0 ifs0 i1) (hs : ∀ env x, foldedSetIterable i1 env x = pure x := by intro _ _; rfl) : LoopF (model prog w) A env D c i t0 ifs0 (RunC (model prog w) A env D c (i + 1) i1) := fun R it s I turn n h => by
  subst hcc
  refine codeAny_loop rfl I (fun n s hI => ?_) n h
  show wpAny _ A ((compTurn (.ListComp el gens scope pos) i it (.ref D) env).onRaise (fun x => do noteFrame x env; theTreesLotGoes x)) _ _ s
  refine wpAny_noted ?_
  rw [F]
  refine wpAny_bind (wpAny_standAt (wpAny_bind (wpAny_mono (turn n s hI) (fun r s₁ h₁ => ?_) fun _ _ h' => h')))
  cases r with
  | none => exact wpAny_pure h₁
  | some v =>
    refine wpAny_bind (wpAny_mono h₁ (fun _ s₁' h₁' => ?_) fun _ _ h' => h')
    refine wpAny_bind (wpAny_mono h₁' (fun _ s₂ h₂ => wpAny_bind (wpAny_mono h₂ (fun ok s₃ h₃ => ?_) fun _ _ h' => h')) fun _ _ h' => h')
    cases ok with
    | false => exact wpAny_pure ⟨rfl, h₃⟩
    | true =>
      have h₃ : RunC (model prog w) A env D _ (i + 1) i1 _ _ s₃ := h₃
      unfold RunC at h₃
      refine wpAny_bind (wpAny_mono h₃ (fun x s₄ h₄ => ?_) fun _ _ h' => h')
      refine wpAny_bind (wpAny_standAt (wpAny_bind (wpAny_of_eq (hs env x) (wpAny_bind (wpAny_holding (wpAny_mono h₄ (fun it1 s₅ h₅ => ?_) fun _ _ h' => h'))))))
      refine wpAny_bind (wpAny_runOwn ?_)
      rw [Around.mark_none]
      refine codeAny_mono h₅ fun r s' hr => ?_
      cases r with
      | ok f =>
        first
          | exact wpAny_pure ⟨rfl, hr⟩
          | exact wpAny_bind (wpAny_pure (wpAny_pure ⟨rfl, hr⟩))
      | error e => exact hr.elim
theorem loop_last {el : Expr} {gens : List Comprehension} {scope : Scope} {pos : Pos} (hcc : c = .ListComp el gens scope pos) (F : LastF c i t0 i0 ifs0 elt) : LoopF (model prog w) A env D c i t0 ifs0 (RunE (model prog w) A env D elt) := fun R it s I turn n h => by
  subst hcc
  refine codeAny_loop rfl I (fun n s hI => ?_) n h
  show wpAny _ A ((compTurn (.ListComp el gens scope pos) i it (.ref D) env).onRaise (fun x => do noteFrame x env; theTreesLotGoes x)) _ _ s
  refine wpAny_noted ?_
  rw [F]
  refine wpAny_bind (wpAny_standAt (wpAny_bind (wpAny_mono (turn n s hI) (fun r s₁ h₁ => ?_) fun _ _ h' => h')))
  cases r with
  | none => exact wpAny_pure h₁
  | some v =>
    refine wpAny_bind (wpAny_mono h₁ (fun _ s₁' h₁' => ?_) fun _ _ h' => h')
    refine wpAny_bind (wpAny_mono h₁' (fun _ s₂ h₂ => wpAny_bind (wpAny_mono h₂ (fun ok s₃ h₃ => ?_) fun _ _ h' => h')) fun _ _ h' => h')
    cases ok with
    | false => exact wpAny_pure ⟨rfl, h₃⟩
    | true =>
      have h₃ : RunE (model prog w) A env D elt _ _ s₃ := h₃
      unfold RunE at h₃
      exact wpAny_bind (wpAny_bind (wpAny_mono h₃ (fun x s₄ h₄ => wpAny_bind (wpAny_mono h₄ (fun _ s₅ h₅ => wpAny_pure (wpAny_pure ⟨rfl, h₅⟩)) fun _ _ h' => h')) fun _ _ h' => h'))
end
section
variable {elt t0 i0 t1 i1 t2 i2 : Expr} {ifs0 ifs1 ifs2 : List Expr} {scope : Scope} {pos : Pos}
theorem mid2 : MidF (.ListComp elt [⟨t0, i0, ifs0, 0⟩, ⟨t1, i1, ifs1, 0⟩] scope pos) 0 t0 i0 ifs0 i1 := fun _ _ _ => by rfl
theorem last2 : LastF (.ListComp elt [⟨t0, i0, ifs0, 0⟩, ⟨t1, i1, ifs1, 0⟩] scope pos) 1 t1 i1 ifs1 elt := fun _ _ _ => by rfl
theorem mid30 : MidF (.ListComp elt [⟨t0, i0, ifs0, 0⟩, ⟨t1, i1, ifs1, 0⟩, ⟨t2, i2, ifs2, 0⟩] scope pos) 0 t0 i0 ifs0 i1 := fun _ _ _ => by rfl
theorem mid31 : MidF (.ListComp elt [⟨t0, i0, ifs0, 0⟩, ⟨t1, i1, ifs1, 0⟩, ⟨t2, i2, ifs2, 0⟩] scope pos) 1 t1 i1 ifs1 i2 := fun _ _ _ => by rfl
theorem last3 : LastF (.ListComp elt [⟨t0, i0, ifs0, 0⟩, ⟨t1, i1, ifs1, 0⟩, ⟨t2, i2, ifs2, 0⟩] scope pos) 2 t2 i2 ifs2 elt := fun _ _ _ => by rfl
variable {prog : Program} {w : World} {A : Around} {env : Env} {D : Addr}
theorem start21 : StartF (model prog w) A env D (.ListComp elt [⟨t0, i0, ifs0, 0⟩, ⟨t1, i1, ifs1, 0⟩] scope pos) 1 := fun R it s h0 h => compStart1_ok h0 h
theorem start31 : StartF (model prog w) A env D (.ListComp elt [⟨t0, i0, ifs0, 0⟩, ⟨t1, i1, ifs1, 0⟩, ⟨t2, i2, ifs2, 0⟩] scope pos) 1 := fun R it s h0 h => by
  refine codeAny_of_tree ?_
  show wpAny _ _ ((compStart (.ListComp elt [⟨t0, i0, ifs0, 0⟩, ⟨t1, i1, ifs1, 0⟩, ⟨t2, i2, ifs2, 0⟩] scope pos) 1 it (.ref D) env).onRaise (fun x => do noteFrame x env; standAt theWindowsPlace)) _ _ s
  refine wpAny_notedAt ?_
  unfold compStart
  show wpAny _ _ (ask >>= _) _ _ s
  refine wpAny_bind (wpAny_askSetting (wpAny_ite ?_))
  split
  · first
      | exact wpAny_bind (wpAny_pure (wpAny_pure (And.intro rfl h0)))
      | exact wpAny_pure (And.intro rfl h0)
  · first
      | exact wpAny_bind (wpAny_rule (wpAny_bind (wpAny_standAt (wpAny_bind (wpAny_mono h (fun it' s' h' => wpAny_pure (And.intro rfl h')) fun _ _ x => x)))))
      | (refine wpAny_bind (wpAny_rule ?_); show wpAny _ _ (standAt i1.pos >>= _) _ _ s; exact wpAny_bind (wpAny_standAt (wpAny_bind (wpAny_mono h (fun it' s' h' => wpAny_pure (And.intro rfl h')) fun _ _ x => x))))
theorem start32 : StartF (model prog w) A env D (.ListComp elt [⟨t0, i0, ifs0, 0⟩, ⟨t1, i1, ifs1, 0⟩, ⟨t2, i2, ifs2, 0⟩] scope pos) 2 := fun R it s h0 h => by
  refine codeAny_of_tree ?_
  show wpAny _ _ ((compStart (.ListComp elt [⟨t0, i0, ifs0, 0⟩, ⟨t1, i1, ifs1, 0⟩, ⟨t2, i2, ifs2, 0⟩] scope pos) 2 it (.ref D) env).onRaise (fun x => do noteFrame x env; standAt theWindowsPlace)) _ _ s
  refine wpAny_notedAt ?_
  unfold compStart
  show wpAny _ _ (ask >>= _) _ _ s
  refine wpAny_bind (wpAny_askSetting (wpAny_ite ?_))
  split
  · first
      | exact wpAny_bind (wpAny_pure (wpAny_pure (And.intro rfl h0)))
      | exact wpAny_pure (And.intro rfl h0)
  · first
      | exact wpAny_bind (wpAny_rule (wpAny_bind (wpAny_standAt (wpAny_bind (wpAny_mono h (fun it' s' h' => wpAny_pure (And.intro rfl h')) fun _ _ x => x)))))
      | (refine wpAny_bind (wpAny_rule ?_); show wpAny _ _ (standAt i2.pos >>= _) _ _ s; exact wpAny_bind (wpAny_standAt (wpAny_bind (wpAny_mono h (fun it' s' h' => wpAny_pure (And.intro rfl h')) fun _ _ x => x))))
end
/-! ### the rules for use -/
section
variable {X : Cx} {elt tg iter tg1 iter1 tg2 iter2 : Expr} {ifs ifs1 ifs2 : List Expr} {scope : Scope} {own : List (Str × Nat)} {pos : Pos} {wi wi1 wi2 : TI} {g g1 g2 : TG} {tt tt1 tt2 : TT} {te : TE} {vs1 vs2 : List Nat}
theorem lcB_ok (hc : X.calm = true) (hv : vs1.all (fun i => (own.map (·.2)).contains i) = true)
    (hi1 : ∀ (s : Shared) (H : Hp) (C : Addr) (cl : List (Str × Addr)) (fp : List Addr), PI (X.blk s H scope (compEnvC scope cl C X.env) fp) tg1 iter1 wi1)
    (hg1 : ∀ (s : Shared) (H : Hp) (C : Addr) (cl : List (Str × Addr)) (fp : List Addr), PG (X.blk s H scope (compEnvC scope cl C X.env) fp) tg1 g1) (ht1 : ∀ (s : Shared) (H : Hp) (C : Addr) (cl : List (Str × Addr)) (fp : List Addr), PTs (X.blk s H scope (compEnvC scope cl C X.env) fp) ifs1 tt1)
    (he : ∀ (s : Shared) (H : Hp) (C : Addr) (cl : List (Str × Addr)) (fp : List Addr), PE (X.blk s H scope (compEnvC scope cl C X.env) fp) elt te) (hs1 : ∀ env x, foldedSetIterable iter1 env x = pure x := by intro _ _; rfl) :
    LcOk X (.ListComp elt [⟨tg, iter, ifs, 0⟩, ⟨tg1, iter1, ifs1, 0⟩] scope pos) elt tg iter ifs [⟨tg1, iter1, ifs1, 0⟩] scope pos g tt (tClause wi1 g1 tt1 (tElt te) vs1) vs1 (own.map (·.2)) :=
  ⟨rfl, fun i hi => by simpa using List.all_eq_true.mp hv i hi, fun s H C cl fp D => ⟨_, inner_mid rfl hc (by simp) (hi1 s H C cl fp) (hg1 s H C cl fp) (ht1 s H C cl fp) (inner_elt rfl (he s H C cl fp)) (loop_last rfl last2) start21, loop_mid rfl mid2 hs1⟩⟩
theorem lcC_ok (hc : X.calm = true) (hv : vs1.all (fun i => (own.map (·.2)).contains i) = true) (hv2 : vs2.all (fun i => vs1.contains i) = true)
    (hi1 : ∀ (s : Shared) (H : Hp) (C : Addr) (cl : List (Str × Addr)) (fp : List Addr), PI (X.blk s H scope (compEnvC scope cl C X.env) fp) tg1 iter1 wi1)
    (hg1 : ∀ (s : Shared) (H : Hp) (C : Addr) (cl : List (Str × Addr)) (fp : List Addr), PG (X.blk s H scope (compEnvC scope cl C X.env) fp) tg1 g1) (ht1 : ∀ (s : Shared) (H : Hp) (C : Addr) (cl : List (Str × Addr)) (fp : List Addr), PTs (X.blk s H scope (compEnvC scope cl C X.env) fp) ifs1 tt1)
    (hi2 : ∀ (s : Shared) (H : Hp) (C : Addr) (cl : List (Str × Addr)) (fp : List Addr), PI (X.blk s H scope (compEnvC scope cl C X.env) fp) tg2 iter2 wi2)
    (hg2 : ∀ (s : Shared) (H : Hp) (C : Addr) (cl : List (Str × Addr)) (fp : List Addr), PG (X.blk s H scope (compEnvC scope cl C X.env) fp) tg2 g2) (ht2 : ∀ (s : Shared) (H : Hp) (C : Addr) (cl : List (Str × Addr)) (fp : List Addr), PTs (X.blk s H scope (compEnvC scope cl C X.env) fp) ifs2 tt2)
    (he : ∀ (s : Shared) (H : Hp) (C : Addr) (cl : List (Str × Addr)) (fp : List Addr), PE (X.blk s H scope (compEnvC scope cl C X.env) fp) elt te) (hs1 : ∀ env x, foldedSetIterable iter1 env x = pure x := by intro _ _; rfl) (hs2 : ∀ env x, foldedSetIterable iter2 env x = pure x := by intro _ _; rfl) :
    LcOk X (.ListComp elt [⟨tg, iter, ifs, 0⟩, ⟨tg1, iter1, ifs1, 0⟩, ⟨tg2, iter2, ifs2, 0⟩] scope pos) elt tg iter ifs [⟨tg1, iter1, ifs1, 0⟩, ⟨tg2, iter2, ifs2, 0⟩] scope pos g tt (tClause wi1 g1 tt1 (tClause wi2 g2 tt2 (tElt te) vs2) vs1) vs1 (own.map (·.2)) :=
  ⟨rfl, fun i hi => by simpa using List.all_eq_true.mp hv i hi, fun s H C cl fp D => ⟨_, inner_mid rfl hc (fun i hi => by simpa using List.all_eq_true.mp hv2 i hi) (hi1 s H C cl fp) (hg1 s H C cl fp) (ht1 s H C cl fp) (inner_mid rfl hc (by simp) (hi2 s H C cl fp) (hg2 s H C cl fp) (ht2 s H C cl fp) (inner_elt rfl (he s H C cl fp)) (loop_last rfl last3) start32) (loop_mid rfl mid31 hs2) start31, loop_mid rfl mid30 hs1⟩⟩
end
end U

end
section
namespace U.N
open PySem PyProof.Rows L2 Evl
section
variable {K : Fg} {cs : Cs} {W : WX} {G G' : Gam} {ta te : TE} {φ : PyData → Prop} {ε : Xw → Prop} {ι : List PyData → Prop} {χ : Own → Prop} {Φ : Out → Prop}
variable {Wd : Addr → Prop} {B : Option (Addr × Addr)} {ad : Nat → Addr} {H0 H H1 H2 : Hp} {σ : L2.St}
/-! ### enumerate -/
/-! ### many clauses -/
/-- a clause's rest lays some more on the list -/
def CW (K : Fg) (cs : Cs) (W : WX) (tc : TCl) (G : Gam) (m : Nat) (ρ : List PyData → Prop) : Prop :=
  ∀ Wd B ad H0 H σ D acc xs, Sta K Wd B ad H0 H σ G → Wd D → H0 D = none → ¬ InB B D → H D = some (.lst acc) → DpAll K (less H (Zs Wd B ad G)) acc xs → xs.length + m ≤ 16000000 →
    ∀ Nx : Hp → Prop, (∀ ys, ρ ys → ys.length ≤ m → ∀ H2 acc2, Sta K Wd B ad H0 H2 σ G → Ex (less H (Zs Wd B ad G)) (less H2 (Zs Wd B ad G)) → (∀ a o, H a = some o → ¬ InB B a → a ≠ D → H2 a = some o) → H2 D = some (.lst acc2) → DpAll K (less H2 (Zs Wd B ad G)) acc2 (xs ++ ys) → Nx H2) → tc D σ H Nx
theorem cw_mono {tc : TCl} {m : Nat} {ρ ρ' : List PyData → Prop} (h : CW K cs W tc G m ρ) (k : ∀ ys, ρ ys → ρ' ys) : CW K cs W tc G m ρ' := fun Wd B ad H0 H σ D acc xs S wd d0 nb hD da hl Nx n => h Wd B ad H0 H σ D acc xs S wd d0 nb hD da hl Nx fun ys p => n ys (k ys p)
theorem cw_elt {m : Nat} {ρ : List PyData → Prop} (hm : 1 ≤ m) (h : EW K cs W te G (fun y => ρ [y]) noX) : CW K cs W (tElt te) G m ρ := fun Wd B ad H0 H σ D acc xs S wd d0 nb hD da hl Nx n => by
  refine h Wd B ad H0 H σ S _ (fun y py v H1 S1 e1 dv => ?_) xp_no
  have hD1 : H1 D = some (.lst acc) := e1 _ _ hD nb
  have l1 := dpa_len da
  obtain ⟨S2, el⟩ := S1.foreign (o := .lst (acc ++ [v])) (p := D) wd d0 nb
  have ex := Xb.lz (W := Wd) (ad := ad) (G := G) e1
  refine ⟨acc, hD1, Nat.lt_of_lt_of_le (show acc.length < 16777216 by omega) (by decide), n _ py (by simpa using hm) _ _ S2 (by rw [el]; exact ex) (fun a o g nn na => ?_) upd_same ?_⟩
  · rw [upd_ne na]; exact e1 _ _ g nn
  · rw [el]
    exact dpa_app (dpa_mono ex da) (.cons dv .nil)
def ClI (K : Fg) (cs : Cs) (W : WX) (g : TG) (tt : TT) (tc : TCl) (vs : List Nat) (G : Gam) (m : Nat) (ρ : List PyData → Prop) (ds : List PyData) : Prop :=
  Unk vs G ∧ ∃ k, ds.length * k ≤ m ∧ ∃ R : Nat → List PyData → Prop, (∀ i x, ds[i]? = some x → GC K g vs G x (fun Gt => TW K cs W tt Gt (fun b => Cnd b (CW K cs W tc Gt k (R i)) (R i [])) noX)) ∧ ∀ yss, Each R ds.length yss → ρ yss.flatten
theorem flat_snoc {yss : List (List PyData)} {ys : List PyData} : (yss ++ [ys]).flatten = yss.flatten ++ ys := by simp
/-- one clause's turns -/
theorem cl_turn {J : It} {ds : List PyData} {g : TG} {tt : TT} {tc : TCl} {vs : List Nat} {k : Nat} {R : Nat → List PyData → Prop} {D : Addr} {xs : List PyData} {M : Hp} {Nx : Hp → Prop}
    (hu : Unk vs G) (hs : ∀ i x, ds[i]? = some x → GC K g vs G x (fun Gt => TW K cs W tt Gt (fun b => Cnd b (CW K cs W tc Gt k (R i)) (R i [])) noX))
    (wd : Wd D) (d0 : H0 D = none) (nb : ¬ InB B D) (hl : xs.length + ds.length * k ≤ 16000000) (ok : ItOk K J ds M)
    (S1 : Sta K Wd B ad H0 H1 σ G) (eM : Ex M (less H1 (Zs Wd B ad G))) {acc : List V} (hD : H1 D = some (.lst acc)) (hda : DpAll K (less H1 (Zs Wd B ad G)) acc xs)
    (n : ∀ yss, Each R ds.length yss → yss.flatten.length ≤ ds.length * k → ∀ H2 acc2, Sta K Wd B ad H0 H2 σ G → Ex (less H1 (Zs Wd B ad G)) (less H2 (Zs Wd B ad G)) → (∀ a o, H1 a = some o → ¬ InB B a → a ≠ D → H2 a = some o) → H2 D = some (.lst acc2) → DpAll K (less H2 (Zs Wd B ad G)) acc2 (xs ++ yss.flatten) → Nx H2) :
    ∃ W1 : Nat → Nat → Hp → Prop, (∃ m, W1 0 m H1) ∧ ∀ j k H, W1 j k H →
      (J.stop j H ∧ Nx H) ∨ (J.go j H ∧ ∃ Nx1 : Hp → Prop, (∀ H', Nx1 H' → ∃ k', k' < k ∧ W1 (j + 1) k' H') ∧ ∀ x H', J.yld j H x H' → g x (wipe σ vs) H' fun σ3 H5 => wipe σ3 vs = wipe σ vs ∧ tt σ3 H5 fun b H6 => if b = true then tc D σ3 H6 Nx1 else Nx1 H6) := by
  have hgu : ∀ i c, i ∈ vs → G[i]? ≠ some (.ow c) := fun i c hi g => by cases hu i _ hi g
  refine ⟨fun i m H' => m = ds.length - i ∧ i ≤ ds.length ∧ Sta K Wd B ad H0 H' σ G ∧ Ex (less H1 (Zs Wd B ad G)) (less H' (Zs Wd B ad G)) ∧ (∀ a o, H1 a = some o → ¬ InB B a → a ≠ D → H' a = some o) ∧
      ∃ yss acc, Each R i yss ∧ yss.flatten.length ≤ i * k ∧ H' D = some (.lst acc) ∧ DpAll K (less H' (Zs Wd B ad G)) acc (xs ++ yss.flatten), ⟨ds.length, rfl, Nat.zero_le _, S1, Ex.refl _, fun _ _ h _ _ => h, [], acc, each_nil, by simp, hD, by rw [List.flatten_nil, List.append_nil]; exact hda⟩, ?_⟩
  rintro i m H' ⟨rfl, hi, S', e', xb, yss, acc, ha2, hfl, ha, hda⟩
  obtain ⟨k1, k2, k3⟩ := ok H' (Zs Wd B ad G) S'.there (eM.trans e') i
  by_cases hlt : i < ds.length
  · have hx : ds[i]? = some ds[i] := List.getElem?_eq_getElem hlt
    have hik : i * k + k ≤ ds.length * k := by rw [← Nat.succ_mul]; exact Nat.mul_le_mul_right _ hlt
    refine .inr ⟨k1 _ hx, fun H3 => Sta K Wd B ad H0 H3 σ G ∧ Ex (less H1 (Zs Wd B ad G)) (less H3 (Zs Wd B ad G)) ∧ (∀ a o, H1 a = some o → ¬ InB B a → a ≠ D → H3 a = some o) ∧
      ∃ yss acc, Each R (i + 1) yss ∧ yss.flatten.length ≤ (i + 1) * k ∧ H3 D = some (.lst acc) ∧ DpAll K (less H3 (Zs Wd B ad G)) acc (xs ++ yss.flatten), fun H3 h3 => ⟨ds.length - (i + 1), by omega, rfl, hlt, h3⟩, fun v H'' hyl => ?_⟩
    obtain ⟨ex, dx⟩ := k3 v H'' hyl
    have S2 := (S'.ext ex).slots (σ' := wipe σ vs) (G' := G) (vs := vs) rfl (fun _ _ => rfl) hu hgu wipe_wipe.symm
    refine hs i _ hx _ B ad H0 H'' _ v S2 (dx _ hx) _ fun Gt σ2 hte hl2 ho hw S3 e3 ew => ⟨by rw [ew, wipe_wipe], ?_⟩
    have own : ∀ (i : Nat) (c : Own), Gt[i]? = some (En.ow c) ↔ G[i]? = some (En.ow c) := fun i c => by
      by_cases hi : i ∈ vs
      · exact ⟨fun g => hw i c hi g, fun g => absurd g (hgu i c hi)⟩
      · rw [ho i hi]
    have eZ : Zs Wd B ad Gt = Zs Wd B ad G := zs_same own
    have back : ∀ {H5 : Hp}, Sta K Wd B ad H0 H5 σ2 Gt → Sta K Wd B ad H0 H5 σ G := fun {H5} S5 =>
      S5.slots (G' := G) (vs := vs) hl2.symm (fun i hi => (ho i hi).symm) hu (fun i c hi g => hgu i c hi (hw i c hi g)) (by rw [ew, wipe_wipe])
    have ha3 : H'' D = some (.lst acc) := ex _ _ ha
    refine hte _ B ad H0 H'' σ2 S3 _ (fun b p H3 S4 e4 => ?_) xp_no
    have e4' : Ex (less H'' (Zs Wd B ad G)) (less H3 (Zs Wd B ad G)) := Xb.lz (W := Wd) (ad := ad) (G := G) e4
    have e5 : Ex (less H' (Zs Wd B ad G)) (less H3 (Zs Wd B ad G)) := (less_mono ex).trans e4'
    have ha4 : H3 D = some (.lst acc) := e4 _ _ ha3 nb
    have da4 : DpAll K (less H3 (Zs Wd B ad G)) acc (xs ++ yss.flatten) := dpa_mono e5 hda
    have xb3 : ∀ a o, H1 a = some o → ¬ InB B a → a ≠ D → H3 a = some o := fun a o g nn na => e4 _ _ (ex _ _ (xb a o g nn na)) nn
    cases b with
    | false =>
      refine iteF ⟨back S4, e'.trans e5, xb3, yss ++ [[]], acc, ha2.snoc (p.2 rfl), ?_, ha4, ?_⟩
      · rw [flat_snoc, List.append_nil, Nat.succ_mul]; omega
      · rw [flat_snoc, List.append_nil]; exact da4
    | true =>
      refine iteT ?_
      refine p.1 rfl Wd B ad H0 H3 σ2 D acc (xs ++ yss.flatten) S4 wd d0 nb ha4 (by rw [eZ]; exact da4) (by rw [List.length_append]; omega) _ fun ys py pl H4 acc2 S5 e6 x6 hD6 da6 => ?_
      rw [eZ] at e6 da6
      refine ⟨back S5, e'.trans (e5.trans e6), fun a o g nn na => x6 _ _ (xb3 a o g nn na) nn na, yss ++ [ys], acc2, ha2.snoc py, ?_, hD6, ?_⟩
      · rw [flat_snoc, List.length_append, Nat.succ_mul]; omega
      · rw [flat_snoc, ← List.append_assoc]; exact da6
  · have en : i = ds.length := by omega
    subst en
    exact .inl ⟨k2 (Nat.le_refl _), n yss ha2 hfl H' acc S' e' xb ha hda⟩
theorem cw_clause {wi : TI} {g : TG} {tt : TT} {tc : TCl} {vs : List Nat} {m : Nat} {ρ : List PyData → Prop} (h : IW K cs W wi G (ClI K cs W g tt tc vs G m ρ) noX) : CW K cs W (tClause wi g tt tc vs) G m ρ := fun Wd B ad H0 H σ D acc xs S wd d0 nb hD da hl Nx n => by
  refine h Wd B ad H0 H σ S _ (fun ds ⟨hu, k, hk, R, hs, hp⟩ J H1 S1 e1 ok => ?_) xp_no
  have ex := Xb.lz (W := Wd) (ad := ad) (G := G) e1
  refine cl_turn hu hs wd d0 nb (by omega) ok S1 (Ex.refl _) (e1 _ _ hD nb) (dpa_mono ex da) fun yss he hf H2 acc2 S2 e2 x2 hD2 da2 => ?_
  exact n _ (hp yss he) (Nat.le_trans hf hk) H2 acc2 S2 (ex.trans e2) (fun a o g nn na => x2 _ _ (e1 _ _ g nn) nn na) hD2 da2
theorem ef_lcN {wi : TI} {g : TG} {tt : TT} {tc : TCl} {vs : List Nat} (h : IW K cs W wi G (ClI K cs W g tt tc vs G 16000000 (fun ys => χ (ol ys))) ε) : EF K cs W (tLcN wi g tt tc vs) G χ ε := fun Wd B ad H0 H σ S Q q x =>
  h Wd B ad H0 H σ S _ (fun ds ⟨hu, k, hk, R, hs, hp⟩ J H1 S1 e1 ok Dl hD => by
    obtain ⟨L0, el0⟩ := S1.lend (o := .lst []) hD
    have fr := S1.fresh hD
    refine cl_turn (Wd := fun a => Wd a ∨ a = Dl) (xs := []) hu hs (.inr rfl) fr.1 fr.2.1 (by simpa using hk) ok L0 (by rw [el0]; exact Ex.refl _) upd_same .nil fun yss he hf H2 acc2 S2 e2 x2 hD2 da2 => ?_
    have xb : Xb B H1 H2 := fun a o g nn => x2 a o (by rw [upd_ne (ne_of_none g hD)]; exact g) nn (ne_of_none g hD)
    obtain ⟨S6, x6, n6, l6⟩ := fl_go S1 xb S2.bag hD hD2
    have kq := q _ (hp yss he) Dl acc2 _ S6 (e1.trans x6) n6 (by rw [l6, ← zs_lend]; exact da2)
    have k2 : Q (.ref Dl) (upd (less H2 fun b => b = Dl) Dl (.lst acc2)) := kq
    rw [fl_upd hD2] at k2
    exact k2) x
theorem ew_lcN {wi : TI} {g : TG} {tt : TT} {tc : TCl} {vs : List Nat} (h : IW K cs W wi G (ClI K cs W g tt tc vs G 16000000 (fun ys => φ (.list ys))) ε) : EW K cs W (tLcN wi g tt tc vs) G φ ε := ew_ef (ef_lcN (fun Wd B ad H0 H σ S R q x => h Wd B ad H0 H σ S R (fun ds ⟨hu, k, hk, R', hs, hp⟩ => q ds ⟨hu, k, hk, R', hs, fun yss he => ⟨_, rfl, hp yss he⟩⟩) x))
/-! the turns' items by a map -/
section
variable {β : Type} {xs : List β} {f : β → PyData} {g : TG} {tt : TT} {tc : TCl} {vs : List Nat} {m : Nat} {ρ : List PyData → Prop}
theorem clR (k : Nat) (R : β → List PyData → Prop) (hz : xs.length * k ≤ m) (hu : Unk vs G) (hs : ∀ x, x ∈ xs → GC K g vs G (f x) (fun Gt => TW K cs W tt Gt (fun b => Cnd b (CW K cs W tc Gt k (R x)) (R x [])) noX)) (p : ∀ yss, All2 R xs yss → ρ yss.flatten) : ClI K cs W g tt tc vs G m ρ (xs.map f) :=
  ⟨hu, k, by rw [List.length_map]; exact hz, fun i ys => ∃ x, xs[i]? = some x ∧ R x ys, fun i x hx => by
    obtain ⟨b, hb, rfl, mb⟩ := map_at hx
    refine gc_mono (hs b mb) fun Gt h => tw_mono h fun bb p => ⟨fun e => cw_mono (p.1 e) fun ys hy => ⟨b, hb, hy⟩, fun e => ⟨b, hb, p.2 e⟩⟩, fun yss he => p yss (by
    rw [List.length_map] at he
    exact he.all2 fun i x o hx ⟨x', hx', hr⟩ => by rw [hx] at hx'; cases hx'; exact hr)⟩
theorem all2_flat {h : β → List PyData} : ∀ {xs : List β} {yss : List (List PyData)}, All2 (fun x ys => ys = h x) xs yss → yss.flatten = xs.flatMap h := fun {xs yss} ha => by
  rw [ha.eq_map, List.flatMap_def]
theorem clM (k : Nat) (h : β → List PyData) (hz : xs.length * k ≤ m) (hu : Unk vs G) (hs : ∀ x, x ∈ xs → GC K g vs G (f x) (fun Gt => CW K cs W tc Gt k (fun ys => ys = h x))) (p : ρ (xs.flatMap h)) : ClI K cs W g tYes tc vs G m ρ (xs.map f) :=
  clR k (fun x ys => ys = h x) hz hu (fun x mx => gc_mono (hs x mx) fun Gt h => tw_yes (cnd_t h)) fun yss ha => by rw [all2_flat ha]; exact p
theorem clE (h : β → PyData) (hz : xs.length ≤ m) (hu : Unk vs G) (hs : ∀ x, x ∈ xs → GC K g vs G (f x) (fun Gt => EW K cs W te Gt (fun y => y = h x) noX)) (p : ρ (xs.map h)) : ClI K cs W g tYes (tElt te) vs G m ρ (xs.map f) :=
  clM 1 (fun x => [h x]) (by omega) hu (fun x mx => gc_mono (hs x mx) fun Gt hh => cw_elt (Nat.le_refl _) (ew_mono hh fun y e => by rw [e])) (by
    have : ∀ l : List β, l.flatMap (fun x => [h x]) = l.map h := fun l => by
      induction l with
      | nil => rfl
      | cons a l ih => rw [List.flatMap_cons, ih]; rfl
    rw [this]; exact p)
end
end
end U.N

end
section
/-! Land by sides and by threes. -/
namespace U.Hull
open U
end U.Hull

end
section
/-! A list of one's own is lent to a test or a call that only reads it. -/
namespace U.N
open PySem PyProof.Rows L2 Evl
section
variable {K : Fg} {cs : Cs} {W : WX} {G : Gam} {te : TE} {t : TT} {φ : PyData → Prop} {ψ : Bool → Prop} {ε : Xw → Prop} {i : Nat} {xs : List PyData}
variable {Wd : Addr → Prop} {B : Option (Addr × Addr)} {ad : Nat → Addr} {H0 H H2 : Hp} {σ : L2.St}
end
end U.N

end
section
/-! first, *rest = a list or a tuple. -/
namespace U
open PySem PySem.W PyProof.Rows L2 Evl
def gStarE (K : Fg) (t : TGs) : TG := fun v σ H Q => ∃ k p x ys, v = .ref p ∧ SqV K k H p (x :: ys) ∧ ys.length ≤ 10000 ∧ ∀ l, H l = none → t [x, .ref l] σ (upd H l (.lst ys)) Q
section
variable {prog : Program} {w : World} {A : Around} {E : Value → Shared → Prop} {s : Shared}
theorem star_T {l : Addr} {items : Array Value} {Q : List Value → Shared → Prop} (hh : A.handled = none) (hl : IsTup s.heap l items) (h0 : 1 ≤ items.size) (hz : items.size ≤ 16384)
    (h : ∀ h' tk, Heap.ExtBut s.heap.objs.size s.heap h' → wpAny (model prog w) A (newList (items.toList.drop 1) >>= fun d => pure (items.toList.take 1 ++ [d])) Q E { s with heap := h', toks := tk }) : wpAny (model prog w) A (unpackItems (.ref l) 2 (some 1)) Q E s := by
  have hlt : l ≠ s.heap.objs.size := by obtain ⟨o, ho, _⟩ := hl; exact Nat.ne_of_lt (Heap.lt_size ho)
  unfold unpackItems
  refine wpAny_bind ?_
  unfold notIterableAtAll
  refine wpAny_bind (wpAny_specialOf hl.typeIs slot_tuple_iter.lookup ?_)
  refine wpAny_pure ?_
  simp only [Bool.false_eq_true, if_false]
  refine wpAny_bind (wpAny_holding (iter_tuple hl ?_))
  refine wpAny_bind (wpAny_holding (draw_tuple hlt 1 0 _ _ ⟨_, Heap.get?_push_size _ rfl, rfl, rfl⟩ (hl.push _) (by omega) fun h₁ hit₁ hs₁ => ?_))
  have hl₁ : IsTup h₁ l items := (hl.push _).extBut hs₁.extBut hlt
  rw [Nat.zero_add] at hit₁
  obtain ⟨oi, hoi, _⟩ := id hit₁
  obtain ⟨ol, hol, _⟩ := id hl₁
  rw [List.drop_zero]
  have hfl : (items.toList.take 1).length = 1 := by rw [List.length_take, Array.length_toList]; omega
  rw [if_neg (show ¬ ((items.toList.take 1).length < 1) by rw [hfl]; omega)]
  refine wpAny_bind (wpAny_holding (kun_collect (s := { s with heap := h₁ }) (T := "tuple_iterator") (.inr (.inr (.inr rfl))) (Walks.tuple (A := A.in1) hh s.heap.objs.size l hlt items) (fun j u st => st.1.typeIs) (k := 1) (by omega) ⟨hit₁, hl₁⟩ (Heap.lt_size hoi) (Heap.lt_size hol) (fun h₂ tk hk => ?_) (by rw [sizeLine_eq]; omega)))
  show wpAny _ _ (if (items.toList.drop 1).length < 2 - 1 - 1 then _ else _) _ _ _
  rw [if_neg (by omega)]
  show wpAny _ _ (newList ((items.toList.drop 1).take ((items.toList.drop 1).length - 0)) >>= fun d => pure (items.toList.take 1 ++ [d] ++ (items.toList.drop 1).drop ((items.toList.drop 1).length - 0))) _ _ _
  rw [Nat.sub_zero, List.take_length, List.drop_length, ]
  have he : Heap.ExtBut s.heap.objs.size s.heap h₂ := fun b o hb e => hk b o hb (hs₁.extBut b o hb (Heap.get?_push_of_some _ e))
  have hh2 := h h₂ tk he
  have e : (fun d => (pure (items.toList.take 1 ++ [d] ++ []) : Sem (List Value))) = fun d => pure (items.toList.take 1 ++ [d]) := by funext d; rw [List.append_nil]
  rw [e]
  exact hh2
theorem star_L {l : Addr} {items : Array Value} {Q : List Value → Shared → Prop} (hh : A.handled = none) (hl : s.heap.IsList l items) (h0 : 1 ≤ items.size) (hz : items.size ≤ 16384)
    (h : ∀ h' tk, Heap.ExtBut s.heap.objs.size s.heap h' → wpAny (model prog w) A (newList (items.toList.drop 1) >>= fun d => pure (items.toList.take 1 ++ [d])) Q E { s with heap := h', toks := tk }) : wpAny (model prog w) A (unpackItems (.ref l) 2 (some 1)) Q E s := by
  have hlt : l ≠ s.heap.objs.size := by obtain ⟨o, ho, _⟩ := hl; exact Nat.ne_of_lt (Heap.lt_size ho)
  unfold unpackItems
  refine wpAny_bind ?_
  unfold notIterableAtAll
  refine wpAny_bind (wpAny_specialOf hl.typeIs slot_list_iter.lookup ?_)
  refine wpAny_pure ?_
  simp only [Bool.false_eq_true, if_false]
  refine wpAny_bind (wpAny_holding (wpAny_pyIter_list hl ?_))
  refine wpAny_bind (wpAny_holding (kun_draw hlt 1 0 _ _ ⟨_, Heap.get?_push_size _ rfl, rfl, rfl⟩ (hl.push _) (by omega) fun h₁ hit₁ hs₁ => ?_))
  have hl₁ : h₁.IsList l items := (hl.push _).extBut hs₁.extBut hlt
  rw [Nat.zero_add] at hit₁
  obtain ⟨oi, hoi, _⟩ := id hit₁
  obtain ⟨ol, hol, _⟩ := id hl₁
  rw [List.drop_zero]
  have hfl : (items.toList.take 1).length = 1 := by rw [List.length_take, Array.length_toList]; omega
  rw [if_neg (show ¬ ((items.toList.take 1).length < 1) by rw [hfl]; omega)]
  refine wpAny_bind (wpAny_holding (kun_collect (s := { s with heap := h₁ }) (T := "list_iterator") (.inr (.inr (.inl rfl))) (Walks.list (A := A.in1) hh s.heap.objs.size l hlt items) (fun j u st => st.1.typeIs) (k := 1) (by omega) ⟨hit₁, hl₁⟩ (Heap.lt_size hoi) (Heap.lt_size hol) (fun h₂ tk hk => ?_) (by rw [sizeLine_eq]; omega)))
  show wpAny _ _ (if (items.toList.drop 1).length < 2 - 1 - 1 then _ else _) _ _ _
  rw [if_neg (by omega)]
  show wpAny _ _ (newList ((items.toList.drop 1).take ((items.toList.drop 1).length - 0)) >>= fun d => pure (items.toList.take 1 ++ [d] ++ (items.toList.drop 1).drop ((items.toList.drop 1).length - 0))) _ _ _
  rw [Nat.sub_zero, List.take_length, List.drop_length, ]
  have he : Heap.ExtBut s.heap.objs.size s.heap h₂ := fun b o hb e => hk b o hb (hs₁.extBut b o hb (Heap.get?_push_of_some _ e))
  have hh2 := h h₂ tk he
  have e : (fun d => (pure (items.toList.take 1 ++ [d] ++ []) : Sem (List Value))) = fun d => pure (items.toList.take 1 ++ [d]) := by funext d; rw [List.append_nil]
  rw [e]
  exact hh2
theorem star_K {k : Kd} {l : Addr} {items : Array Value} {Q : List Value → Shared → Prop} (hh : A.handled = none) (hl : SqK k s.heap l items) (h0 : 1 ≤ items.size) (hz : items.size ≤ 16384)
    (h : ∀ h' tk, Heap.ExtBut s.heap.objs.size s.heap h' → wpAny (model prog w) A (newList (items.toList.drop 1) >>= fun d => pure (items.toList.take 1 ++ [d])) Q E { s with heap := h', toks := tk }) : wpAny (model prog w) A (unpackItems (.ref l) 2 (some 1)) Q E s := by
  cases k with
  | L => exact star_L hh hl h0 hz h
  | T => exact star_T hh hl h0 hz h
end
theorem pg_starE {X : Cx} {a b : Expr} {p pos : Pos} {k : Nat} {t : TGs} (hc : X.calm = true) (h : PGs X [a, b] t)
    (hn : (assignEach [a, .Starred b p] X.env).length = 2 := by rfl) (hst : (assignEach [a, .Starred b p] X.env).findIdx? (·.1) = some 1 := by rfl)
    (hm : (assignEach [a, .Starred b p] X.env).map (·.2) = (assignEach [a, b] X.env).map (·.2) := by rfl) : PG X (.Tuple [a, .Starred b p] k pos) (gStarE X.K t) := by
  refine ⟨fun pins s σ H v u Q I r hw => ?_⟩
  obtain ⟨kd, q, x, ys, e1, hq, hl, hw⟩ := hw
  subst e1
  cases r
  obtain ⟨its, rv, ht, hz⟩ := hq.inv I
  cases rv with
  | @cons _ w _ us rw' ru =>
    have hus : us.length = ys.length := ru.length.symm
    rw [assign_Tuple]
    refine wpAny_bind (wpAny_standAt ?_)
    unfold unpack
    rw [hn, hst, hm]
    refine wpAny_bind (wpAny_holding (star_K (I.ok.hd hc) ht (by simp) (by simp; omega) fun h' tk he => ?_))
    have e1 : (w :: us).toArray.toList.drop 1 = us := by simp
    have e2 : (w :: us).toArray.toList.take 1 = [w] := by simp
    rw [e1, e2]
    have I1 : Inv X pins σ H { s with heap := h', toks := tk } := I.kept (t' := tk) fun b o e => he b o (Nat.ne_of_lt (Heap.lt_size e)) e
    refine wpAny_bind (wpAny_newList ?_ (by rw [sizeLine_eq]; omega))
    refine wpAny_pure ?_
    have I2 := I1.lnew (t' := tk) ru (Nat.le_trans hl (by decide))
    exact h.run pins _ σ _ [x, .ref _] _ Q I2 (.cons rw' (.cons rfl .nil)) (hw _ I1.fresh)
/-! ### a call with keywords that may raise -/
def tCallNS (n m : Nat) (sp : Sp) (gV : List V → List V → List V) (E : St → XK) (t tk : TA) : TE := fun σ H Q => t σ H fun vs H1 => tk σ H1 fun zs H2 => vs.length = n ∧ zs.length = m ∧ sp (gV vs zs) H2 Q (E σ)
section
variable {X : Cx} {CX : CXT} {k n : Nat} {f : Addr} {fd : FuncData} {ps ks : List Str} {sp : Sp} {E : St → XK} {x : Str} {p pos : Pos} {e : Expr} {es : List Expr} {kws : List Keyword} {t tk : TA} {g : List Value → List Value → List Value} {gV : List V → List V → List V}
theorem run_fnNS {pins : List (Addr × Obj)} {σ : St} {H : Hp} {s : Shared} {Q : VK} {us ws : List Value} {vs zs : List V} (F : FnOk X.prog X.w X.K X.mg X.base CX k f fd ps sp) (hr : Room k X.A) (hb : KBn X.K fd ps n ks g gV) (hx : PassesAt CX X σ (E σ))
    (I : Inv X pins σ H s) (r : Vals vs us) (rz : Vals zs ws) (l1 : vs.length = n) (l2 : zs.length = ks.length) (h : sp (gV vs zs) H Q (E σ)) : wpAny (model X.prog X.w) X.A (call (.ref f) us (ks.zip ws)) (EP X pins σ Q) X.xe s := by
  have r2 := hb.rel r rz
  refine wpAny_call (codeAny_mono (F.run X.A X.stack s H ⟨us, ks.zip ws⟩ (g us ws) (gV vs zs) Q (E σ) hr I.env0 (hb.to s us ws I.kIn (r.length.symm.trans l1) (rz.length.symm.trans l2)) r2 h) fun r s' hq => ?_)
  cases r with
  | error e => exact hx pins H s e s' I hq
  | ok fl =>
    cases fl with
    | ret u => exact I.after hq
    | next => exact False.elim hq
    | brk => exact False.elim hq
    | cont => exact False.elim hq
theorem pe_callNS (F : FnOk X.prog X.w X.K X.mg X.base CX k f fd ps sp) (hr : Room k X.A) (hg : Gl X x) (hm : X.mg x = some (.ref f)) (hk : PySem.W.keepIn X.K (.ref f) = true) (hb : KBn X.K fd ps n ks g gV) (hx : ∀ σ, PassesAt CX X σ (E σ))
    (ha : PA X (e :: es) t) (hkw : PK X kws tk) (hall : (backToKw pos (keywordEach kws X.env)).all (·.1.isSome) = true := by rfl) (hks : (backToKw pos (keywordEach kws X.env)).filterMap (·.1) = ks := by rfl)
    (hdb : (x == ("__debug__" : Str)) = false := by decide) (he : starEach (e :: es) X.env = (false, eval e X.env) :: starEach es X.env := by rfl)
    (hpl : ((backTo pos (starEach (e :: es) X.env)).any (·.1) || (backToKw pos (keywordEach kws X.env)).any (·.1.isNone)) = false := by rfl) :
    PE X (.Call (.Name x p) (e :: es) kws pos) (tCallNS n ks.length sp gV E t tk) := by
  refine ⟨fun pins s σ H Q I h => ?_⟩
  refine wpAny_Call_Name_kw (ld_glob I hg hm ?_ hdb)
  refine PySem.W.callWith_KW (h₀ := X.base) I.ok.mod.kin hk hall (thn (ha.run pos pins s σ H _ I h) fun us s1 ⟨vs, H1, I1, r, q⟩ => ?_) hpl he
  refine thn (hkw.run pos pins s1 σ H1 _ I1 q) fun ws s2 ⟨zs, H2, I2, rz, l1, l2, q2⟩ => ⟨I2.kIn, ?_⟩
  rw [hks]
  exact run_fnNS F hr hb (hx σ) I2 r rz l1 l2 q2
end
end U

end
section
namespace U.N
open PySem PyProof.Rows L2 Evl
section
variable {K : Fg} {cs : Cs} {W : WX} {G G' : Gam} {ta tb te : TE} {φ : PyData → Prop} {ε : Xw → Prop} {χ : Own → Prop} {Φ : Out → Prop} {γ : Gam → Prop} {P : Pr}
variable {Wd : Addr → Prop} {B : Option (Addr × Addr)} {ad : Nat → Addr} {H0 H H1 H2 : Hp} {σ : L2.St}
/-! ### first, *rest = xs -/
theorem gw_starE {i j : Nat} {x : PyData} {y : PyData} {ys : List PyData} (hx : itemsOf x = some (y :: ys)) (hl : ys.length ≤ 10000) (h : γ ((G.set i (.d y)).set j (.d (.list ys)))) : GW K (gStarE K (gCons (gName i) (gCons (gName j) gNil))) G x γ := fun Wd B ad H0 H σ v S d Q q => by
  obtain ⟨k, a, us, rfl, g, t⟩ := dp_sqv hx d
  cases t with
  | cons d1 d2 =>
    rename_i w ws
    refine ⟨k, a, w, ws, rfl, ex_v less_ex g, by rw [dpa_len d2]; exact hl, fun l hn => ?_⟩
    obtain ⟨S1, e1, g1⟩ := new_ex (o := .lst ws) S hn
    have ex := Xb.lz (W := Wd) (ad := ad) (G := G) e1
    have S2 := S1.setD (i := i) (dp_mono ex d1)
    have e2 : Ex (less (upd H l (.lst ws)) (Zs Wd B ad G)) (less (upd H l (.lst ws)) (Zs Wd B ad (G.set i (.d y)))) := less_sub fun a z => Zs.set_of (fun _ z => by cases z) z
    have dl : Dp K (less (upd H l (.lst ws)) (Zs Wd B ad G)) (.ref l) (.list ys) := .lst (sq_of g1) (dpa_mono ex d2)
    have S3 := S2.setD (i := j) (dp_mono e2 dl)
    refine ⟨_, _, rfl, _, _, rfl, rfl, ?_⟩
    exact q _ _ _ _ h S3 (ex.trans (e2.trans (less_sub fun a z => Zs.set_of (fun _ z => by cases z) z)))
/-! ### calls with keywords that may raise -/
theorem ew_callNW {ta tk : TA} {n m : Nat} (h : AW K cs W ta G (fun ds => AW K cs W tk G (fun es => ds.length = n ∧ es.length = m ∧ P (ds ++ es) (rE φ ε)) ε) ε) : EW K cs W (tCallNS n m (spW K cs P) (fun vs zs => vs ++ zs) (WE W) ta tk) G φ ε := fun Wd B ad H0 H σ S Q q x =>
  h Wd B ad H0 H σ S _ (fun ds h2 vs H1 S1 e1 d1 => h2 Wd B ad H0 H1 σ S1 _ (fun es ⟨hn, hm, hp⟩ zs H2 S2 e2 d2 =>
    ⟨(dpa_len d1).trans hn, (dpa_len d2).trans hm, Zs Wd B ad G, ds ++ es, _, S2.there, dpa_app (dpa_mono (Xb.lz e2) d1) d2, hp, ⟨fun y p v H' e d => q y p v H' (S2.ext e) ((e1.trans e2).trans (.of e)) d, fun c p a us H' e hn ho d => by
      obtain ⟨xs, rfl, p⟩ := p
      exact q _ p _ H' (S2.ext e) ((e1.trans e2).trans (.of e)) (.lst (sq_of (less_of (S2.fresh hn).2.2 ho)) (dpa_mono (less_sub fun b z => .inl z) d))⟩,
      fun e p d H' e3 hn hx => x e p d H' (S2.ext e3) ((e1.trans e2).trans (.of e3)) (S2.fresh hn).1 (less_of (S2.fresh hn).2.2 hx)⟩) (x.go e1)) x
/-! ### xs.index(y) -/
end
/-! ### keys that are bodies -/
theorem toKs_map {α : Type} {enc : α → PyData} {ke : α → NK} (h : ∀ a, toK (enc a) = some (ke a)) : ∀ xs : List α, toKs (xs.map enc) = some (xs.map ke)
  | [] => rfl
  | x :: xs => by
    show ((toK (enc x)).bind fun k => (toKs (xs.map enc)).map (k :: ·)) = _
    rw [h, toKs_map h xs]
    rfl
theorem map_inj {α β : Type} {f : α → β} (h : ∀ a b, f a = f b → a = b) : ∀ {xs ys : List α}, xs.map f = ys.map f → xs = ys
  | [], [], _ => rfl
  | [], _ :: _, e => by cases e
  | _ :: _, [], e => by cases e
  | x :: xs, y :: ys, e => by
    injection e with e1 e2
    rw [h x y e1, map_inj h e2]
def kFr (f : Fr) : NK := .tup [.num f.1, .num f.2]
def kSp (s : Spot) : NK := .tup (s.map kFr)
theorem toK_fr (f : Fr) : toK (fr f) = some (kFr f) := rfl
theorem toK_frs (s : Spot) : toK (frs s) = some (kSp s) := by
  show (toKs (s.map fr)).map NestedKey.tup = _
  rw [toKs_map toK_fr]
  rfl
theorem kk_bod (b : List Spot) : kk (b.map frs) = .tup (b.map kSp) := by
  show ((toKs (b.map frs)).map NestedKey.tup).getD .none = _
  rw [toKs_map toK_frs]
  rfl
theorem kFr_inj (f g : Fr) (h : kFr f = kFr g) : f = g := by
  unfold kFr at h
  injection h with h
  injection h with h1 h2
  injection h2 with h2 _
  injection h1 with h1
  injection h2 with h2
  exact Prod.ext h1 h2
theorem kSp_inj (s t : Spot) (h : kSp s = kSp t) : s = t := by
  unfold kSp at h
  injection h with h
  exact map_inj kFr_inj h
theorem kb_inj (b c : List Spot) (h : kk (b.map frs) = kk (c.map frs)) : b = c := by
  rw [kk_bod, kk_bod] at h
  injection h with h
  exact map_inj kSp_inj h
theorem depth_map {α : Type} {ke : α → NK} {n : Nat} (h : ∀ a, (ke a).depth ≤ n) : ∀ xs : List α, NestedKey.depthAll (xs.map ke) ≤ n
  | [] => by simp [NestedKey.depthAll]
  | x :: xs => by
    rw [List.map_cons, NestedKey.depthAll]
    have h1 := h x
    have h2 := depth_map h xs
    omega
theorem kg_bod (b : List Spot) : KG (b.map frs) := by
  unfold KG
  rw [kk_bod]
  refine ⟨?_, _, rfl⟩
  have h1 : ∀ f : Fr, (kFr f).depth ≤ 2 := fun f => by unfold kFr; simp [NestedKey.depth, NestedKey.depthAll]
  have h2 : ∀ s : Spot, (kSp s).depth ≤ 3 := fun s => by
    unfold kSp
    rw [NestedKey.depth]
    have := depth_map h1 s
    omega
  rw [NestedKey.depth]
  have := depth_map h2 b
  omega
end U.N

end
section
/-! What lies between the corners of a body. -/
namespace U.Hull
open U
/-! ### on a line -/
/-! ### bodies of more spots -/
theorem one_row {r : Nat} {row : List Spot} {c : Spot} (R : RowOk r row) (h : ∀ s ∈ row, s = c) : row = [c] := by
  match row, R.ne, h, R.pw with
  | [a], _, h, _ => rw [h a (by simp)]
  | a :: b :: l, _, h, pw =>
    have h1 := h a (by simp)
    have h2 := h b (by simp)
    have h3 := (List.pairwise_cons.mp pw).1 b (by simp)
    rw [h1, h2] at h3
    exact absurd h3 (sLt_irr _)
/-! ### every spot lies in its body -/
end U.Hull

end
section
namespace U
open PySem PyProof.Rows L2 Evl
section
variable {X : Cx}
end
end U

end
section
namespace U.N
open PySem PyProof.Rows L2 Evl
section
variable {K : Fg} {cs : Cs} {W : WX} {G : Gam} {φ : PyData → Prop} {ε : Xw → Prop}
/-! ### max and min of a list of whole numbers -/
end
end U.N

end
section
/-! isinstance of a caught exception of an own class that has a dict. -/
namespace U
open PySem PyProof.Rows L2 Evl
/-- what the class says of its instances' class -/
structure IsX (K : Fg) (C : Addr) : Prop where
  ha : PySem.W.findIn K (.ref C) "__class__" = some (some (.builtin "object.__class__"))
  hn : PySem.W.specialIn K (.builtin "object.__class__") "__get__" = some (some (.builtin "getset_descriptor.__get__"))
  ht : PySem.W.takesIn K (.builtin "object.__class__") = some true
  hm : PySem.W.mroIn K C (.type "object") = some true
def rIsD (K : Fg) (a : Addr) (cls : Value) (d : Option Addr) (C : Addr) : List V → Hp → VK → Prop := fun xs H Q => ∃ (c dd : Addr) (fs : List (Str × V)) (b : Bool), xs = [.ref a, .ref c] ∧ cls = .ref C ∧ d = some dd ∧ H dd = some (.xd fs) ∧ PySem.W.kitOne K (.ref C) (.ref c) = some b ∧ Q (.bl b) H
theorem call_isD {X : Cx} {a C : Addr} {oe : Obj} {cls : Value} {d : Option Addr} {pn : List (Addr × Obj)} (T : XfC X.K C) (S : IsX X.K C) (hz : Zc cls d oe) (hf : ∃ vs, oe.data = .fields vs) : CallR (X.suite a ((a, oe) :: pn)) (.builtin "isinstance") (rIsD X.K a cls d C) := by
  intro pins s σ H xs us Q I r h
  obtain ⟨c, dd, fs, b, rfl, ec, ed, eH, ek, q⟩ := h
  subst ec
  subst ed
  cases r with
  | cons rx rr =>
    cases rr with
    | cons rt rr =>
      cases rr
      cases rx
      cases rt
      have at0 := (I.pin (a, oe) (List.mem_append_left _ List.mem_cons_self)).1
      obtain ⟨vs, hd⟩ := hf
      have hx : ObjOk X.prog X.w H s.heap dd (.xd fs) := I.hok dd _ eH
      obtain ⟨mA, hns, _⟩ := hx
      obtain ⟨od, ho, _⟩ := lookIn_ns hns
      have J : PySem.W.InstAt s.heap a oe C (some od) := ⟨at0, hz.1, by unfold PySem.W.notCls; rw [hd] <;> rfl, by rw [hz.2]; exact ho⟩
      have hcl : (PySem.W.clsIn X.K C).isSome = true := by
        obtain ⟨cd, hc, _⟩ := PySem.W.any_some T.hdC
        rw [hc]
        rfl
      exact PySem.W.kia_one (PySem.W.kitx_exc hcl T.ga T.gg T.exC S.ha S.hn S.ht S.hm) I.kIn J ek (fun z => nomatch z) fun tk => ⟨.bl b, H, I.kept (t' := tk) fun _ _ z => z, rfl, q⟩
end U

end
section
namespace U.N
open PySem PyProof.Rows L2 Evl
section
variable {K : Fg} {cs : Cs} {W : WX} {G : Gam} {φ : PyData → Prop} {ε : Xw → Prop}
/-- isinstance(why, D), why caught as a C -/
theorem ew_isD {i : Nat} {a dd C D : Addr} {fs : List (Str × V)} {b : Bool} (hi : G[i]? = some (.xc a dd fs)) (hk : PySem.W.kitOne K (.ref C) (.ref D) = some b) (p : φ (.bool b)) : EW K cs W (tCB (rIsD K a (.ref C) (some dd) C) (tCons (tVar i) (tCons (tC (.ref D)) tNil))) G φ ε := fun Wd B ad H0 H σ S Q q _ => by
  obtain ⟨o, g1, rfl, g2⟩ := S.at_ i _ hi
  exact ⟨_, g1, D, dd, fs, b, rfl, rfl, rfl, (less_some g2).2, hk, q _ p _ H S Xb.refl (.bl _)⟩
end
end U.N

end
namespace U.N
open PySem PyProof.Rows L2 Evl
local macro_rules | `(tactic| walk_at "sd") => `(tactic| first | with_reducible assumption | omega | rfl | decide | assumption | exact Gd.mono (by assumption) (by first | decide | omega) | (simp only [List.length_map, List.length_append, List.length_cons, List.length_nil]; omega) | (simp; done))
local macro_rules | `(tactic| walk_at "ca") => `(tactic| first
  | ((with_reducible apply c_pull); (case h0 => walk_at "sd"); (case h1 => walk_at "sd"); intro _ _ _)
  | ((with_reducible apply c_part); intro _ _)
  | ((with_reducible apply c_far); intro _ _)
  | ((with_reducible apply c_farPart); intro _ _)
  | ((with_reducible apply c_wholePart); intro _ _)
  | ((with_reducible apply c_entry); intro _ _)
  | ((with_reducible apply c_plus); (case hp => walk_at "sd"); (case hq => walk_at "sd"); (case hl => walk_at "sd"); intro _)
  | ((with_reducible apply c_minus); (case hp => walk_at "sd"); (case hq => walk_at "sd"); (case hl => walk_at "sd"); intro _)
  | ((with_reducible apply c_times); (case hp => walk_at "sd"); (case hq => walk_at "sd"); (case hl => walk_at "sd"); intro _)
  | ((with_reducible apply c_ladd); (case hp => walk_at "sd"); (case hq => walk_at "sd"); (case hl => walk_at "sd"); intro _)
  | ((with_reducible apply c_lsub); (case hp => walk_at "sd"); (case hq => walk_at "sd"); (case hl => walk_at "sd"); intro _)
  | ((with_reducible apply c_lmul); (case hp => walk_at "sd"); (case hq => walk_at "sd"); (case hl => walk_at "sd"); intro _)
  | ((with_reducible apply c_order); (case hp => walk_at "sd"); (case hq => walk_at "sd"); (case hl => walk_at "sd"))
  | ((with_reducible apply c_cmp); (case hp => walk_at "sd"); (case hq => walk_at "sd"); (case hl => walk_at "sd"))
  | ((with_reducible apply c_map); (case h1 => walk_at "sd"); (case h2 => walk_at "sd"); (case l1 => walk_at "sd"); (case l2 => walk_at "sd"); intro _ _)
  | ((with_reducible apply c_spot); (case h0 => walk_at "sd"); (case hl => walk_at "sd"); intro _ _ _)
  | ((with_reducible apply c_over); (case hp => walk_at "sd"); (case hq => walk_at "sd"); (case hl => walk_at "sd"); (case hne => walk_at "sd"); intro _))
local macro_rules | `(tactic| walk_at "s1") => `(tactic| first
  | ((with_reducible apply x_all); (case h => exact allB_map))
  | ((with_reducible apply x_any); (case h => exact anyB_map))
  | ((with_reducible apply x_sum); (case h => exact sumI_map))
  | ((with_reducible apply ew_glob); (case h => assumption))
  | ((with_reducible apply sw_app); (case hi => rfl); (case hl => walk_at "sd"))
  | ((with_reducible apply cw_elt); (case hm => walk_at "sd"))
  | ((with_reducible apply sw_clear); (case hi => rfl))
  | ((with_reducible apply x1_rng); (case hb => walk_at "sd"))
  | ((with_reducible apply x2_rng); (case hb => walk_at "sd"); (case hc => walk_at "sd"))
  | ((with_reducible apply ew_var); (case h => rfl))
  | ((with_reducible apply ew_ixO); (case hi => rfl))
  | ((with_reducible apply ew_lenO); (case hi => rfl))
  | ((with_reducible apply ew_tupO); (case hi => rfl))
  | ((with_reducible apply ew_listO); (case hi => rfl))
  | ((with_reducible apply ew_callB); (case hi => rfl))
  | ((with_reducible apply ew_callWB); (case hi => rfl))
  | ((with_reducible apply at0); (case h => rfl))
  | ((with_reducible apply at1); (case h => rfl))
  | ((with_reducible apply at2); (case h => rfl))
  | ((with_reducible apply xi_it); (case h => rfl))
  | ((with_reducible apply x1_it); (case h => rfl))
  | ((with_reducible apply ew_dxO); (case hi => rfl))
  | ((with_reducible apply ew_dxF); (case hi => rfl))
  | ((with_reducible apply ew_dgetO); (case hi => rfl))
  | ((with_reducible apply ew_dgetF); (case hi => rfl))
  | ((with_reducible apply iw_dct); (case hi => rfl))
  | ((with_reducible apply ew_inSO); (case hi => rfl))
  | ((with_reducible apply ew_indexO); (case hi => rfl))
  | with_reducible refine ew_int ?_
  | with_reducible refine ew_bl ?_
  | with_reducible refine ew_str ?_
  | with_reducible refine ew_non ?_
  | with_reducible refine ew_tup0 ?_
  | with_reducible refine ew_tup1 ?_
  | with_reducible refine ew_tup2 ?_
  | with_reducible refine ew_tup3 ?_
  | with_reducible refine ew_tup4 ?_
  | with_reducible refine ew_tup ?_
  | with_reducible refine ew_lst0 ?_
  | with_reducible refine ew_lst1 ?_
  | with_reducible refine ew_lst2 ?_
  | with_reducible refine ew_lst3 ?_
  | with_reducible refine ew_lst ?_
  | with_reducible refine ew_add ?_
  | with_reducible refine ew_sub ?_
  | with_reducible refine ew_mul ?_
  | with_reducible refine ew_div ?_
  | with_reducible refine ew_mod ?_
  | with_reducible refine ew_pow ?_
  | with_reducible refine ew_lt ?_
  | with_reducible refine ew_le ?_
  | with_reducible refine ew_gt ?_
  | with_reducible refine ew_ge ?_
  | with_reducible refine ew_neg ?_
  | with_reducible refine ew_eq ?_
  | with_reducible refine ew_ne ?_
  | with_reducible refine ew_eqD ?_
  | with_reducible refine ew_neD ?_
  | with_reducible refine ew_subB ?_
  | with_reducible refine ew_isNo ?_
  | with_reducible refine ew_noNo ?_
  | with_reducible refine ew_isBl ?_
  | with_reducible refine ew_notBl ?_
  | with_reducible refine ew_leLe ?_
  | with_reducible refine tw_test ?_
  | with_reducible refine tw_B ?_
  | with_reducible refine tw_yes ?_
  | with_reducible refine tw_not ?_
  | with_reducible refine tw_and ?_
  | with_reducible refine tw_or ?_
  | with_reducible refine ew_andV ?_
  | with_reducible refine ew_orV ?_
  | with_reducible refine ew_notV ?_
  | with_reducible refine ew_if ?_
  | with_reducible refine aw_nil ?_
  | with_reducible refine aw_cons ?_
  | with_reducible refine ew_cP ?_
  | with_reducible refine ew_cX ?_
  | with_reducible refine ew_c0 ?_
  | with_reducible refine ew_cW ?_
  | with_reducible refine ew_abs ?_
  | with_reducible refine ew_max ?_
  | with_reducible refine ew_min ?_
  | with_reducible refine ew_intB ?_
  | with_reducible refine ew_len ?_
  | with_reducible refine ew_list ?_
  | with_reducible refine ew_tuple ?_
  | with_reducible refine ew_all ?_
  | with_reducible refine ew_any ?_
  | with_reducible refine ew_sum ?_
  | with_reducible refine ew_isi ?_
  | with_reducible refine ew_isi2 ?_
  | with_reducible refine ow_none ?_
  | with_reducible refine ow_some ?_
  | with_reducible refine ew_slL ?_
  | with_reducible refine ew_slA ?_
  | with_reducible refine ew_catL ?_
  | with_reducible refine ew_catA ?_
  | with_reducible refine ew_inI ?_
  | with_reducible refine ew_lc ?_
  | with_reducible refine ew_lcN ?_
  | with_reducible refine cw_clause ?_
  | with_reducible refine ew_revL ?_
  | with_reducible refine ew_srt ?_
  | with_reducible refine ew_inS ?_
  | with_reducible refine ew_maxL ?_
  | with_reducible refine ew_minL ?_
  | with_reducible refine iw_list ?_
  | with_reducible refine iw_tup ?_
  | with_reducible refine iw_seq ?_
  | with_reducible refine iw_rng1 ?_
  | with_reducible refine iw_rng2 ?_
  | with_reducible refine iw_zipM ?_
  | with_reducible refine iw_enum ?_
  | with_reducible refine sq_nx ?_
  | with_reducible refine sq_rt ?_
  | with_reducible refine sq_rl ?_
  | with_reducible refine sq_bk ?_
  | with_reducible refine sq_ct ?_
  | with_reducible refine sq_ex ?_
  | with_reducible refine lp_nx ?_
  | with_reducible refine lp_ct ?_
  | with_reducible refine lp_bk ?_
  | with_reducible refine lp_rt ?_
  | with_reducible refine lp_ex ?_
  | with_reducible refine sw_next ?_
  | with_reducible refine sw_brk ?_
  | with_reducible refine sw_cont ?_
  | with_reducible refine sw_if ?_
  | with_reducible refine sw_par ?_
  | with_reducible refine sw_ret ?_
  | with_reducible refine sw_retN ?_
  | with_reducible refine sw_dropC ?_
  | with_reducible refine sw_dropX ?_
  | with_reducible refine sw_for ?_
  | with_reducible refine sw_try ?_
  | with_reducible refine gsc_nil ?_
  | with_reducible refine gsc_cons ?_
  | with_reducible refine gsw_nil ?_
  | with_reducible refine gsw_cons ?_
  | with_reducible refine rE_ok ?_
  | with_reducible refine rE_fl ?_
  | with_reducible refine rE_er ?_
  | with_reducible refine rF_fl ?_
  | with_reducible refine atm1 ?_
  | with_reducible refine xi_int ?_
  | with_reducible refine xi_bool ?_
  | with_reducible refine xi_str ?_
  | with_reducible refine xi_tup ?_
  | with_reducible refine xi_list ?_
  | with_reducible refine xi_itL ?_
  | with_reducible refine xi_itT ?_
  | with_reducible refine x1_int ?_
  | with_reducible refine x1_bool ?_
  | with_reducible refine x2_int ?_
  | with_reducible refine x2_any ?_
  | with_reducible refine x1_itL ?_
  | with_reducible refine x1_itT ?_
  | with_reducible refine sc_int ?_
  | with_reducible refine sc_str ?_
  | with_reducible refine sc_bool ?_
  | with_reducible refine x_ol ?_
  | with_reducible refine atm1M ?_
  | with_reducible refine x_nx ?_
  | with_reducible refine ew_ix ?_
  | with_reducible refine ew_callNW ?_
  | with_reducible refine ew_callN ?_
  | with_reducible refine ew_callN0 ?_
  | with_reducible refine gw_name ?_
  | ((with_reducible refine gc_name ?wa ?_); (case wa => simp))
  | ((with_reducible refine gc_tup ?wa ?_); (case wa => rfl))
  | ((with_reducible refine gw_tup ?wa ?_); (case wa => rfl))
  | with_reducible refine cnd_t ?_
  | with_reducible refine cnd_f ?_
  | with_reducible refine cnd_nt ?_
  | with_reducible refine cnd_nf ?_
  | walk_at "ca"
  | ((with_reducible apply zip_f); (case hx => rfl); (case hy => rfl))
  | ((with_reducible apply zip_t); (case hx => rfl); (case hy => rfl); (case hl => walk_at "sd"))
  | with_reducible refine sw_asg ?_
  | ((with_reducible apply sw_dset); (case hi => rfl))
  | ((with_reducible apply sw_setI); (case hi => rfl))
  | with_reducible refine sw_asgT ?_
  | refine gsw_cons ?_
  | refine gsc_cons ?_
  | refine gsw_nil ?_
  | refine gsc_nil ?_
  | with_reducible exact trivial)
local macro_rules | `(tactic| walk_at "w1") => `(tactic| first | walk_at "s1" | with_reducible refine sw_seqA ?_ | with_reducible refine sw_seqD ?_ | with_reducible refine sw_seqF ?_ | with_reducible refine sw_seqP ?_ | with_reducible refine sw_seqG ?_ | with_reducible refine sw_seqW ?_)
local macro_rules | `(tactic| walk_at "s") => `(tactic| repeat walk_at "s1")
local macro_rules | `(tactic| walk_at "ef") => `(tactic| first
  | with_reducible refine ef_lst0 ?_
  | with_reducible refine ef_lst1 ?_
  | with_reducible refine ef_lst2 ?_
  | with_reducible refine ef_lst3 ?_
  | with_reducible refine ef_lst ?_
  | with_reducible refine ef_lc ?_
  | with_reducible refine ef_lcN ?_
  | with_reducible refine ef_list ?_
  | with_reducible refine ef_slL ?_
  | with_reducible refine ef_catL ?_
  | with_reducible refine ef_c0 ?_
  | with_reducible refine ef_cW ?_
  | with_reducible refine ef_if ?_
  | with_reducible refine ef_dct0 ?_
  | with_reducible refine ef_dc ?_
  | with_reducible refine ef_srt ?_
  | with_reducible refine ef_revL ?_)
local macro_rules | `(tactic| walk_at "wi") => `(tactic| repeat (first | walk_at "w1" | with_reducible refine sw_seq ?_))
local macro_rules | `(tactic| walk_at "w") => `(tactic| repeat walk_at "w1")
section
open PySem PyProof.Rows L2 Evl

section
variable {K : Fg} {cs : Cs} {gs : Gs} {φ : PyData → Prop} {A : Rs → Prop} {ε : Xw → Prop} {w : World}
/-! ### spots in order -/
def P_cb : Pr := fun ds A => ∃ (x : PyData) (a N : Nat) (ss : List Spot), ds = [x] ∧ itemsOf x = some (ss.map frs) ∧ CbB a N ss ∧ a ≤ 4000 ∧ N ≤ 7000 ∧ A (.ok (.int (cb 1 ss)))
def t_common_below (K : Fg) : TS := (tSeq (tAsg (tC (V.int 1)) (gName 1))
  (tSeq (tFor (iSeq K (tVar 0)) (gName 2) (tFor (iTup K (tVar 2)) (gTup K 2 (gCons (gName 3) (gCons (gName 4) gNil))) (tAsg (tOp rDivI (tOp rMulI (tVar 1) (tVar 4)) (tCall (spP K P_gcd) [] E0 (tCons (tVar 1) (tCons (tVar 4) tNil)))) (gName 1))))
  (tRet (tVar 1))))
-- slots of common_below: 0 spots, 1 found, 2 spot, 3 above, 4 below
theorem ln_common_below : ∀ ds A, P_cb ds A → ds.length = 1 := fun ds A h => by obtain ⟨_, _, _, _, rfl, _⟩ := h; rfl
theorem cb_snoc {acc : Int} {ss : List Spot} {s : Spot} : cb acc (ss ++ [s]) = cbS (cb acc ss) s := by unfold cb; rw [List.foldl_append]; rfl
theorem cbS_snoc {acc : Int} {s : Spot} {f : Fr} : cbS acc (s ++ [f]) = lcI (cbS acc s) f.2 := by unfold cbS; rw [List.foldl_append]; rfl
theorem c_gcd {a b : Int} (h : φ (.int (gI a b))) : ∃ r, P_gcd [.int a, .int b] r ∧ φ r := ⟨_, ⟨a, b, rfl, rfl⟩, h⟩
theorem rd_common_below {ds A} (h : P_cb ds A) : SW K cs W0 (t_common_below K) (frame 5 ds) (rts0 A) := by
  obtain ⟨x, a, N, ss, rfl, hx, hs, ha, hN, h⟩ := h
  obtain ⟨c0, c1, c2, c3⟩ := hs.cm
  unfold t_common_below
  walk_at "w"
  refine ⟨_, hx, forP (fun pre G => ∃ e2 e3 e4, G = [.d x, .d (.int (cb 1 pre)), e2, e3, e4]) ⟨_, _, _, rfl⟩ ?_ ?_⟩
  · rintro pre s post G1 e ⟨e2, e3, e4, rfl⟩
    have ms : s ∈ ss := by rw [e]; simp
    have mp : ∀ t ∈ pre, t ∈ ss := fun t ht => by rw [e]; simp [ht]
    obtain ⟨p1, p2⟩ := cb_dvd (acc := 1) (fun t ht => hs.gd t (mp t ht)) (by decide) (Int.one_dvd _) (fun t ht => c2 t (mp t ht))
    walk_at "w"
    refine forP (fun pr G => ∃ e3 e4, G = [.d x, .d (.int (cbS (cb 1 pre) pr)), .d (frs s), e3, e4]) ⟨_, _, rfl⟩ ?_ ?_
    · rintro pr f po G2 e' ⟨e3, e4, rfl⟩
      have mf : f ∈ s := by rw [e']; simp
      have mp' : ∀ t ∈ pr, t ∈ s := fun t ht => by rw [e']; simp [ht]
      have gf := hs.gd s ms f mf
      obtain ⟨q1, q2⟩ := cbS_dvd (fun t ht => hs.gd s ms t (mp' t ht)) p1 p2 (fun t ht => c2 s ms t (mp' t ht))
      have bt := bd_dvd c1 q2 c3
      walk_at "w"
      refine ⟨bt.cm gf.sz.2 (by omega), ?_⟩
      walk_at "w"
      refine c_gcd ?_
      walk_at "w"
      refine ⟨Bd.dv (n := 7001) (Int.ne_of_gt (gI_pos _ _)) (Bd.g (bt.mono (by omega)) (gf.sz.2.mono (by omega))) (by decide), ?_⟩
      walk_at "w"
      exact ⟨_, _, by rw [cbS_snoc]; rfl⟩
    · rintro G2 ⟨e3, e4, rfl⟩
      exact ⟨_, _, _, by rw [cb_snoc]⟩
  · rintro G1 ⟨e2, e3, e4, rfl⟩
    walk_at "w"
    exact h
def P_wr : Pr := fun ds A => ∃ (a : Nat) (s : Spot) (c : Int), ds = [frs s, .int c] ∧ Gds a s ∧ a ≤ 4000 ∧ s.length ≤ 1000 ∧ Bd 8000 c ∧ A (.ok (.list (inz (ky c s))))
def t_whole_row (K : Fg) : TS := (tRet (tLc (iTup K (tVar 0)) (gTup K 2 (gCons (gName 2) (gCons (gName 3) gNil))) tYes (tOp rMulI (tVar 2) (tOp rDivI (tVar 1) (tVar 3))) [2, 3]))
-- slots of whole_row: 0 spot, 1 common, 2 above, 3 below
theorem ln_whole_row : ∀ ds A, P_wr ds A → ds.length = 2 := fun ds A h => by obtain ⟨_, _, _, rfl, _⟩ := h; rfl
theorem rd_whole_row {ds A} (h : P_wr ds A) : SW K cs W0 (t_whole_row K) (frame 4 ds) (rts0 A) := by
  obtain ⟨a, s, c, rfl, hs, ha, hl, hc, h⟩ := h
  unfold t_whole_row
  walk_at "w"
  refine lcM (f := fr) (fun f => .int (kyF c f)) (by omega) (unk2 rfl rfl) (fun f mf => ?_) ?_
  · have gf := hs f mf
    walk_at "w"
    refine ⟨Bd.dv (n := 4000) gf.ne (gf.sz.2.mono ha) (by decide), ?_⟩
    walk_at "w"
    exact ⟨(gf.sz.1.mono ha).cm (hc.fdiv _) (by decide), rfl⟩
  · refine ⟨_, rfl, ?_⟩
    show A _
    unfold inz ky at h
    rw [List.map_map] at h
    exact h
def P_rising : Pr := fun ds A => ∃ (x : PyData) (a N : Nat) (ss ys : List Spot), ds = [x] ∧ itemsOf x = some (ss.map frs) ∧ CbB a N ss ∧ a ≤ 4000 ∧ N ≤ 7000 ∧ (∀ s ∈ ss, s ≠ []) ∧ ss.length ≤ 100000 ∧ (∀ s ∈ ss, s.length ≤ 1000) ∧ Rising ss ys ∧ A (.fl (ol (ys.map frs)))
def t_rising (K : Fg) (w : World) : TS := (tSeq (tAsg (tCall (spW0 K P_cb) [] E0 (tCons (tVar 0) tNil)) (gName 1))
  (tSeq (tAsg (tDcd K w (iSeq K (tVar 0)) (gName 3) tYes (tCB (rTupQ K) (tCons (tCall (spW0 K P_wr) [] E0 (tCons (tVar 3) (tCons (tVar 1) tNil))) tNil)) (tVar 3) [3]) (gName 2))
  (tRet (tLc (iList K (tCB (rSrtD K w) (tCons (tVar 2) tNil))) (gName 4) tYes (tOp (rDx K w) (tVar 2) (tVar 4)) [4]))))
-- slots of rising: 0 spots, 1 common, 2 by_worth, 3 spot, 4 key
theorem ln_rising : ∀ ds A, P_rising ds A → ds.length = 1 := fun ds A h => by obtain ⟨_, _, _, _, _, rfl, _⟩ := h; rfl
/-! what a dict by a comprehension holds -/
section
variable {κ β γ : Type} [DecidableEq κ]
def amap (m : List (κ × β)) (xs : List γ) (k : γ → κ) (v : γ → β) : List (κ × β) := xs.foldl (fun m x => aput m (k x) (v x)) m
theorem putAll_enc {ek : κ → List PyData} {ev : β → PyData} (inj : ∀ a b, kk (ek a) = kk (ek b) → a = b) (k : γ → κ) (v : γ → β) (xs : List γ) : putAll (xs.map fun x => some (ek (k x), ev (v x))) = encM ek ev (amap [] xs k v) := by
  have key : ∀ (xs : List γ) (m : List (κ × β)), (xs.map fun x => some (ek (k x), ev (v x))).foldl putO (encM ek ev m) = encM ek ev (amap m xs k v) := fun xs => by
    induction xs with
    | nil => intro m; rfl
    | cons x xs ih =>
      intro m
      rw [List.map_cons, List.foldl_cons]
      show (xs.map fun x => some (ek (k x), ev (v x))).foldl putO (putK (encM ek ev m) (ek (k x)) (ev (v x))) = _
      rw [put_enc inj, ih]
      rfl
  exact key xs []
theorem amap_get (k : γ → κ) (v : γ → β) (j : κ) : ∀ (xs : List γ) (m : List (κ × β)), (∃ x ∈ xs, k x = j ∧ aget (amap m xs k v) j = some (v x)) ∨ ((∀ x ∈ xs, k x ≠ j) ∧ aget (amap m xs k v) j = aget m j)
  | [], m => .inr ⟨(fun _ h => nomatch h), rfl⟩
  | x :: xs, m => by
    rcases amap_get k v j xs (aput m (k x) (v x)) with ⟨y, h1, h2, h3⟩ | ⟨h1, h2⟩
    · exact .inl ⟨y, List.mem_cons_of_mem _ h1, h2, h3⟩
    · by_cases e : k x = j
      · refine .inl ⟨x, List.mem_cons_self .., e, ?_⟩
        show aget (amap (aput m (k x) (v x)) xs k v) j = _
        rw [h2, aget_aput, if_pos e.symm]
      · refine .inr ⟨fun y hy => ?_, ?_⟩
        · rcases List.mem_cons.mp hy with rfl | hy
          · exact e
          · exact h1 y hy
        · show aget (amap (aput m (k x) (v x)) xs k v) j = _
          rw [h2, aget_aput, if_neg fun z => e z.symm]
theorem amap_keys (k : γ → κ) (v : γ → β) : ∀ (xs : List γ) (m : List (κ × β)), (m.map (·.1)).Nodup → ((amap m xs k v).map (·.1)).Nodup
  | [], m, h => h
  | x :: xs, m, h => amap_keys k v xs _ (aput_keys h)
theorem amap_mem {k : γ → κ} {v : γ → β} {xs : List γ} {j : κ} : j ∈ (amap [] xs k v).map (·.1) ↔ ∃ x ∈ xs, k x = j := by
  rcases amap_get k v j xs [] with ⟨y, h1, h2, h3⟩ | ⟨h1, h2⟩
  · exact ⟨fun _ => ⟨y, h1, h2⟩, fun _ => List.mem_map.mpr ⟨_, aget_mem h3, rfl⟩⟩
  · constructor
    · intro h
      obtain ⟨p, hp, rfl⟩ := List.mem_map.mp h
      exact absurd rfl (aget_none.mp h2 p hp)
    · rintro ⟨x, hx, e⟩
      exact absurd e (h1 x hx)
end
/-- the spots by their keys, in order -/
def risL (c : Int) (ss : List Spot) : List Spot := (srtI ((amap [] ss (ky c) id).map (·.1))).map fun j => (aget (amap [] ss (ky c) id) j).getD []
theorem ris_get {c : Int} {ss : List Spot} {j : List Int} (hj : j ∈ srtI ((amap [] ss (ky c) id).map (·.1))) : ∃ s ∈ ss, ky c s = j ∧ aget (amap [] ss (ky c) id) j = some s := by
  obtain ⟨x, hx, e⟩ := amap_mem.mp (srtI_mem.mp hj)
  rcases amap_get (ky c) id j ss [] with h | ⟨h1, h2⟩
  · exact h
  · exact absurd e (h1 x hx)
theorem risL_rising {c : Int} {ss : List Spot} (hc : 0 < c) (hs : ∀ s ∈ ss, SpC c s) : Rising ss (risL c ss) := by
  have hn : ((amap [] ss (ky c) id).map (·.1)).Nodup := amap_keys _ _ _ _ List.nodup_nil
  refine ⟨?_, fun s => ?_⟩
  · unfold risL
    rw [List.pairwise_map]
    refine (srtI_lt hn).imp_of_mem fun {a b} ha hb h => ?_
    obtain ⟨s, ms, e1, e2⟩ := ris_get ha
    obtain ⟨t, mt, e3, e4⟩ := ris_get hb
    rw [e2, e4]
    rw [← e1, ← e3] at h
    exact (ky_slt hc (hs s ms) (hs t mt)).mp h
  · unfold risL
    constructor
    · intro h
      obtain ⟨j, hj, rfl⟩ := List.mem_map.mp h
      obtain ⟨t, mt, e3, e4⟩ := ris_get hj
      rw [e4]; exact mt
    · intro h
      have hj : ky c s ∈ srtI ((amap [] ss (ky c) id).map (·.1)) := srtI_mem.mpr (amap_mem.mpr ⟨s, h, rfl⟩)
      refine List.mem_map.mpr ⟨ky c s, hj, ?_⟩
      obtain ⟨t, mt, e3, e4⟩ := ris_get hj
      rw [e4]
      exact ky_inj hc (hs t mt) (hs s h) e3
theorem c_wr {a : Nat} {s : Spot} {c : Int} (hs : Gds a s) (ha : a ≤ 4000) (hl : s.length ≤ 1000) (hc : Bd 8000 c) (h : φ (.list (inz (ky c s)))) : P_wr [frs s, .int c] (rE φ ε) := ⟨a, s, c, rfl, hs, ha, hl, hc, h⟩
theorem rd_rising {ds A} (h : P_rising ds A) : SW K cs W0 (t_rising K w) (frame 5 ds) (rts0 A) := by
  obtain ⟨x, a, N, ss, ys, rfl, hx, hs, ha, hN, hne, hz, hr0, hr, h⟩ := h
  obtain ⟨c1, c2, c3⟩ := hs.spc
  unfold t_rising
  walk_at "w"
  refine ⟨x, a, N, ss, rfl, hx, hs, ha, hN, ?_⟩
  show SW _ _ _ _ _ _
  refine sw_seq (sw_asgF ?_)
  walk_at "ef"
  walk_at "w"
  refine ⟨_, hx, dcM (f := frs) (fun s => inz (ky (cb 1 ss) s)) (fun s => frs s) (by omega) (unk1 rfl) (fun s ms => ?_) fun ep => ?_⟩
  · walk_at "w"
    refine c_wr (hs.gd s ms) ha (hr0 s ms) (c3.mono (by omega)) ?_
    walk_at "w"
    exact ⟨rfl, kg_ints _, rfl⟩
  · show SW _ _ _ _ _ _
    have ee : putAll (ss.map fun x => some (inz (ky (cb 1 ss) x), frs x)) = encM inz frs (amap [] ss (ky (cb 1 ss)) id) := putAll_enc (ek := inz) (ev := frs) kk_inj (ky (cb 1 ss)) id ss
    have el := putAll_len (ss.map fun x => some (inz (ky (cb 1 ss) x), frs x))
    rw [ee, List.length_map] at el
    rw [ee]
    have ek : (encM inz frs (amap [] ss (ky (cb 1 ss)) id)).map (fun q => PyData.tuple q.1) = ((amap [] ss (ky (cb 1 ss)) id).map (·.1)).map fun j => PyData.tuple (inz j) := by
      unfold encM
      rw [List.map_map, List.map_map]
      rfl
    have en : ∀ j ∈ (amap [] ss (ky (cb 1 ss)) id).map (·.1), j ≠ [] := fun j hj => by
      obtain ⟨s, ms, rfl⟩ := amap_mem.mp hj
      exact fun z => hne s ms (List.map_eq_nil_iff.mp z)
    have hlen : (srtI ((amap [] ss (ky (cb 1 ss)) id).map (·.1))).length ≤ 16000000 := by
      unfold srtI
      unfold encM at el
      rw [List.length_map] at el
      rw [List.length_mergeSort, List.length_map]
      omega
    refine sw_retF (ef_lc (iw_list (ew_srtD (.inl rfl) (by rw [ek]; exact ok_tups en) ⟨_, rfl, ?_⟩)))
    rw [ek, srt_tups]
    refine lcM (fun j => frs ((aget (amap [] ss (ky (cb 1 ss)) id) j).getD [])) hlen (unk1 rfl) (fun j mj => ?_) ?_
    · obtain ⟨t, mt, e3, e4⟩ := ris_get mj
      walk_at "w"
      refine ⟨_, frs t, rfl, kg_ints _, ?_, ?_⟩
      · rw [look_enc (ek := inz) kk_inj, e4]; rfl
      · rw [e4]; rfl
    · have e : ys = risL (cb 1 ss) ss := rising_uniq hr (risL_rising c1 c2)
      rw [e] at h
      unfold risL at h
      rw [List.map_map] at h
      exact h
end


end
section
open PySem PyProof.Rows L2 Evl

section
variable {K : Fg} {cs : Cs} {gs : Gs} {φ : PyData → Prop} {A : Rs → Prop} {ε : Xw → Prop} {w : World}
/-! ### the law's own order -/
-- slots of _law_below: 0 _law_spots_here, 1 _law_found, 2 _law_spot_here, 3 _law_one
-- slots of _law_key: 0 _law_spots_here, 1 _law_below_here, 2 _law_found, 3 _law_spot_here, 4 _law_one
-- slots of _law_rising: 0 _law_spots_here, 1 _law_below_here, 2 _law_keys, 3 _law_found, 4 _law_key_here, 5 _law_spot_here, 6 _law_one
end


end
section
open PySem PyProof.Rows L2 Evl U.Hull

section
variable {K : Fg} {cs : Cs} {gs : Gs} {φ : PyData → Prop} {A : Rs → Prop} {ε : Xw → Prop} {w : World}
/-! ### corners round -/
def P_hull : Pr := fun ds A => ∃ (row : List Spot), ds = [.list (row.map frs)] ∧ (∀ s ∈ row, Gds 900 s ∧ s.length = 2) ∧ row.length ≤ 10000 ∧ A (.fl (ol ((stackS row).reverse.map frs)))
def t_hull_side (K : Fg) : TS := (tSeq (tAsg (tLst tNil) (gName 1))
  (tSeq (tFor (iList K (tVar 0)) (gName 2) (tSeq (tWhile (tAnd (tTest (tOp rGtI (tCB (rLenQ K) (tCons (tVar 1) tNil)) (tC (V.int 1)))) (tTest (tOp rLeI (tCall (spP K P_side) [] E0 (tCons (tOp (rIx K) (tVar 1) (tUn rNegI (tC (V.int 2)))) (tCons (tOp (rIx K) (tVar 1) (tUn rNegI (tC (V.int 1)))) (tCons (tVar 2) tNil)))) (tC (V.int 0))))) (tDrop (tBM0 K "list" rPop (tVar 1))))
  (tDrop (tBM K "list" rAppend (tVar 1) (tCons (tVar 2) tNil)))))
  (tRet (tVar 1))))
-- slots of hull_side: 0 spots, 1 found, 2 spot
theorem ln_hull_side : ∀ ds A, P_hull ds A → ds.length = 1 := fun ds A h => by obtain ⟨_, rfl, _⟩ := h; rfl
theorem sgnQ_le (x : Rat) : decide (sgnQ x ≤ 0) = decide (x ≤ 0) := by
  unfold sgnQ
  by_cases h : 0 < x
  · rw [if_pos h, decide_eq_false (by decide), decide_eq_false (by grind)]
  · rw [if_neg h, decide_eq_true (by split <;> decide), decide_eq_true (by grind)]
theorem c_side {s t u : Spot} (hs : Gds 900 s) (ls : s.length = 2) (ht : Gds 900 t) (lt : t.length = 2) (hu : Gds 900 u) (lu : u.length = 2) (h : φ (.int (sgnQ (tn (pt s) (pt t) (pt u))))) : ∃ r, P_side [frs s, frs t, frs u] r ∧ φ r := by
  obtain ⟨a, b, rfl⟩ := two_of ls
  obtain ⟨c, d, rfl⟩ := two_of lt
  obtain ⟨e, f, rfl⟩ := two_of lu
  refine ⟨_, ⟨a, b, c, d, e, f, rfl, hs.fst, hs.snd, ht.fst, ht.snd, hu.fst, hu.snd, rfl⟩, ?_⟩
  rw [side_val hs ht hu]
  exact h
theorem stackS_len {row : List Spot} : (stackS row).length ≤ row.length := by
  have pl : ∀ (q : Spot) (l : List Spot), (popS q l).length ≤ l.length := fun q l => by
    induction l with
    | nil => exact Nat.le_refl _
    | cons t l ih =>
      cases l with
      | nil => exact Nat.le_refl _
      | cons s r =>
        unfold popS
        split
        · exact Nat.le_succ_of_le ih
        · exact Nat.le_refl _
  have key : ∀ (row st : List Spot), (row.foldl (fun st q => q :: popS q st) st).length ≤ st.length + row.length := fun row => by
    induction row with
    | nil => intro st; exact Nat.le_refl _
    | cons q row ih =>
      intro st
      have h1 := ih (q :: popS q st)
      have h2 := pl q st
      rw [List.length_cons] at h1
      rw [List.foldl_cons, List.length_cons]
      omega
  have := key row []
  simpa [stackS] using this
theorem stackS_snoc {row : List Spot} {s : Spot} : stackS (row ++ [s]) = s :: popS s (stackS row) := by unfold stackS; rw [List.foldl_append]; rfl
theorem rd_hull_side {ds A} (h : P_hull ds A) : SW K cs W0 (t_hull_side K) (frame 3 ds) (rts0 A) := by
  obtain ⟨row, rfl, hs, hl, h⟩ := h
  unfold t_hull_side
  refine sw_seq (sw_asgF (ef_lst0 ?_))
  walk_at "w"
  refine forP (fun pre G => ∃ e2, G = [.d (.list (row.map frs)), .ow (ol ((stackS pre).reverse.map frs)), e2]) ⟨_, rfl⟩ ?_ ?_
  · rintro pre s post G1 e ⟨e2, rfl⟩
    have ms : s ∈ row := by rw [e]; simp
    have mp : ∀ t ∈ pre, t ∈ row := fun t ht => by rw [e]; simp [ht]
    have lpr : pre.length + 1 ≤ row.length := by rw [e]; simp
    have sl := stackS_len (row := pre)
    walk_at "w"
    refine sw_while (fun n G => ∃ st : List Spot, st.length = n ∧ st.length ≤ pre.length ∧ popS s st = popS s (stackS pre) ∧ (∀ p ∈ st, p ∈ row) ∧ G = [.d (.list (row.map frs)), .ow (ol (st.reverse.map frs)), .d (frs s)]) (stackS pre).length ⟨stackS pre, rfl, sl, rfl, fun p hp => mp p (stackS_sub p hp), rfl⟩ ?_
    rintro n _ ⟨st, hn, hln, hp, hm, rfl⟩
    have fin : popS s st = st → SW K cs W0 (tDrop (tBM K "list" rAppend (tVar 1) (tCons (tVar 2) tNil))) [.d (.list (row.map frs)), .ow (ol (st.reverse.map frs)), .d (frs s)] (lp (fun G => ∃ e2, G = [.d (.list (row.map frs)), .ow (ol ((stackS (pre ++ [s])).reverse.map frs)), e2]) (sq K cs W0 (tRet (tVar 1)) (rts0 A))) := fun e => by
      have es : (stackS (pre ++ [s])).reverse.map frs = st.reverse.map frs ++ [frs s] := by
        rw [stackS_snoc, ← hp, e, List.reverse_cons, List.map_append]; rfl
      rw [es]
      refine sw_app rfl (by rw [List.length_map, List.length_reverse]; omega) ?_
      walk_at "w"
      exact ⟨_, rfl⟩
    walk_at "w"
    match st, hn, hln, hp, hm, fin with
    | [], hn, hln, hp, hm, fin =>
      refine cnd_no (by simp) ?_
      refine cnd_f ?_
      exact fin rfl
    | [t], hn, hln, hp, hm, fin =>
      refine cnd_no (by simp) ?_
      refine cnd_f ?_
      exact fin rfl
    | t :: u :: r, hn, hln, hp, hm, fin =>
      refine cnd_yes (by simp; omega) ?_
      have gt := hs t (hm t (by simp))
      have gu := hs u (hm u (by simp))
      have gs := hs s ms
      have er : (t :: u :: r).reverse.map frs = r.reverse.map frs ++ [frs u, frs t] := by simp
      have a1 : atI ((t :: u :: r).reverse.map frs) (-1) = some (frs t) := by
        rw [er]; exact atm (k := 1) (by simp) (by decide) (by simp)
      have a2 : atI ((t :: u :: r).reverse.map frs) (-2) = some (frs u) := by
        rw [er]; exact atm (k := 2) (by simp) (by decide) (by simp)
      walk_at "w"
      refine ⟨_, a2, ?_⟩
      walk_at "w"
      refine ⟨_, a1, ?_⟩
      walk_at "w"
      refine c_side gu.1 gu.2 gt.1 gt.2 gs.1 gs.2 ?_
      walk_at "w"
      rw [sgnQ_le]
      refine cnd_d (fun hc => ?_) (fun hc => ?_)
      · refine sw_popD rfl (by simp) ?_
        refine ⟨(u :: r).length, by rw [← hn]; simp, u :: r, rfl, by simp at hln ⊢; omega, ?_, fun p hp => hm p (List.mem_cons_of_mem _ hp), ?_⟩
        · rw [← hp]
          conv => rhs; unfold popS
          rw [if_pos hc]
        · rw [List.reverse_cons, List.map_append, List.map_cons, List.map_nil, List.dropLast_concat]
          rfl
      · refine fin ?_
        unfold popS
        rw [if_neg hc]
  · rintro G1 ⟨e2, rfl⟩
    refine sw_retO (i := 1) rfl ?_
    exact h
end


end
section
open PySem PyProof.Rows L2 Evl U.Hull

section
variable {K : Fg} {cs : Cs} {gs : Gs} {φ : PyData → Prop} {A : Rs → Prop} {ε : Xw → Prop} {w : World}
/-- spots of one room, of bounded numbers and bounded many -/
structure SpR (a r : Nat) (ss : List Spot) : Prop where
  hr : r = 1 ∨ r = 2
  gd : ∀ s ∈ ss, Gds a s ∧ s.length = r
  ne : ss ≠ []
  ha : a ≤ 900
  hl : ss.length ≤ 10000
  hb : ∃ N, N ≤ 6900 ∧ CbB a N ss
theorem SpR.l1 {a r : Nat} {ss : List Spot} (h : SpR a r ss) : ∀ s ∈ ss, s.length ≤ 1000 := fun s hs => by have := (h.gd s hs).2; have := h.hr; omega
theorem SpR.nes {a r : Nat} {ss : List Spot} (h : SpR a r ss) : ∀ s ∈ ss, s ≠ [] := fun s hs e => by have h1 := (h.gd s hs).2; rw [e] at h1; have := h.hr; simp at h1; omega
theorem SpR.row {a r : Nat} {ss row : List Spot} (h : SpR a r ss) (hr : Rising ss row) : RowOk r row where
  hr := h.hr
  rm := fun s hs => ⟨⟨a, (h.gd s ((hr.2 s).mp hs)).1⟩, (h.gd s ((hr.2 s).mp hs)).2⟩
  pw := hr.1
  ne := fun e => by
    obtain ⟨s, l, e2⟩ := List.exists_cons_of_ne_nil h.ne
    have := (hr.2 s).mpr (by rw [e2]; simp)
    rw [e] at this
    simp at this
theorem slt_nodup {row : List Spot} (h : row.Pairwise sLt) : row.Nodup := h.imp fun {a b} hab e => by rw [e] at hab; exact sLt_irr _ hab
theorem SpR.rlen {a r : Nat} {ss row : List Spot} (h : SpR a r ss) (hr : Rising ss row) : row.length ≤ ss.length := (slt_nodup hr.1).length_le_of_subset fun s hs => (hr.2 s).mp hs
def P_corners : Pr := fun ds A => ∃ (x : PyData) (a r : Nat) (ss row : List Spot), ds = [x] ∧ itemsOf x = some (ss.map frs) ∧ SpR a r ss ∧ Rising ss row ∧ A (.ok (.tuple ((bodyS row).map frs)))
def t_corners_round (K : Fg) : TS := (tSeq (tAsg (tCall (spW0 K P_rising) [] E0 (tCons (tVar 0) tNil)) (gName 1))
  (tSeq (tIfS (tOr (tTest (tOp rLtI (tCB (rLenQ K) (tCons (tVar 1) tNil)) (tC (V.int 3)))) (tTest (tOp rEq (tCB (rLenQ K) (tCons (tOp (rIx K) (tVar 1) (tC (V.int 0))) tNil)) (tC (V.int 1))))) (tRet (tIf (tTest (tOp rEq (tCB (rLenQ K) (tCons (tVar 1) tNil)) (tC (V.int 1)))) (tTup (tCons (tOp (rIx K) (tVar 1) (tC (V.int 0))) tNil)) (tTup (tCons (tOp (rIx K) (tVar 1) (tC (V.int 0))) (tCons (tOp (rIx K) (tVar 1) (tUn rNegI (tC (V.int 1)))) tNil))))) tNext)
  (tSeq (tAsg (tCall (spW0 K P_hull) [] E0 (tCons (tVar 1) tNil)) (gName 2))
  (tSeq (tAsg (tCall (spW0 K P_hull) [] E0 (tCons (tRevL K (tVar 1)) tNil)) (gName 3))
  (tRet (tCB (rTupQ K) (tCons (tOp (rCatL K) (tSl (rSlL K) (tVar 2) tNoPart (tPart (tUn rNegI (tC (V.int 1))))) (tSl (rSlL K) (tVar 3) tNoPart (tPart (tUn rNegI (tC (V.int 1)))))) tNil)))))))
-- slots of corners_round: 0 spots, 1 row, 2 below, 3 above
theorem ln_corners_round : ∀ ds A, P_corners ds A → ds.length = 1 := fun ds A h => by obtain ⟨_, _, _, _, _, rfl, _⟩ := h; rfl
theorem two_ends {α : Type} : ∀ {l : List α}, 2 ≤ l.length → ∃ a m b, l = a :: (m ++ [b])
  | [], h => by simp at h
  | [_], h => by simp at h
  | a :: b :: l, _ => ⟨a, (b :: l).dropLast, (b :: l).getLast (by simp), by rw [List.dropLast_concat_getLast]⟩
theorem rd_corners_round {ds A} (h : P_corners ds A) : SW K cs W0 (t_corners_round K) (frame 4 ds) (rts0 A) := by
  obtain ⟨x, a, r, ss, row, rfl, hx, hs, hr, h⟩ := h
  have R := hs.row hr
  have rl := hs.rlen hr
  have hll := hs.hl
  have grow : ∀ s ∈ row, Gds 900 s ∧ s.length = r := fun s ms => ⟨((hs.gd s ((hr.2 s).mp ms)).1).mono hs.ha, (hs.gd s ((hr.2 s).mp ms)).2⟩
  unfold t_corners_round
  walk_at "w"
  obtain ⟨N, hN, hcb⟩ := hs.hb
  have hha := hs.ha
  refine ⟨x, a, N, ss, row, rfl, hx, hcb, by omega, by omega, hs.nes, by omega, hs.l1, hr, ?_⟩
  walk_at "w"
  have lr := List.length_pos_iff.mpr R.ne
  have fin : (row.length < 3 ∨ r = 1) → EW K cs W0 (tIf (tTest (tOp rEq (tCB (rLenQ K) (tCons (tVar 1) tNil)) (tC (V.int 1)))) (tTup (tCons (tOp (rIx K) (tVar 1) (tC (V.int 0))) tNil)) (tTup (tCons (tOp (rIx K) (tVar 1) (tC (V.int 0))) (tCons (tOp (rIx K) (tVar 1) (tUn rNegI (tC (V.int 1)))) tNil)))) (List.set (frame 4 [x]) 1 (En.d (PyData.list (List.map frs row)))) (fun y => y = .tuple ((bodyS row).map frs)) noX := fun hc => by
    walk_at "wi"
    refine cnd_d (fun h1 => ?_) (fun h1 => ?_)
    · have h1 : row.length = 1 := by rw [List.length_map] at h1; omega
      obtain ⟨s, rfl⟩ := List.length_eq_one_iff.mp h1
      walk_at "wi"
      rfl
    · have h1 : row.length ≠ 1 := by rw [List.length_map] at h1; omega
      obtain ⟨u, m, v, rfl⟩ := two_ends (l := row) (by omega)
      have eb : bodyS (u :: (m ++ [v])) = [u, v] := by
        unfold bodyS
        rw [if_neg h1]
        rcases hc with hc | hc
        · have : m = [] := by
            rw [← List.length_eq_zero_iff]
            simp at hc
            omega
          subst this
          rfl
        · exact ring_line fun s hs => by rw [(grow s hs).2, hc]
      have a1 : atI ((u :: (m ++ [v])).map frs) (-1) = some (frs v) := by
        have : (u :: (m ++ [v])).map frs = (u :: m).map frs ++ [frs v] := by simp
        rw [this]; exact atm (k := 1) (by simp) (by decide) (by simp)
      walk_at "wi"
      refine ⟨_, a1, ?_⟩
      walk_at "wi"
      rw [eb]
      rfl
  walk_at "wi"
  refine cnd_d (fun hc => ?_) (fun hc => ?_)
  · refine cnd_t ?_
    refine sw_ret (ew_mono (fin (.inl (by rw [List.length_map] at hc; omega))) ?_)
    rintro y rfl
    exact h
  have h3 : 3 ≤ row.length := by rw [List.length_map] at hc; omega
  obtain ⟨u, row', erow⟩ := List.exists_cons_of_ne_nil R.ne
  have gu := grow u (by rw [erow]; simp)
  have a0 : atI (row.map frs) 0 = some (frs u) := atI_nat (j := 0) (by rw [erow]; rfl)
  walk_at "wi"
  refine ⟨_, a0, ?_⟩
  walk_at "wi"
  refine cnd_d (fun hc2 => ?_) (fun hc2 => ?_)
  · refine sw_ret (ew_mono (fin (.inr ?_)) ?_)
    · rw [List.length_map, gu.2] at hc2; omega
    · rintro y rfl
      exact h
  have r2 : r = 2 := by
    rw [List.length_map, gu.2] at hc2
    have := hs.hr
    omega
  subst r2
  walk_at "wi"
  refine ⟨row, rfl, grow, by omega, ?_⟩
  walk_at "wi"
  refine ⟨row.reverse, by rw [List.map_reverse], fun s ms => grow s (List.mem_reverse.mp ms), by rw [List.length_reverse]; omega, ?_⟩
  walk_at "wi"
  rw [cutD_init, cutD_init]
  have eb : (bodyS row).map frs = (List.map frs (stackS row).reverse).dropLast ++ (List.map frs (stackS row.reverse).reverse).dropLast := by
    have rt : ∀ st : List Spot, st.tail.reverse = st.reverse.dropLast := fun st => by
      cases st <;> simp
    unfold bodyS ringS
    rw [if_neg (by omega), List.map_append, rt, rt, List.map_dropLast, List.map_dropLast]
  refine ⟨?_, ?_⟩
  · have h4 := stackS_len (row := row)
    have h5 := stackS_len (row := row.reverse)
    rw [List.length_reverse] at h5
    simp
    omega
  · walk_at "wi"
    rw [← eb]
    exact h
end


end
section
open PySem PyProof.Rows L2 Evl U.Hull

section
variable {K : Fg} {cs : Cs} {gs : Gs} {φ : PyData → Prop} {A : Rs → Prop} {ε : Xw → Prop} {w : World}
/-! ### the law's own body -/
instance (h r q : Pt) : Decidable (Btw h r q) := by unfold Btw; exact inferInstance
-- slots of _law_between: 0 _law_one, 1 _law_two, 2 _law_spot_here, 3 _law_at
/-! what follows a corner -/
instance (P : List Pt) (h q : Pt) : Decidable (Nx P h q) := by unfold Nx; exact inferInstance
-- slots of _law_next: 0 _law_row, 1 _law_here, 2 _law_spot_here, 3 _law_one
end


end
section
open PySem PyProof.Rows L2 Evl U.Hull

section
variable {K : Fg} {cs : Cs} {gs : Gs} {φ : PyData → Prop} {A : Rs → Prop} {ε : Xw → Prop} {w : World}
-- slots of _law_body: 0 _law_spots_here, 1 _law_row, 2 _law_found, 3 _law_step, 4 _law_spot_here
end


end
section
open PySem PyProof.Rows L2 Evl U.Hull

section
variable {K : Fg} {cs : Cs} {gs : Gs} {φ : PyData → Prop} {A : Rs → Prop} {ε : Xw → Prop} {w : World}
/-! ### drawn rooms and spots -/
-- slots of _law_room: 0 _law_bag_here
/-- spots of a room -/
def Sps (a r : Nat) (ss : List Spot) : Prop := ∀ s ∈ ss, Gds a s ∧ s.length = r
theorem atI_in {α : Type} {f : α → PyData} {xs : List α} {j : Int} (h0 : 0 ≤ j) (h1 : j < xs.length) : ∃ s ∈ xs, atI (xs.map f) j = some (f s) := by
  obtain ⟨k, rfl⟩ := Int.eq_ofNat_of_zero_le h0
  have hk : k < xs.length := by omega
  exact ⟨xs[k], List.getElem_mem _, atI_nat (by rw [List.getElem?_map, List.getElem?_eq_getElem hk]; rfl)⟩
-- slots of _law_spots: 0 _law_bag_here, 1 _law_rank, 2 _law_limit, 3 _law_many, 4 _law_found, 5 _law_kind, 6 _law_one, 7 _law_two, 8 _law_at
-- slots of _law_wide_spots: 0 _law_bag_here, 1 _law_rank, 2 _law_limit, 3 _law_found, 4 _law_k, 5 _law_at
end


end
section
open PySem PyProof.Rows L2 Evl U.Hull

section
variable {K : Fg} {cs : Cs} {gs : Gs} {φ : PyData → Prop} {A : Rs → Prop} {ε : Xw → Prop} {w : World}
/-! ### sides, land -/
abbrev bod (bs : List Spot) : PyData := .tuple (bs.map frs)
-- slots of sides_of: 0 body, 1 at, 2 corner
-- slots of size_of: 0 body
-- slots of land_of: 0 body, 1 found, 2 x, 3 y, 4 right, 5 up
end


end
section
open PySem PyProof.Rows L2 Evl U.Hull

section
variable {K : Fg} {cs : Cs} {gs : Gs} {φ : PyData → Prop} {A : Rs → Prop} {ε : Xw → Prop} {w : World}
-- slots of _law_three_land: 0 _law_one, 1 _law_two, 2 _law_three, 3 _law_first, 4 _law_second, 5 _law_third
/-! what is needed of bodies -/
theorem sps_body {a r : Nat} {ss row : List Spot} (h : SpR a r ss) (hr : Rising ss row) : Sps a r (bodyS row) ∧ 1 ≤ (bodyS row).length ∧ (bodyS row).length ≤ ss.length ∧ (r = 1 → (bodyS row).length ≤ 2) := by
  have R := h.row hr
  have B := body_ok R
  have l1 := B.len
  have l2 := h.rlen hr
  refine ⟨fun s hs => h.gd s ((hr.2 s).mp (B.sub s hs)), ?_, by omega, fun e => ?_⟩
  · cases hb : bodyS row with
    | nil =>
      have := B.hd
      rw [hb] at this
      obtain ⟨u, row', erow⟩ := List.exists_cons_of_ne_nil R.ne
      rw [erow] at this
      simp at this
    | cons a l => simp
  · unfold bodyS
    split
    · omega
    · rename_i hl
      have := List.length_pos_iff.mpr R.ne
      obtain ⟨u, m, v, rfl⟩ := two_ends (l := row) (by omega)
      rw [ring_line fun s hs => by rw [(R.rm s hs).len, e]]
      simp
theorem rising_ex {a r : Nat} {ss : List Spot} (h : SpR a r ss) : ∃ row, Rising ss row := by
  obtain ⟨N, hN, hcb⟩ := h.hb
  exact ⟨_, risL_rising hcb.spc.1 hcb.spc.2.1⟩
theorem c_corners {a r : Nat} {ss : List Spot} {x : PyData} (h : SpR a r ss) (hx : itemsOf x = some (ss.map frs)) (k : ∀ row, Rising ss row → φ (bod (bodyS row))) : P_corners [x] (rE φ ε) := by
  obtain ⟨row, hr⟩ := rising_ex h
  exact ⟨x, a, r, ss, row, rfl, hx, h, hr, k row hr⟩
end


end
section
open PySem PyProof.Rows L2 Evl U.Hull

section
variable {K : Fg} {cs : Cs} {gs : Gs} {φ : PyData → Prop} {A : Rs → Prop} {ε : Xw → Prop} {w : World}
/-! ### bodies in order, faces -/
abbrev Body := List Spot
/-- bodies of one room, of bounded numbers -/
structure Bds (a r : Nat) (bs : List Body) : Prop where
  hr : r = 1 ∨ r = 2
  gd : ∀ b ∈ bs, Sps a r b ∧ 1 ≤ b.length ∧ b.length ≤ 1000
def fl (b : Body) : Spot := b.flatten
/-- in order, each once -/
def InOrd (bs ys : List Body) : Prop := ys.Pairwise (fun a b => sLt (fl a) (fl b)) ∧ ∀ b, b ∈ ys ↔ b ∈ bs
theorem inOrd_uniq {bs ys zs : List Body} (h1 : InOrd bs ys) (h2 : InOrd bs zs) : ys = zs := pw_uniq (fun x => sLt_irr (fl x)) (fun x y => sLt_asy (fl x) (fl y)) h1.1 h2.1 fun s => (h1.2 s).trans (h2.2 s).symm
theorem fl_inj {r : Nat} (hr : 0 < r) : ∀ {b c : Body}, (∀ s ∈ b, s.length = r) → (∀ s ∈ c, s.length = r) → fl b = fl c → b = c
  | [], [], _, _, _ => rfl
  | [], s :: c, _, h, e => by
    have l := h s (by simp)
    have e' : s ++ c.flatten = [] := e.symm
    rw [(List.append_eq_nil_iff.mp e').1] at l
    simp at l
    omega
  | s :: b, [], h, _, e => by
    have l := h s (by simp)
    have e' : s ++ b.flatten = [] := e
    rw [(List.append_eq_nil_iff.mp e').1] at l
    simp at l
    omega
  | s :: b, t :: c, h1, h2, e => by
    have l1 := h1 s (by simp)
    have l2 := h2 t (by simp)
    unfold fl at e
    rw [List.flatten_cons, List.flatten_cons] at e
    obtain ⟨e1, e2⟩ := List.append_inj e (by rw [l1, l2])
    rw [e1, fl_inj hr (fun s hs => h1 s (by simp [hs])) (fun s hs => h2 s (by simp [hs])) e2]
theorem Bds.inj {a r : Nat} {bs : List Body} (h : Bds a r bs) {b c : Body} (hb : b ∈ bs) (hc : c ∈ bs) (e : fl b = fl c) : b = c := fl_inj (r := r) (by have := h.hr; omega) (fun s hs => ((h.gd b hb).1 s hs).2) (fun s hs => ((h.gd c hc).1 s hs).2) e
theorem ky_fl (c : Int) (b : Body) : b.flatMap (ky c) = ky c (fl b) := by
  unfold fl
  induction b with
  | nil => rfl
  | cons s b ih => rw [List.flatMap_cons, ih, List.flatten_cons]; unfold ky; rw [List.map_append]
theorem spc_fl {c : Int} {b : Body} {a : Nat} (h : ∀ s ∈ b, Gds a s) (d : ∀ s ∈ b, ∀ f ∈ s, f.2 ∣ c) : SpC c (fl b) := ⟨⟨a, fun f hf => by
  obtain ⟨s, hs, hf⟩ := List.mem_flatten.mp hf
  exact h s hs f hf⟩, fun f hf => by
  obtain ⟨s, hs, hf⟩ := List.mem_flatten.mp hf
  exact d s hs f hf⟩
/-- the bodies by their keys, in order -/
def ordL (c : Int) (bs : List Body) : List Body := (srtI ((amap [] bs (fun b => ky c (fl b)) id).map (·.1))).map fun j => (aget (amap [] bs (fun b => ky c (fl b)) id) j).getD []
theorem ord_get {c : Int} {bs : List Body} {j : List Int} (hj : j ∈ srtI ((amap [] bs (fun b => ky c (fl b)) id).map (·.1))) : ∃ b ∈ bs, ky c (fl b) = j ∧ aget (amap [] bs (fun b => ky c (fl b)) id) j = some b := by
  obtain ⟨x, hx, e⟩ := amap_mem.mp (srtI_mem.mp hj)
  rcases amap_get (fun b => ky c (fl b)) id j bs [] with h | ⟨h1, h2⟩
  · exact h
  · exact absurd e (h1 x hx)
theorem ordL_ok {c : Int} {bs : List Body} (hc : 0 < c) (hs : ∀ b ∈ bs, SpC c (fl b)) (inj : ∀ b ∈ bs, ∀ b' ∈ bs, fl b = fl b' → b = b') : InOrd bs (ordL c bs) := by
  have hn : ((amap [] bs (fun b => ky c (fl b)) id).map (·.1)).Nodup := amap_keys _ _ _ _ List.nodup_nil
  refine ⟨?_, fun b => ?_⟩
  · unfold ordL
    rw [List.pairwise_map]
    refine (srtI_lt hn).imp_of_mem fun {x y} hx hy h => ?_
    obtain ⟨s, ms, e1, e2⟩ := ord_get hx
    obtain ⟨t, mt, e3, e4⟩ := ord_get hy
    rw [e2, e4]
    rw [← e1, ← e3] at h
    exact (ky_slt hc (hs s ms) (hs t mt)).mp h
  · unfold ordL
    constructor
    · intro h
      obtain ⟨j, hj, rfl⟩ := List.mem_map.mp h
      obtain ⟨t, mt, e3, e4⟩ := ord_get hj
      rw [e4]; exact mt
    · intro h
      have hj : ky c (fl b) ∈ srtI ((amap [] bs (fun b => ky c (fl b)) id).map (·.1)) := srtI_mem.mpr (amap_mem.mpr ⟨b, h, rfl⟩)
      refine List.mem_map.mpr ⟨ky c (fl b), hj, ?_⟩
      obtain ⟨t, mt, e3, e4⟩ := ord_get hj
      rw [e4]
      exact inj t mt b h (ky_inj hc (hs t mt) (hs b h) e3)
/-- all corners -/
def crn (bs : List Body) : List Spot := bs.flatten
def P_inOrder : Pr := fun ds A => ∃ (a r N : Nat) (bs ys : List Body), ds = [.list (bs.map bod)] ∧ Bds a r bs ∧ CbB a N (crn bs) ∧ a ≤ 4000 ∧ N ≤ 7000 ∧ bs.length ≤ 10000 ∧ InOrd bs ys ∧ A (.fl (ol (ys.map bod)))
def t_in_order (K : Fg) (w : World) : TS := (tSeq (tAsg (tCall (spW0 K P_cb) [] E0 (tCons (tLcN (iList K (tVar 0)) (gName 3) tYes (tClause (iTup K (tVar 3)) (gName 5) tYes (tElt (tVar 5)) [5]) [3, 5]) tNil)) (gName 1))
  (tSeq (tAsg (tDct0 w) (gName 2))
  (tSeq (tFor (iList K (tVar 0)) (gName 3) (tSeq (tAsg (tCB (rTupQ K) (tCons (tLcN (iTup K (tVar 3)) (gName 5) tYes (tClause (iList K (tCall (spW0 K P_wr) [] E0 (tCons (tVar 5) (tCons (tVar 1) tNil)))) (gName 6) tYes (tElt (tVar 6)) [6]) [5, 6]) tNil)) (gName 4))
  (tAsg (tVar 3) (gSub (tVar 2) (tVar 4) (rDset K w)))))
  (tRet (tLc (iList K (tCB (rSrtD K w) (tCons (tVar 2) tNil))) (gName 4) tYes (tOp (rDx K w) (tVar 2) (tVar 4)) [4])))))
-- slots of in_order: 0 bodies, 1 common, 2 by_worth, 3 body, 4 key, 5 corner, 6 number
theorem ln_in_order : ∀ ds A, P_inOrder ds A → ds.length = 1 := fun ds A h => by obtain ⟨_, _, _, _, _, rfl, _⟩ := h; rfl
theorem crn_map (bs : List Body) : (bs.flatMap fun b => b.map frs) = (crn bs).map frs := by
  unfold crn
  induction bs with
  | nil => rfl
  | cons b bs ih => rw [List.flatMap_cons, ih, List.flatten_cons, List.map_append]
theorem mem_crn {bs : List Body} {b : Body} {s : Spot} (hb : b ∈ bs) (hs : s ∈ b) : s ∈ crn bs := List.mem_flatten.mpr ⟨b, hb, hs⟩
theorem crn_len {bs : List Body} (h : ∀ b ∈ bs, b.length ≤ 1000) : (crn bs).length ≤ bs.length * 1000 := by
  unfold crn
  induction bs with
  | nil => simp
  | cons b bs ih =>
    have h1 := h b (by simp)
    have h2 := ih fun c hc => h c (by simp [hc])
    rw [List.flatten_cons, List.length_append, List.length_cons, Nat.succ_mul]
    omega
theorem amap_snoc {κ β γ : Type} [DecidableEq κ] {m : List (κ × β)} {xs : List γ} {x : γ} {k : γ → κ} {v : γ → β} : amap m (xs ++ [x]) k v = aput (amap m xs k v) (k x) (v x) := by unfold amap; rw [List.foldl_append]; rfl
theorem aput_len {κ β : Type} [DecidableEq κ] {m : List (κ × β)} {k : κ} {v : β} : (aput m k v).length ≤ m.length + 1 := by
  unfold aput
  split
  · rw [List.length_map]; omega
  · rw [List.length_append]; simp
theorem amap_len {κ β γ : Type} [DecidableEq κ] {k : γ → κ} {v : γ → β} : ∀ {xs : List γ} {m : List (κ × β)}, (amap m xs k v).length ≤ m.length + xs.length
  | [], m => Nat.le_refl _
  | x :: xs, m => by
    have h1 := amap_len (k := k) (v := v) (xs := xs) (m := aput m (k x) (v x))
    have h2 := aput_len (m := m) (k := k x) (v := v x)
    show (amap (aput m (k x) (v x)) xs k v).length ≤ _
    rw [List.length_cons]
    omega
theorem rd_in_order {ds A} (h : P_inOrder ds A) : SW K cs W0 (t_in_order K w) (frame 7 ds) (rts0 A) := by
  obtain ⟨a, r, N, bs, ys, rfl, hb, hcb, ha, hN, hl, ho, h⟩ := h
  have hbl : ∀ b ∈ bs, b.length ≤ 1000 := fun b mb => (hb.gd b mb).2.2
  have hcl := crn_len hbl
  obtain ⟨c1, c2, c3⟩ := hcb.spc
  have hspc : ∀ b ∈ bs, SpC (cb 1 (crn bs)) (fl b) := fun b mb => spc_fl (fun s hs => hcb.gd s (mem_crn mb hs)) fun s hs => (c2 s (mem_crn mb hs)).dv
  unfold t_in_order
  walk_at "s"
  refine sw_seq ?_
  walk_at "s"
  refine clM 1000 (fun b => b.map frs) (by omega) (unk2 rfl rfl) (fun b mb => ?_) ?_
  · walk_at "s"
    refine clE (f := frs) frs (by have := hbl b mb; omega) (unk1 rfl) (fun s ms => ?_) rfl
    walk_at "s"
    rfl
  rw [crn_map]
  walk_at "s"
  refine ⟨_, a, N, crn bs, rfl, rfl, hcb, ha, hN, ?_⟩
  generalize cb 1 (crn bs) = c at c1 c2 c3 hspc
  walk_at "s"
  refine sw_seq (sw_asgF (ef_dct0 ?_))
  walk_at "s"
  refine sw_seq ?_
  walk_at "s"
  refine forP (fun pre G => ∃ ep e3 e4, G = [.d (.list (bs.map bod)), .d (.int c), .ow (od w ep (encM inz bod (amap [] pre (fun b => ky c (fl b)) id))), e3, e4, .un, .un]) ⟨_, _, _, rfl⟩ ?_ ?_
  · rintro pre b post _ e ⟨ep, e3, e4, rfl⟩
    have mb : b ∈ bs := by rw [e]; simp
    have lb := hbl b mb
    have lpre : pre.length + 1 ≤ bs.length := by rw [e]; simp
    walk_at "s"
    refine sw_seq ?_
    walk_at "s"
    refine clM (f := frs) 1000 (fun s => inz (ky c s)) (by omega) (unk2 rfl rfl) (fun s ms => ?_) ?_
    · have ls : s.length ≤ 1000 := by have := ((hb.gd b mb).1 s ms).2; have := hb.hr; omega
      walk_at "s"
      refine c_wr ((hb.gd b mb).1 s ms).1 ha ls (c3.mono (by omega)) ?_
      walk_at "s"
      refine clE (f := PyData.int) PyData.int (by rw [List.length_map]; omega) (unk1 rfl) (fun i mi => ?_) rfl
      walk_at "s"
      rfl
    have ek : (b.flatMap fun s => inz (ky c s)) = inz (ky c (fl b)) := by
      rw [← ky_fl]
      unfold inz
      rw [List.map_flatMap]
    rw [ek]
    walk_at "s"
    case hl =>
      unfold encM
      rw [List.length_map]
      refine Nat.lt_of_le_of_lt amap_len ?_
      simp
      omega
    case h =>
      walk_at "s"
      refine ⟨kg_ints _, fun ep' => ?_⟩
      have e5 : putK (encM inz bod (amap [] pre (fun b => ky c (fl b)) id)) (inz (ky c (fl b))) (bod b) = encM inz bod (amap [] (pre ++ [b]) (fun b => ky c (fl b)) id) := by
        rw [amap_snoc]
        exact put_enc (ek := inz) (ev := bod) kk_inj _ (ky c (fl b)) b
      show lp _ _ _
      walk_at "s"
      rw [← e5]
      exact ⟨_, _, _, rfl⟩
  · rintro _ ⟨ep, e3, e4, rfl⟩
    have ek : (encM inz bod (amap [] bs (fun b => ky c (fl b)) id)).map (fun q => PyData.tuple q.1) = ((amap [] bs (fun b => ky c (fl b)) id).map (·.1)).map fun j => PyData.tuple (inz j) := by
      unfold encM
      rw [List.map_map, List.map_map]
      rfl
    have en : ∀ j ∈ (amap [] bs (fun b => ky c (fl b)) id).map (·.1), j ≠ [] := fun j hj => by
      obtain ⟨b, mb, rfl⟩ := amap_mem.mp hj
      intro z
      have z := List.map_eq_nil_iff.mp z
      have l1 := (hb.gd b mb).2.1
      cases b with
      | nil => simp at l1
      | cons s b =>
        have l := ((hb.gd _ mb).1 s (by simp)).2
        have hr := hb.hr
        have z' : s ++ b.flatten = [] := z
        rw [(List.append_eq_nil_iff.mp z').1] at l
        simp at l
        omega
    have hlen : (srtI ((amap [] bs (fun b => ky c (fl b)) id).map (·.1))).length ≤ 16000000 := by
      unfold srtI
      rw [List.length_mergeSort, List.length_map]
      refine Nat.le_trans amap_len ?_
      simp
      omega
    refine sq_nx ?_
    refine sw_wk (G1 := [.d (.list (bs.map bod)), .d (.int c), .ow (od w ep (encM inz bod (amap [] bs (fun b => ky c (fl b)) id))), e3, .un, .un, .un]) (.cons (.cons (.cons (.cons (.drop (.cons (.cons .nil))))))) ?_
    refine sw_retF (ef_lc (iw_list (ew_srtD (.inl rfl) (by rw [ek]; exact ok_tups en) ⟨_, rfl, ?_⟩)))
    rw [ek, srt_tups]
    refine lcM (fun j => bod ((aget (amap [] bs (fun b => ky c (fl b)) id) j).getD [])) hlen (unk1 rfl) (fun j mj => ?_) ?_
    · obtain ⟨t, mt, e3, e4⟩ := ord_get mj
      walk_at "s"
      refine ⟨_, bod t, rfl, kg_ints _, ?_, ?_⟩
      · rw [look_enc (ek := inz) kk_inj, e4]; rfl
      · rw [e4]; rfl
    · have e : ys = ordL c bs := inOrd_uniq ho (ordL_ok c1 hspc fun b mb b' mb' e => hb.inj mb mb' e)
      rw [e] at h
      unfold ordL at h
      rw [List.map_map] at h
      exact h
end


end
section
open PySem PyProof.Rows L2 Evl U.Hull

section
variable {K : Fg} {cs : Cs} {gs : Gs} {φ : PyData → Prop} {A : Rs → Prop} {ε : Xw → Prop} {w : World}
/-! ### == of data by a type -/
/-! ### keys with places, sorted -/
/-! ### the law's own order of bodies -/
-- slots of _law_in_order: 0 _law_bodies, 1 _law_limit, 2 _law_body_here, 3 _law_keys, 4 _law_found, 5 _law_key_here, 6 _law_at
end


end
section
open PySem PyProof.Rows L2 Evl U.Hull

section
variable {K : Fg} {cs : Cs} {gs : Gs} {φ : PyData → Prop} {A : Rs → Prop} {ε : Xw → Prop} {w : World}
/-! ### faces -/
-- slots of faces: 0 body, 1 found, 2 corner, 3 side
theorem inOrd_ex {a r N : Nat} {bs : List Body} (h : Bds a r bs) (hc : CbB a N (crn bs)) : ∃ ys, InOrd bs ys := by
  obtain ⟨c1, c2, c3⟩ := hc.spc
  exact ⟨_, ordL_ok c1 (fun b mb => spc_fl (fun s hs => hc.gd s (mem_crn mb hs)) fun s hs => (c2 s (mem_crn mb hs)).dv) fun b mb b' mb' e => h.inj mb mb' e⟩
end


end
section
open PySem PyProof.Rows L2 Evl U.Hull

section
variable {K : Fg} {cs : Cs} {gs : Gs} {φ : PyData → Prop} {A : Rs → Prop} {ε : Xw → Prop} {w : World} {W : WX}
/-! ### the body of some spots -/
def tupLen : PyData → Int
  | .tuple xs => xs.length
  | _ => 0
def badSpots (x : PyData) : Bool := match itemsOf x with
  | none => true
  | some [] => true
  | some (f :: rest) => !isSpot (tupLen f) f || !rest.all (isSpot (tupLen f))
abbrev xw (c : Str) : Xw := ⟨c, [("word", .str c)]⟩
def P_bodyOf : Pr := fun ds A => ∃ x : PyData, ds = [x] ∧ (∀ xs, itemsOf x = some xs → xs.length ≤ 10000) ∧ ((badSpots x = true ∧ A (.er (xw "BadSpot"))) ∨ ∃ (a r : Nat) (ss : List Spot), itemsOf x = some (ss.map frs) ∧ SpR a r ss ∧ ∀ row, Rising ss row → A (.ok (bod (bodyS row))))
def t_body_of (K : Fg) (cs : Cs) (W : WX) : TS := (tSeq (tIfS (tOr (tNot (tB (tCB (rIsiT K) (tCons (tVar 0) (tCons (tTup (tCons (tC (V.ty "list")) (tCons (tC (V.ty "tuple")) tNil))) tNil))))) (tTest (tOp rEq (tCB (rLenQ K) (tCons (tVar 0) tNil)) (tC (V.int 0))))) (tRaiseX (cs "BadSpot") (spIn K ["word"] (gCw "BadSpot")) [] tNil W) tNext)
  (tSeq (tAsg (tVar 0) (gStarE K (gCons (gName 2) (gCons (gName 3) gNil))))
  (tSeq (tAsg (tIf (tB (tCB (rIsi K) (tCons (tVar 2) (tCons (tC (V.ty "tuple")) tNil)))) (tCB (rLenQ K) (tCons (tVar 2) tNil)) (tC (V.int 0))) (gName 1))
  (tSeq (tIfS (tOr (tNot (tB (tCallN 1 1 (spP K P_isSpot) (fun vs zs => vs ++ zs) E0 (tCons (tVar 2) tNil) (tCons (tVar 1) tNil)))) (tNot (tB (tCB (rAll K) (tCons (tLc (iList K (tVar 3)) (gName 4) tYes (tCallN 1 1 (spP K P_isSpot) (fun vs zs => vs ++ zs) E0 (tCons (tVar 4) tNil) (tCons (tVar 1) tNil)) [4]) tNil))))) (tRaiseX (cs "BadSpot") (spIn K ["word"] (gCw "BadSpot")) [] tNil W) tNext)
  (tRet (tCall (spW0 K P_corners) [] E0 (tCons (tCB (rListQ K) (tCons (tVar 0) tNil)) tNil)))))))
-- slots of body_of: 0 spots, 1 room, 2 first, 3 rest, 4 spot
theorem ln_body_of : ∀ ds A, P_bodyOf ds A → ds.length = 1 := fun ds A h => by obtain ⟨_, rfl, _⟩ := h; rfl
theorem isPart_gd {n : Nat} {f : Fr} (h : Gd n f) : isPart (fr f) = true := by
  show isPart2 (.int f.1) (.int f.2) = true
  show (decide (0 < f.2) && decide (gI f.1 f.2 = 1)) = true
  rw [decide_eq_true h.pos, decide_eq_true h.low]
  rfl
theorem isSpot_ok {a r : Nat} {s : Spot} (hr : r = 1 ∨ r = 2) (hs : Gds a s) (hl : s.length = r) : isSpot (r : Int) (frs s) = true := by
  show ([1, 2].contains (r : Int) && (decide (((s.map fr).length : Int) = r) && (s.map fr).all isPart)) = true
  have e1 : ([1, 2] : List Int).contains (r : Int) = true := by rcases hr with rfl | rfl <;> rfl
  have e2 : (s.map fr).all isPart = true := List.all_eq_true.mpr fun x hx => by
    obtain ⟨f, hf, rfl⟩ := List.mem_map.mp hx
    exact isPart_gd (hs f hf)
  rw [e1, e2, List.length_map, hl]
  simp
theorem good_spots {a r : Nat} {ss : List Spot} {x : PyData} (h : SpR a r ss) (hx : itemsOf x = some (ss.map frs)) : badSpots x = false := by
  obtain ⟨s, ss', e⟩ := List.exists_cons_of_ne_nil h.ne
  unfold badSpots
  rw [hx, e]
  have hs := h.gd s (by rw [e]; simp)
  have et : tupLen (frs s) = (r : Int) := by show ((s.map fr).length : Int) = r; rw [List.length_map, hs.2]
  show (!isSpot (tupLen (frs s)) (frs s) || !(ss'.map frs).all (isSpot (tupLen (frs s)))) = false
  rw [et, isSpot_ok h.hr hs.1 hs.2]
  have : (ss'.map frs).all (isSpot (r : Int)) = true := List.all_eq_true.mpr fun x hx => by
    obtain ⟨t, ht, rfl⟩ := List.mem_map.mp hx
    have ht' := h.gd t (by rw [e]; simp [ht])
    exact isSpot_ok h.hr ht'.1 ht'.2
  rw [this]
  rfl
theorem items_lt (x : PyData) : (isLst x || isTup x) = (itemsOf x).isSome := by cases x <;> rfl
theorem c_isSpot {x : PyData} {n : Int} (h : φ (.bool (isSpot n x))) : ∃ r, P_isSpot [x, .int n] r ∧ φ r := ⟨_, ⟨x, n, rfl, rfl⟩, h⟩
theorem rd_body_of {ds A} (cf : ClsF K cs "BadSpot" ["word"]) (h : P_bodyOf ds A) (W : WX) : SW K cs W (t_body_of K cs W) (frame 5 ds) (rts A) := by
  obtain ⟨x, rfl, hl, h⟩ := h
  have bad : badSpots x = true → A (.er (xw "BadSpot")) := fun hb => by
    rcases h with ⟨_, h⟩ | ⟨a, r, ss, hx, hs, _⟩
    · exact h
    · rw [good_spots hs hx] at hb; cases hb
  unfold t_body_of
  refine sw_seq ?_
  walk_at "s"
  refine ⟨_, _, kit_lst x, kit_tup x, ?_⟩
  rw [items_lt]
  walk_at "s"
  cases hx : itemsOf x with
  | none =>
    refine cnd_nf ?_
    refine cnd_t ?_
    refine sw_raise0 cf rfl ?_
    exact bad (by unfold badSpots; rw [hx])
  | some xs =>
    have hl := hl xs hx
    refine cnd_nt ?_
    walk_at "s"
    refine ⟨_, _, rfl, hx, ?_⟩
    walk_at "s"
    cases xs with
    | nil =>
      refine cnd_yes rfl ?_
      refine sw_raise0 cf rfl ?_
      exact bad (by unfold badSpots; rw [hx])
    | cons f rest =>
      refine cnd_no (by simp; omega) ?_
      walk_at "s"
      refine sw_seq ?_
      walk_at "s"
      refine gw_starE hx (by simp at hl; omega) ?_
      walk_at "s"
      have eb : badSpots x = (!isSpot (tupLen f) f || !rest.all (isSpot (tupLen f))) := by unfold badSpots; rw [hx]
      refine sw_cut (fun G => G = [.d x, .d (.int (tupLen f)), .d f, .d (.list rest), .un]) ?_ ?_
      · walk_at "s"
        refine ⟨_, kit_tup f, ?_⟩
        walk_at "s"
        cases ht : isTup f with
        | true =>
          refine cnd_t ?_
          cases f <;> first | cases ht | skip
          walk_at "s"
          rfl
        | false =>
          refine cnd_f ?_
          walk_at "s"
          have : tupLen f = 0 := by cases f <;> first | rfl | cases ht
          rw [this]
          rfl
      rintro _ rfl
      refine sw_seq ?_
      walk_at "s"
      refine ⟨rfl, rfl, c_isSpot ?_⟩
      walk_at "s"
      refine cnd_b (fun h1 => ?_) (fun h1 => ?_)
      · refine cnd_t ?_
        refine sw_raise0 cf rfl ?_
        exact bad (by rw [eb, h1]; rfl)
      walk_at "s"
      have em : rest = rest.map id := by simp
      rw [em]
      refine lcM (f := id) (fun y => .bool (isSpot (tupLen f) y)) (by simp at hl; omega) (unk1 rfl) (fun y my => ?_) ?_
      · walk_at "s"
        exact ⟨rfl, rfl, c_isSpot rfl⟩
      walk_at "s"
      refine cnd_b (fun h2 => ?_) (fun h2 => ?_)
      · refine sw_raise0 cf rfl ?_
        exact bad (by rw [eb, h2, Bool.or_true])
      have hgood : badSpots x = false := by rw [eb, h1, h2]; rfl
      walk_at "s"
      refine ⟨_, _, rfl, hx, ?_⟩
      walk_at "s"
      rcases h with ⟨hb, _⟩ | ⟨a, r, ss, hx', hs, h⟩
      · rw [hgood] at hb; cases hb
      · rw [hx] at hx'
        rw [Option.some.inj hx']
        refine c_corners hs rfl fun row hrow => ?_
        exact h row hrow
/-! ### lots -/
abbrev Row := Int × Body
abbrev rw' (p : Row) : PyData := .tuple [.int p.1, bod p.2]
abbrev lotD (r : Nat) (rows : List Row) : PyData := .tuple [.int r, .tuple (rows.map rw')]
def sm (n : Int) : Bool := decide (-1000000000000000000 ≤ n) && decide (n ≤ 1000000000000000000)
def smBody (b : Body) : Bool := b.all fun s => s.all fun f => sm f.1 && sm f.2
def smRow (p : Row) : Bool := sm p.1 && smBody p.2
def P_small : Pr := fun ds A => ∃ n l : Int, ds = [.int n, .int l] ∧ A (.ok (.bool (decide (-l ≤ n) && decide (n ≤ l))))
def t_is_small (K : Fg) : TS := (tRet (tChain rLeI rLeI (tUn rNegI (tVar 1)) (tVar 0) (tVar 1)))
-- slots of is_small: 0 number, 1 limit
theorem ln_is_small : ∀ ds A, P_small ds A → ds.length = 2 := fun ds A h => by obtain ⟨_, _, rfl, _⟩ := h; rfl
theorem rd_is_small {ds A} (h : P_small ds A) : SW K cs W0 (t_is_small K) (frame 2 ds) (rts0 A) := by
  obtain ⟨n, l, rfl, h⟩ := h
  unfold t_is_small
  walk_at "s"
  refine cnd_d (fun h1 => ?_) (fun h1 => ?_)
  · walk_at "s"
    rw [decide_eq_true h1] at h
    exact h
  · rw [decide_eq_false h1] at h
    exact h
theorem ew_small {G : Gam} {te : TE} {W : WX} (h : EW K cs W te G (fun x => ∃ n, x = .int n ∧ φ (.bool (sm n))) ε) : EW K cs W (tCall (spW0 K P_small) [V.int 1000000000000000000] E0 (tCons te tNil)) G φ ε :=
  ew_call0 (des := [.int 1000000000000000000]) (fun _ => .cons (.int _) .nil) (aw_cons (ew_mono h fun x ⟨n, e, p⟩ => aw_nil (by rw [e]; exact ⟨n, _, rfl, p⟩)))
def P_bounded : Pr := fun ds A => ∃ (r : Nat) (rows : List Row), ds = [lotD r rows] ∧ rows.length ≤ 100000 ∧ (∀ p ∈ rows, p.2.length ≤ 1000 ∧ ∀ s ∈ p.2, s.length ≤ 2) ∧ (2000 < rows.length → A (.er (xw "TooMany"))) ∧ (rows.length ≤ 2000 → rows.all smRow = true → A (.ok (lotD r rows))) ∧ (rows.length ≤ 2000 → rows.all smRow = false → A (.er (xw "TooGreat")))
def t_bounded (K : Fg) (cs : Cs) (W : WX) : TS := (tSeq (tIfS (tTest (tOp rGtI (tCB (rLenQ K) (tCons (tOp (rIx K) (tVar 0) (tC (V.int 1))) tNil)) (tC (V.int 2000)))) (tRaiseX (cs "TooMany") (spIn K ["word"] (gCw "TooMany")) [] tNil W) tNext)
  (tSeq (tFor (iTup K (tOp (rIx K) (tVar 0) (tC (V.int 1)))) (gTup K 2 (gCons (gName 1) (gCons (gName 2) gNil))) (tSeq (tIfS (tNot (tB (tCall (spW0 K P_small) [V.int 1000000000000000000] E0 (tCons (tVar 1) tNil)))) (tRaiseX (cs "TooGreat") (spIn K ["word"] (gCw "TooGreat")) [] tNil W) tNext)
  (tIfS (tNot (tB (tCB (rAll K) (tCons (tLcN (iTup K (tVar 2)) (gName 3) tYes (tClause (iTup K (tVar 3)) (gName 4) tYes (tClause (iTup K (tVar 4)) (gName 5) tYes (tElt (tCall (spW0 K P_small) [V.int 1000000000000000000] E0 (tCons (tVar 5) tNil))) [5]) [4, 5]) [3, 4, 5]) tNil)))) (tRaiseX (cs "TooGreat") (spIn K ["word"] (gCw "TooGreat")) [] tNil W) tNext)))
  (tRet (tVar 0))))
-- slots of bounded: 0 lot, 1 weight, 2 body, 3 corner, 4 one, 5 number
theorem ln_bounded : ∀ ds A, P_bounded ds A → ds.length = 1 := fun ds A h => by obtain ⟨_, _, rfl, _⟩ := h; rfl
theorem all_body (b : Body) : (b.flatMap fun s => s.flatMap fun f => [sm f.1, sm f.2]).all id = smBody b := by
  unfold smBody
  rw [List.all_flatMap]
  congr 1
  funext s
  rw [List.all_flatMap]
  congr 1
  funext f
  simp
theorem fr_ints (f : Fr) : [PyData.int f.1, PyData.int f.2] = [f.1, f.2].map PyData.int := rfl
theorem rd_bounded {ds A} (cf1 : ClsF K cs "TooMany" ["word"]) (cf2 : ClsF K cs "TooGreat" ["word"]) (h : P_bounded ds A) (W : WX) : SW K cs W (t_bounded K cs W) (frame 6 ds) (rts A) := by
  obtain ⟨r, rows, rfl, hl, hb, h1, h2, h3⟩ := h
  unfold t_bounded
  refine sw_seq ?_
  walk_at "s"
  rw [List.length_map]
  refine cnd_d (fun hm => ?_) (fun hm => ?_)
  · refine sw_raise0 cf1 rfl ?_
    exact h1 (by omega)
  walk_at "s"
  refine sw_seq ?_
  walk_at "s"
  refine forP (fun pre G => ∃ e1 e2, G = [.d (lotD r rows), e1, e2, .un, .un, .un] ∧ pre.all smRow = true) ⟨_, _, rfl, rfl⟩ ?_ ?_
  · rintro pre p post _ e ⟨e1, e2, rfl, hp⟩
    have mp : p ∈ rows := by rw [e]; simp
    have bp := hb p mp
    have no : smRow p = false → A (.er (xw "TooGreat")) := fun z => h3 (by omega) (by rw [e, List.all_append, List.all_cons, z]; simp)
    walk_at "s"
    refine sw_seq ?_
    walk_at "s"
    refine ew_small ?_
    walk_at "s"
    refine cnd_b (fun hs => ?_) (fun hs => ?_)
    · refine sw_raise0 cf2 rfl ?_
      exact no (by unfold smRow; cases hq : sm p.1 with | true => rw [hq] at hs; cases hs | false => rfl)
    have hs' : sm p.1 = true := by cases hq : sm p.1 with | true => rfl | false => rw [hq] at hs; cases hs
    walk_at "s"
    refine clM (f := frs) 4 (fun s => s.flatMap fun f => [PyData.bool (sm f.1), PyData.bool (sm f.2)]) (by omega) (unk3 rfl rfl rfl) (fun s ms => ?_) ?_
    · have ls := bp.2 s ms
      walk_at "s"
      refine clM (f := fr) 2 (fun f => [PyData.bool (sm f.1), PyData.bool (sm f.2)]) (by omega) (unk2 rfl rfl) (fun f mf => ?_) rfl
      walk_at "s"
      rw [fr_ints]
      refine clE (f := PyData.int) (fun i => .bool (sm i)) (by simp) (unk1 rfl) (fun i mi => ?_) rfl
      walk_at "s"
      refine ew_small ?_
      walk_at "s"
      rfl
    walk_at "s"
    have eb : (p.2.flatMap fun s => s.flatMap fun f => [PyData.bool (sm f.1), PyData.bool (sm f.2)]) = (p.2.flatMap fun s => s.flatMap fun f => [sm f.1, sm f.2]).map PyData.bool := by
      rw [List.map_flatMap]
      congr 1
      funext s
      rw [List.map_flatMap]
      rfl
    refine ⟨smBody p.2, ⟨_, by rw [eb], (all_body p.2).symm⟩, ?_⟩
    walk_at "s"
    refine cnd_b (fun hq => ?_) (fun hq => ?_)
    · refine sw_raise0 cf2 rfl ?_
      exact no (by unfold smRow; cases hz : smBody p.2 with | true => rw [hz] at hq; cases hq | false => rw [Bool.and_false])
    have hq' : smBody p.2 = true := by cases hz : smBody p.2 with | true => rfl | false => rw [hz] at hq; cases hq
    walk_at "s"
    exact ⟨_, _, rfl, by rw [List.all_append, hp]; simp [smRow, hs', hq']⟩
  · rintro _ ⟨e1, e2, rfl, hp⟩
    walk_at "s"
    exact h2 (by omega) hp
end


end
section
open PySem PyProof.Rows L2 Evl U.Hull

section
variable {K : Fg} {cs : Cs} {gs : Gs} {φ : PyData → Prop} {A : Rs → Prop} {ε : Xw → Prop} {w : World} {W : WX}
/-! ### weights gathered -/
def wt (rows : List Row) (b : Body) : Int := ((rows.filter fun p => decide (p.2 = b)).map (·.1)).sum
theorem wt_snoc {rows : List Row} {p : Row} {b : Body} : wt (rows ++ [p]) b = wt rows b + (if p.2 = b then p.1 else 0) := by
  unfold wt
  rw [List.filter_append, List.map_append, List.sum_append]
  by_cases h : p.2 = b <;> simp [h]
theorem wt_app {rows qs : List Row} {b : Body} : wt (rows ++ qs) b = wt rows b + wt qs b := by
  unfold wt
  rw [List.filter_append, List.map_append, List.sum_append]
theorem wt_none {rows : List Row} {b : Body} (h : ∀ p ∈ rows, p.2 ≠ b) : wt rows b = 0 := by
  unfold wt
  have : rows.filter (fun p => decide (p.2 = b)) = [] := List.filter_eq_nil_iff.mpr fun p hp => by simpa using h p hp
  rw [this]
  rfl
/-- the lot of some rows -/
def IsLot (rows lt : List Row) : Prop := ∃ ys : List Body, lt = ys.map (fun b => (wt rows b, b)) ∧ ys.Pairwise (fun a b => sLt (fl a) (fl b)) ∧ ∀ b, b ∈ ys ↔ wt rows b ≠ 0
theorem isLot_uniq {rows qs lt lt' : List Row} (e : ∀ b, wt rows b = wt qs b) (h1 : IsLot rows lt) (h2 : IsLot qs lt') : lt = lt' := by
  obtain ⟨ys, rfl, p1, m1⟩ := h1
  obtain ⟨zs, rfl, p2, m2⟩ := h2
  have : ys = zs := pw_uniq (fun x => sLt_irr (fl x)) (fun x y => sLt_asy (fl x) (fl y)) p1 p2 fun b => by rw [m1, m2, e]
  rw [this]
  exact List.map_congr_left fun b _ => by rw [e]
def gm (rows : List Row) : List (Body × Int) := rows.foldl (fun m p => aput m p.2 ((aget m p.2).getD 0 + p.1)) []
theorem gm_snoc {rows : List Row} {p : Row} : gm (rows ++ [p]) = aput (gm rows) p.2 ((aget (gm rows) p.2).getD 0 + p.1) := by unfold gm; rw [List.foldl_append]; rfl
theorem gm_len {rows : List Row} : (gm rows).length ≤ rows.length := by
  have key : ∀ (rows : List Row) (m : List (Body × Int)), (rows.foldl (fun m p => aput m p.2 ((aget m p.2).getD 0 + p.1)) m).length ≤ m.length + rows.length := fun rows => by
    induction rows with
    | nil => intro m; exact Nat.le_refl _
    | cons p rows ih =>
      intro m
      have h1 := ih (aput m p.2 ((aget m p.2).getD 0 + p.1))
      have h2 := aput_len (m := m) (k := p.2) (v := (aget m p.2).getD 0 + p.1)
      rw [List.foldl_cons, List.length_cons]
      omega
  have := key rows []
  simpa [gm] using this
theorem gm_ok (rows : List Row) : ((gm rows).map (·.1)).Nodup ∧ ∀ b, (aget (gm rows) b = some (wt rows b) ∧ ∃ p ∈ rows, p.2 = b) ∨ (aget (gm rows) b = none ∧ ∀ p ∈ rows, p.2 ≠ b) := by
  have key : ∀ (rows pre : List Row), (((gm pre).map (·.1)).Nodup ∧ ∀ b, (aget (gm pre) b = some (wt pre b) ∧ ∃ p ∈ pre, p.2 = b) ∨ (aget (gm pre) b = none ∧ ∀ p ∈ pre, p.2 ≠ b)) → (((gm (pre ++ rows)).map (·.1)).Nodup ∧ ∀ b, (aget (gm (pre ++ rows)) b = some (wt (pre ++ rows) b) ∧ ∃ p ∈ pre ++ rows, p.2 = b) ∨ (aget (gm (pre ++ rows)) b = none ∧ ∀ p ∈ pre ++ rows, p.2 ≠ b)) := fun rows => by
    induction rows with
    | nil => intro pre h; rw [List.append_nil]; exact h
    | cons p rows ih =>
      intro pre ⟨h1, h2⟩
      have e : pre ++ p :: rows = (pre ++ [p]) ++ rows := by simp
      rw [e]
      refine ih (pre ++ [p]) ⟨?_, fun b => ?_⟩
      · rw [gm_snoc]; exact aput_keys h1
      · rw [gm_snoc, aget_aput]
        by_cases hb : b = p.2
        · subst hb
          rw [if_pos rfl]
          refine .inl ⟨?_, p, by simp, rfl⟩
          rw [wt_snoc, if_pos rfl]
          rcases h2 p.2 with ⟨k1, _⟩ | ⟨k1, k2⟩
          · rw [k1]; rfl
          · rw [k1, wt_none k2]; rfl
        · rw [if_neg hb]
          rcases h2 b with ⟨k1, q, k2, k3⟩ | ⟨k1, k2⟩
          · refine .inl ⟨?_, q, by simp [k2], k3⟩
            rw [k1, wt_snoc, if_neg fun z => hb z.symm]
            simp
          · refine .inr ⟨k1, fun q hq => ?_⟩
            rcases List.mem_append.mp hq with hq | hq
            · exact k2 q hq
            · rw [List.mem_singleton.mp hq]; exact fun z => hb z.symm
  have := key rows [] ⟨by simp [gm], fun b => .inr ⟨rfl, by simp⟩⟩
  simpa using this
def left' (rows : List Row) : List Body := ((gm rows).filter fun p => decide (p.2 ≠ 0)).map (·.1)
theorem mem_aget {m : List (Body × Int)} (hn : (m.map (·.1)).Nodup) {p : Body × Int} (h : p ∈ m) : aget m p.1 = some p.2 := by
  induction m with
  | nil => simp at h
  | cons q m ih =>
    unfold aget
    rw [List.map_cons, List.nodup_cons] at hn
    rcases List.mem_cons.mp h with rfl | h
    · rw [List.find?_cons_of_pos (by simp)]; rfl
    · have hne : ¬ q.1 = p.1 := fun z => hn.1 (by rw [z]; exact List.mem_map.mpr ⟨p, h, rfl⟩)
      rw [List.find?_cons_of_neg (by simpa using hne)]
      exact ih hn.2 h
theorem left_mem {rows : List Row} {b : Body} : b ∈ left' rows ↔ wt rows b ≠ 0 := by
  obtain ⟨h1, h2⟩ := gm_ok rows
  unfold left'
  constructor
  · intro h
    obtain ⟨p, hp, rfl⟩ := List.mem_map.mp h
    obtain ⟨hm, hz⟩ := List.mem_filter.mp hp
    have := mem_aget h1 hm
    rcases h2 p.1 with ⟨k, _⟩ | ⟨k, _⟩
    · rw [k] at this
      rw [Option.some.inj this]
      simpa using hz
    · rw [k] at this; cases this
  · intro h
    rcases h2 b with ⟨k, _⟩ | ⟨_, k⟩
    · exact List.mem_map.mpr ⟨(b, wt rows b), List.mem_filter.mpr ⟨aget_mem k, by simpa using h⟩, rfl⟩
    · exact absurd (wt_none k) h
theorem left_rows {rows : List Row} {b : Body} (h : b ∈ left' rows) : ∃ p ∈ rows, p.2 = b := by
  rcases (gm_ok rows).2 b with ⟨_, k⟩ | ⟨_, k⟩
  · exact k
  · exact absurd (wt_none k) (left_mem.mp h)
/-- rows of a room, of bounded numbers -/
structure Rws (a r N : Nat) (rows : List Row) : Prop where
  bd : Bds a r (rows.map (·.2))
  cm : CbB a N (crn (rows.map (·.2)))
  ha : a ≤ 4000
  hN : N ≤ 7000
  hl : rows.length ≤ 10000
def P_gathered : Pr := fun ds A => ∃ (x : PyData) (a r N : Nat) (rows : List Row), ds = [x, .int r] ∧ itemsOf x = some (rows.map rw') ∧ Rws a r N rows ∧ ∀ lt, IsLot rows lt → A (.ok (lotD r lt))
def t_gathered (K : Fg) (w : World) : TS := (tSeq (tAsg (tDct0 w) (gName 2))
  (tSeq (tFor (iSeq K (tVar 0)) (gTup K 2 (gCons (gName 4) (gCons (gName 5) gNil))) (tAsg (tOp rAddI (tDM w (rDget K w) (tVar 2) (tCons (tVar 5) (tCons (tC (V.int 0)) tNil))) (tVar 4)) (gSub (tVar 2) (tVar 5) (rDset K w))))
  (tSeq (tAsg (tLc (iDct w (tVar 2)) (gName 5) (tTest (tOp rNe (tOp (rDx K w) (tVar 2) (tVar 5)) (tC (V.int 0)))) (tVar 5) [5]) (gName 3))
  (tRet (tTup (tCons (tVar 1) (tCons (tCB (rTupQ K) (tCons (tLc (iList K (tCall (spW0 K P_inOrder) [] E0 (tCons (tVar 3) tNil))) (gName 5) tYes (tTup (tCons (tOp (rDx K w) (tVar 2) (tVar 5)) (tCons (tVar 5) tNil))) [5]) tNil)) tNil)))))))
-- slots of gathered: 0 rows, 1 room, 2 weights, 3 left, 4 weight, 5 body
theorem ln_gathered : ∀ ds A, P_gathered ds A → ds.length = 2 := fun ds A h => by obtain ⟨_, _, _, _, _, rfl, _⟩ := h; rfl
theorem crn_sub {bs cs : List Body} (h : ∀ b ∈ cs, b ∈ bs) : ∀ s ∈ crn cs, s ∈ crn bs := fun s hs => by
  obtain ⟨b, hb, hs⟩ := List.mem_flatten.mp hs
  exact List.mem_flatten.mpr ⟨b, h b hb, hs⟩
theorem rd_gathered {ds A} (h : P_gathered ds A) : SW K cs W0 (t_gathered K w) (frame 6 ds) (rts0 A) := by
  obtain ⟨x, a, r, N, rows, rfl, hx, hR, h⟩ := h
  have hrl := hR.hl
  unfold t_gathered
  refine sw_seq (sw_asgF (ef_dct0 ?_))
  walk_at "s"
  refine sw_cut (fun G => ∃ ep e4 e5, G = [.d x, .d (.int r), .ow (od w ep (encM (fun b : Body => b.map frs) PyData.int (gm rows))), .un, e4, e5]) ?_ ?_
  · walk_at "s"
    refine ⟨_, hx, forP (fun pre G => ∃ ep e4 e5, G = [.d x, .d (.int r), .ow (od w ep (encM (fun b : Body => b.map frs) PyData.int (gm pre))), .un, e4, e5]) ⟨_, _, _, rfl⟩ ?_ ?_⟩
    · rintro pre p post _ e ⟨ep, e4, e5, rfl⟩
      have lpre : pre.length + 1 ≤ rows.length := by rw [e]; simp
      have gl := gm_len (rows := pre)
      walk_at "s"
      case hl =>
        unfold encM
        rw [List.length_map]
        omega
      case h =>
        walk_at "s"
        refine ⟨kg_bod p.2, ?_⟩
        rw [look_enc (ek := fun b : Body => b.map frs) kb_inj]
        have eg : (Option.map PyData.int (aget (gm pre) p.2)).getD (.int 0) = .int ((aget (gm pre) p.2).getD 0) := by cases aget (gm pre) p.2 <;> rfl
        rw [eg]
        walk_at "s"
        refine ⟨kg_bod p.2, fun ep' => ?_⟩
        have ep5 := put_enc (ek := fun b : Body => b.map frs) (ev := PyData.int) kb_inj (gm pre) p.2 ((aget (gm pre) p.2).getD 0 + p.1)
        rw [← gm_snoc] at ep5
        rw [ep5]
        walk_at "s"
        exact ⟨_, _, _, rfl⟩
    · rintro _ ⟨ep, e4, e5, rfl⟩
      exact x_nx ⟨_, _, _, rfl⟩
  rintro _ ⟨ep, e4, e5, rfl⟩
  obtain ⟨hnd, hag⟩ := gm_ok rows
  have gl := gm_len (rows := rows)
  have hlk : ∀ b : Body, lookK (encM (fun b : Body => b.map frs) PyData.int (gm rows)) (b.map frs) = (aget (gm rows) b).map PyData.int := fun b => look_enc (ek := fun b : Body => b.map frs) kb_inj (gm rows) b
  refine sw_wk (G1 := [.d x, .d (.int r), .ow (od w ep (encM (fun b : Body => b.map frs) PyData.int (gm rows))), .un, e4, .un]) (.cons (.cons (.cons (.cons (.cons (.drop .nil)))))) ?_
  refine sw_freezeO (i := 2) rfl ?_
  refine sw_seq ?_
  walk_at "s"
  have ek : (encM (fun b : Body => b.map frs) PyData.int (gm rows)).map (fun q => PyData.tuple q.1) = (gm rows).map fun p => bod p.1 := by
    unfold encM
    rw [List.map_map]
    rfl
  rw [ek]
  refine lcF (fun p => decide (p.2 ≠ 0)) (fun p => bod p.1) (by omega) (unk1 rfl) (fun p mp => ?_) ?_
  · walk_at "s"
    refine ⟨p.1.map frs, .int p.2, rfl, kg_bod p.1, by rw [hlk, mem_aget hnd mp]; rfl, ?_⟩
    walk_at "s"
    refine ⟨by simp, fun _ => ?_⟩
    walk_at "s"
    rfl
  have el : ((gm rows).filter fun p => decide (p.2 ≠ 0)).map (fun p => bod p.1) = (left' rows).map bod := by
    unfold left'
    rw [List.map_map]
    rfl
  rw [el]
  have hsub : ∀ b ∈ left' rows, b ∈ rows.map (·.2) := fun b hb => by
    obtain ⟨p, hp, rfl⟩ := left_rows hb
    exact List.mem_map.mpr ⟨p, hp, rfl⟩
  have Bl : Bds a r (left' rows) := ⟨hR.bd.hr, fun b hb => hR.bd.gd b (hsub b hb)⟩
  have Cl : CbB a N (crn (left' rows)) := hR.cm.sub (crn_sub hsub)
  obtain ⟨ys, hys⟩ := inOrd_ex Bl Cl
  have ll : (left' rows).length ≤ rows.length := by
    unfold left'
    rw [List.length_map]
    have := List.length_filter_le (fun p : Body × Int => decide (p.2 ≠ 0)) (gm rows)
    omega
  walk_at "s"
  refine ⟨a, r, N, left' rows, ys, rfl, Bl, Cl, hR.ha, hR.hN, by omega, hys, ?_⟩
  have ly : ys.length ≤ (left' rows).length := by
    have nd : ys.Nodup := hys.1.imp fun {a b} hab e => by rw [e] at hab; exact sLt_irr _ hab
    exact nd.length_le_of_subset fun f hf => (hys.2 f).mp hf
  walk_at "s"
  refine lcM (f := bod) (fun b => rw' (wt rows b, b)) (by omega) (unk1 rfl) (fun b mb => ?_) ?_
  · have hw := left_mem.mp ((hys.2 b).mp mb)
    have ha : aget (gm rows) b = some (wt rows b) := by
      rcases hag b with ⟨k, _⟩ | ⟨_, k⟩
      · exact k
      · exact absurd (wt_none k) hw
    walk_at "s"
    refine ⟨b.map frs, .int (wt rows b), rfl, kg_bod b, by rw [hlk, ha]; rfl, ?_⟩
    walk_at "s"
    rfl
  walk_at "s"
  have := h (ys.map fun b => (wt rows b, b)) ⟨ys, rfl, hys.1, fun b => (hys.2 b).trans left_mem⟩
  rw [show (ys.map fun b => rw' (wt rows b, b)) = (ys.map fun b => (wt rows b, b)).map rw' by rw [List.map_map]; rfl]
  exact this
end


end
section
open PySem PyProof.Rows L2 Evl U.Hull

section
variable {K : Fg} {cs : Cs} {gs : Gs} {φ : PyData → Prop} {A : Rs → Prop} {ε : Xw → Prop} {w : World} {W : WX}
/-- what comes of a lot that is bounded -/
def BndA (r : Nat) (A : Rs → Prop) (lt : List Row) : Prop := (2000 < lt.length → A (.er (xw "TooMany"))) ∧ (lt.length ≤ 2000 → lt.all smRow = true → A (.ok (lotD r lt))) ∧ (lt.length ≤ 2000 → lt.all smRow = false → A (.er (xw "TooGreat")))
def P_settled : Pr := fun ds A => ∃ (x : PyData) (a r N : Nat) (rows : List Row), ds = [x, .int r] ∧ itemsOf x = some (rows.map rw') ∧ Rws a r N rows ∧ ∀ lt, IsLot rows lt → BndA r A lt
def t_settled_lot (K : Fg) (cs : Cs) (W : WX) : TS := (tRet (tCallSD (spW K cs P_bounded) [] (WE W) (tCons (tCall (spW0 K P_gathered) [] E0 (tCons (tVar 0) (tCons (tVar 1) tNil))) tNil)))
-- slots of settled_lot: 0 rows, 1 room
theorem ln_settled_lot : ∀ ds A, P_settled ds A → ds.length = 2 := fun ds A h => by obtain ⟨_, _, _, _, _, rfl, _⟩ := h; rfl
theorem lot_mem {rows lt : List Row} (h : IsLot rows lt) {p : Row} (hp : p ∈ lt) : ∃ q ∈ rows, q.2 = p.2 := by
  obtain ⟨ys, rfl, _, m⟩ := h
  obtain ⟨b, hb, rfl⟩ := List.mem_map.mp hp
  exact left_rows (left_mem.mpr ((m b).mp hb))
theorem lot_len {rows lt : List Row} (h : IsLot rows lt) : lt.length ≤ rows.length := by
  obtain ⟨ys, rfl, pw, m⟩ := h
  rw [List.length_map]
  have nd : ys.Nodup := pw.imp fun {a b} hab e => by rw [e] at hab; exact sLt_irr _ hab
  have h1 := nd.length_le_of_subset (l₂ := rows.map (·.2)) fun b hb => by
    obtain ⟨q, hq, rfl⟩ := left_rows (left_mem.mpr ((m b).mp hb))
    exact List.mem_map.mpr ⟨q, hq, rfl⟩
  rw [List.length_map] at h1
  exact h1
theorem rd_settled_lot {ds A} (h : P_settled ds A) (W : WX) : SW K cs W (t_settled_lot K cs W) (frame 2 ds) (rts A) := by
  obtain ⟨x, a, r, N, rows, rfl, hx, hR, h⟩ := h
  unfold t_settled_lot
  walk_at "s"
  refine ⟨x, a, r, N, rows, rfl, hx, hR, fun lt hlt => ?_⟩
  walk_at "s"
  have hll := lot_len hlt
  have hRl := hR.hl
  obtain ⟨k1, k2, k3⟩ := h lt hlt
  refine ⟨r, lt, rfl, by omega, fun p hp => ?_, k1, k2, k3⟩
  obtain ⟨q, hq, e⟩ := lot_mem hlt hp
  have hb := hR.bd.gd p.2 (by rw [← e]; exact List.mem_map.mpr ⟨q, hq, rfl⟩)
  exact ⟨hb.2.2, fun s hs => by have := (hb.1 s hs).2; have := hR.bd.hr; omega⟩
/-! ### lots of rows of spots -/
open Classical in
noncomputable def bdy (ss : List Spot) : Body := if h : ∃ row, Rising ss row then bodyS h.choose else []
theorem bdy_eq {ss row : List Spot} (h : Rising ss row) : bdy ss = bodyS row := by
  unfold bdy
  have he : ∃ row, Rising ss row := ⟨row, h⟩
  rw [dif_pos he, rising_uniq he.choose_spec h]
theorem c_bdy {a r : Nat} {ss : List Spot} {x : PyData} (h : SpR a r ss) (hx : itemsOf x = some (ss.map frs)) (k : φ (bod (bdy ss))) : P_corners [x] (rE φ ε) := c_corners h hx fun row hrow => by rw [← bdy_eq hrow]; exact k
theorem bdy_sps {a r : Nat} {ss : List Spot} (h : SpR a r ss) : Sps a r (bdy ss) ∧ 1 ≤ (bdy ss).length ∧ (bdy ss).length ≤ ss.length ∧ (r = 1 → (bdy ss).length ≤ 2) ∧ ∀ s ∈ bdy ss, s ∈ ss := by
  obtain ⟨row, hrow⟩ := rising_ex h
  rw [bdy_eq hrow]
  obtain ⟨h1, h2, h3, h4⟩ := sps_body h hrow
  exact ⟨h1, h2, h3, h4, fun s hs => (hrow.2 s).mp ((body_ok (h.row hrow)).sub s hs)⟩
/-- a row: its weight, its spots, told as a list or a tuple -/
structure RowS where
  w : Int
  t : Bool
  ss : List Spot
def encS (p : RowS) : PyData := .tuple [.int p.w, if p.t then .tuple (p.ss.map frs) else .list (p.ss.map frs)]
theorem encS_it (p : RowS) : itemsOf (if p.t then .tuple (p.ss.map frs) else .list (p.ss.map frs)) = some (p.ss.map frs) := by cases p.t <;> rfl
noncomputable def rowsB (rs : List RowS) : List Row := rs.map fun p => (p.w, bdy p.ss)
structure RwS (a r N : Nat) (rs : List RowS) : Prop where
  hr : r = 1 ∨ r = 2
  gd : ∀ p ∈ rs, Sps a r p.ss ∧ 1 ≤ p.ss.length ∧ p.ss.length ≤ 1000
  cm : CbB a N (rs.flatMap (·.ss))
  ha : a ≤ 900
  hN : N ≤ 6900
  hl : rs.length ≤ 10000
theorem RwS.sp {a r N : Nat} {rs : List RowS} (h : RwS a r N rs) {p : RowS} (hp : p ∈ rs) : SpR a r p.ss := ⟨h.hr, (h.gd p hp).1, fun e => by have := (h.gd p hp).2.1; rw [e] at this; simp at this, h.ha, by have := (h.gd p hp).2.2; omega, N, h.hN, h.cm.sub fun s hs => List.mem_flatMap.mpr ⟨p, hp, hs⟩⟩
theorem RwS.rws {a r N : Nat} {rs : List RowS} (h : RwS a r N rs) : Rws a r N (rowsB rs) where
  bd := ⟨h.hr, fun b hb => by
    obtain ⟨q, hq, rfl⟩ := List.mem_map.mp hb
    obtain ⟨p, hp, rfl⟩ := List.mem_map.mp hq
    obtain ⟨k1, k2, k3, _⟩ := bdy_sps (h.sp hp)
    exact ⟨k1, k2, by have := (h.gd p hp).2.2; show (bdy p.ss).length ≤ 1000; omega⟩⟩
  cm := h.cm.sub fun s hs => by
    obtain ⟨b, hb, hs⟩ := List.mem_flatten.mp hs
    obtain ⟨q, hq, rfl⟩ := List.mem_map.mp hb
    obtain ⟨p, hp, rfl⟩ := List.mem_map.mp hq
    exact List.mem_flatMap.mpr ⟨p, hp, (bdy_sps (h.sp hp)).2.2.2.2 s hs⟩
  ha := by have := h.ha; omega
  hN := by have := h.hN; omega
  hl := by unfold rowsB; rw [List.length_map]; exact h.hl
def P_lotOf : Pr := fun ds A => ∃ (x : PyData) (a r N : Nat) (rs : List RowS), ds = [x, .int r] ∧ itemsOf x = some (rs.map encS) ∧ RwS a r N rs ∧ ∀ lt, IsLot (rowsB rs) lt → BndA r A lt
def t_lot_of (K : Fg) (cs : Cs) (W : WX) : TS := (tSeq (tIfS (tOr (tNot (tB (tCall (spP K P_isWhole) [] E0 (tCons (tVar 1) tNil)))) (tTest (tOp (rIn K true) (tVar 1) (tTup (tCons (tC (V.int 1)) (tCons (tC (V.int 2)) tNil)))))) (tRaiseX (cs "OtherRoom") (spIn K ["word"] (gCw "OtherRoom")) [] tNil W) tNext)
  (tSeq (tIfS (tNot (tB (tCB (rIsiT K) (tCons (tVar 0) (tCons (tTup (tCons (tC (V.ty "list")) (tCons (tC (V.ty "tuple")) tNil))) tNil))))) (tRaiseX (cs "BadLot") (spIn K ["word"] (gCw "BadLot")) [] tNil W) tNext)
  (tSeq (tAsg (tLst tNil) (gName 2))
  (tSeq (tFor (iSeq K (tVar 0)) (gName 3) (tSeq (tIfS (tOr (tNot (tB (tCB (rIsi K) (tCons (tVar 3) (tCons (tC (V.ty "tuple")) tNil))))) (tOr (tTest (tOp rNe (tCB (rLenQ K) (tCons (tVar 3) tNil)) (tC (V.int 2)))) (tNot (tB (tCall (spP K P_isWhole) [] E0 (tCons (tOp (rIx K) (tVar 3) (tC (V.int 0))) tNil)))))) (tRaiseX (cs "BadLot") (spIn K ["word"] (gCw "BadLot")) [] tNil W) tNext)
  (tSeq (tAsg (tCallSD (spW K cs P_bodyOf) [] (WE W) (tCons (tOp (rIx K) (tVar 3) (tC (V.int 1))) tNil)) (gName 4))
  (tSeq (tIfS (tTest (tOp rNe (tCB (rLenQ K) (tCons (tOp (rIx K) (tVar 4) (tC (V.int 0))) tNil)) (tVar 1))) (tRaiseX (cs "BadSpot") (spIn K ["word"] (gCw "BadSpot")) [] tNil W) tNext)
  (tDrop (tBM K "list" rAppend (tVar 2) (tCons (tTup (tCons (tOp (rIx K) (tVar 3) (tC (V.int 0))) (tCons (tVar 4) tNil))) tNil)))))))
  (tRet (tCallSD (spW K cs P_settled) [] (WE W) (tCons (tVar 2) (tCons (tVar 1) tNil))))))))
-- slots of lot_of: 0 rows, 1 room, 2 found, 3 row, 4 body
theorem ln_lot_of : ∀ ds A, P_lotOf ds A → ds.length = 2 := fun ds A h => by obtain ⟨_, _, _, _, _, rfl, _⟩ := h; rfl
theorem c_isWhole {x : PyData} (h : φ (.bool (isWhole x))) : ∃ r, P_isWhole [x] r ∧ φ r := ⟨_, ⟨x, rfl, rfl⟩, h⟩
theorem rd_lot_of {ds A} (cf1 : ClsF K cs "OtherRoom" ["word"]) (cf2 : ClsF K cs "BadLot" ["word"]) (cf3 : ClsF K cs "BadSpot" ["word"]) (h : P_lotOf ds A) (W : WX) : SW K cs W (t_lot_of K cs W) (frame 5 ds) (rts A) := by
  obtain ⟨x, a, r, N, rs, rfl, hx, hR, h⟩ := h
  have hrl := hR.hl
  unfold t_lot_of
  refine sw_seq ?_
  walk_at "s"
  refine c_isWhole ?_
  walk_at "s"
  refine cnd_F rfl ?_
  walk_at "s"
  refine ⟨[1, 2], rfl, ?_⟩
  have e12 : ([1, 2] : List Int).contains (r : Int) = true := by rcases hR.hr with rfl | rfl <;> rfl
  rw [if_pos rfl, e12]
  walk_at "s"
  refine sw_seq ?_
  walk_at "s"
  refine ⟨_, _, kit_lst x, kit_tup x, ?_⟩
  rw [items_lt, hx]
  walk_at "s"
  refine cnd_F rfl ?_
  walk_at "s"
  refine sw_seq (sw_asgF (ef_lst0 ?_))
  walk_at "s"
  refine sw_cut (fun G => ∃ e3 e4, G = [.d x, .d (.int r), .ow (ol ((rowsB rs).map rw')), e3, e4]) ?_ ?_
  · walk_at "s"
    refine ⟨_, hx, forP (fun pre G => ∃ e3 e4, G = [.d x, .d (.int r), .ow (ol ((rowsB pre).map rw')), e3, e4]) ⟨_, _, rfl⟩ ?_ ?_⟩
    · rintro pre p post _ e ⟨e3, e4, rfl⟩
      have mp : p ∈ rs := by rw [e]; simp
      have lp : pre.length + 1 ≤ rs.length := by rw [e]; simp
      obtain ⟨k1, k2, k3, k4, k5⟩ := bdy_sps (hR.sp mp)
      have gp := hR.gd p mp
      unfold encS
      walk_at "s"
      refine sw_seq ?_
      walk_at "s"
      refine ⟨_, kit_tup _, ?_⟩
      walk_at "s"
      refine cnd_F rfl ?_
      walk_at "s"
      refine cnd_F rfl ?_
      walk_at "s"
      refine c_isWhole ?_
      walk_at "s"
      refine cnd_F rfl ?_
      walk_at "s"
      refine sw_seq ?_
      walk_at "s"
      refine ⟨_, rfl, fun xs hxs => ?_, .inr ⟨a, r, p.ss, encS_it p, hR.sp mp, fun row hrow => ?_⟩⟩
      · rw [encS_it p] at hxs
        rw [← Option.some.inj hxs, List.length_map]
        omega
      rw [← bdy_eq hrow]
      obtain ⟨s0, b', eb⟩ := List.exists_cons_of_ne_nil (List.length_pos_iff.mp k2)
      have l0 := (k1 s0 (by rw [eb]; simp)).2
      walk_at "s"
      refine sw_seq ?_
      walk_at "s"
      refine ⟨_, atI_nat (j := 0) (by rw [eb]; rfl), ?_⟩
      walk_at "s"
      rw [List.length_map, l0]
      refine cnd_F (by simp) ?_
      walk_at "s"
      refine sw_app (xs := (rowsB pre).map rw') rfl (by unfold rowsB; rw [List.length_map, List.length_map]; omega) ?_
      walk_at "s"
      have es : (rowsB (pre ++ [p])).map rw' = (rowsB pre).map rw' ++ [rw' (p.w, bdy p.ss)] := by unfold rowsB; rw [List.map_append, List.map_append]; rfl
      rw [es]
      exact ⟨_, _, rfl⟩
    · rintro _ ⟨e3, e4, rfl⟩
      exact x_nx ⟨_, _, rfl⟩
  rintro _ ⟨e3, e4, rfl⟩
  refine sw_freeze (i := 2) rfl ?_
  walk_at "s"
  refine ⟨_, a, r, N, rowsB rs, rfl, rfl, hR.rws, fun lt hlt => ?_⟩
  obtain ⟨q1, q2, q3⟩ := h lt hlt
  exact ⟨q1, q2, q3⟩
end


end
section
open PySem PyProof.Rows L2 Evl U.Hull

section
variable {K : Fg} {cs : Cs} {gs : Gs} {φ : PyData → Prop} {A : Rs → Prop} {ε : Xw → Prop} {w : World} {W : WX}
/-! ### the law's own lot -/
-- slots of _law_lot: 0 _law_rows_here, 1 _law_rank, 2 _law_bodies, 3 _law_weights, 4 _law_corners, 5 _law_body_here, 6 _law_below_here, 7 _law_keys, 8 _law_ranked, 9 _law_weight, 10 _law_spots_here, 11 _law_at, 12 _law_key_here
theorem ixN_nat {n j : Nat} (h : j < n) : ixN n (j : Int) = some j := by
  unfold ixN
  rw [if_pos (by omega), if_pos (by omega), Int.toNat_natCast]
end


end
section
open PySem PyProof.Rows L2 Evl U.Hull

section
variable {K : Fg} {cs : Cs} {gs : Gs} {φ : PyData → Prop} {A : Rs → Prop} {ε : Xw → Prop} {w : World} {W : WX}
/-! ### drawn rows -/
-- slots of _law_rows: 0 _law_bag_here, 1 _law_rank, 2 _law_limit, 3 _law_corners, 4 _law_found, 5 _law_at, 6 _law_weight, 7 _law_row
end


end
section
open PySem PyProof.Rows L2 Evl U.Hull

section
variable {K : Fg} {cs : Cs} {gs : Gs} {φ : PyData → Prop} {A : Rs → Prop} {ε : Xw → Prop} {w : World} {W : WX}
/-! ### lots in plain -/
theorem wt_cons {rows : List Row} {p : Row} {b : Body} : wt (p :: rows) b = (if p.2 = b then p.1 else 0) + wt rows b := by
  unfold wt
  by_cases h : p.2 = b <;> simp [h]
/-! ### two lots -/
-- slots of same_room: 0 one, 1 other
-- slots of added: 0 one, 1 other
def P_scaled : Pr := fun ds A => ∃ (a r N : Nat) (n : Int) (l : List Row), ds = [lotD r l, .int n] ∧ Rws a r N l ∧ (∀ p ∈ l, Bd 100 p.1) ∧ Bd 100 n ∧ ∀ lt, IsLot (l.map fun p => (p.1 * n, p.2)) lt → BndA r A lt
def t_scaled (K : Fg) (cs : Cs) (W : WX) : TS := (tRet (tCallSD (spW K cs P_settled) [] (WE W) (tCons (tLc (iTup K (tOp (rIx K) (tVar 0) (tC (V.int 1)))) (gTup K 2 (gCons (gName 2) (gCons (gName 3) gNil))) tYes (tTup (tCons (tOp rMulI (tVar 2) (tVar 1)) (tCons (tVar 3) tNil))) [2, 3]) (tCons (tOp (rIx K) (tVar 0) (tC (V.int 0))) tNil))))
-- slots of scaled: 0 lot, 1 number, 2 weight, 3 body
theorem ln_scaled : ∀ ds A, P_scaled ds A → ds.length = 2 := fun ds A h => by obtain ⟨_, _, _, _, _, rfl, _⟩ := h; rfl
theorem rd_scaled {ds A} (h : P_scaled ds A) (W : WX) : SW K cs W (t_scaled K cs W) (frame 4 ds) (rts A) := by
  obtain ⟨a, r, N, n, l, rfl, hR, hw, hn, h⟩ := h
  unfold t_scaled lotD
  walk_at "wi"
  have hl := hR.hl
  refine lcM (f := rw') (fun p => rw' (p.1 * n, p.2)) (by omega) (unk2 rfl rfl) (fun p mp => ?_) ?_
  · walk_at "s"
    refine ⟨(hw p mp).cm hn (by decide), ?_⟩
    walk_at "s"
    rfl
  walk_at "wi"
  refine ⟨_, a, r, N, l.map fun p => (p.1 * n, p.2), rfl, by rw [List.map_map]; rfl, ⟨?_, ?_, hR.ha, hR.hN, by rw [List.length_map]; exact hl⟩, fun lt hlt => ?_⟩
  · rw [List.map_map]; exact hR.bd
  · rw [List.map_map]; exact hR.cm
  obtain ⟨q1, q2, q3⟩ := h lt hlt
  exact ⟨q1, q2, q3⟩
-- slots of told23: 0 _law_one, 1 _law_other, 2 why
/-! ### drawn lots -/
theorem okD_i (n : Nat) (i : Int) : okD n (.int i) = true := by cases n <;> rfl
end


end
section
open PySem PyProof.Rows L2 Evl U.Hull

section
variable {K : Fg} {cs : Cs} {gs : Gs} {φ : PyData → Prop} {A : Rs → Prop} {ε : Xw → Prop} {w : World} {W : WX}
/-! ### what a lot sums to -/
-- slots of tally: 0 lot, 1 weight, 2 body
-- slots of land: 0 lot, 1 found, 2 weight, 3 body
-- slots of _law_size: 0 _law_spots_here, 1 _law_body_here, 2 _law_total, 3 _law_at
end


end
section
open PySem PyProof.Rows L2 Evl

section
variable {K : Fg} {cs : Cs} {gs : Gs} {φ : PyData → Prop} {A : Rs → Prop} {ε : Xw → Prop}
/-! ### maps that lead -/
def P_roomFrom : Pr := fun ds A => ∃ (r : List Fr) (m : List (List Fr)), ds = [mp (r :: m)] ∧ A (.ok (.int ((r.length : Int) - 1)))
def t_room_from (K : Fg) : TS := (tRet (tOp rSubI (tCB (rLenQ K) (tCons (tOp (rIx K) (tVar 0) (tC (V.int 0))) tNil)) (tC (V.int 1))))
-- slots of room_from: 0 way
theorem ln_room_from : ∀ ds A, P_roomFrom ds A → ds.length = 1 := fun ds A h => by obtain ⟨_, _, rfl, _⟩ := h; rfl
theorem rd_room_from {ds A} (h : P_roomFrom ds A) : SW K cs W0 (t_room_from K) (frame 1 ds) (rts0 A) := by
  obtain ⟨r, m, rfl, h⟩ := h
  unfold t_room_from
  walk_at "w"
  show A _
  rw [List.length_map]
  exact h
/-- last + steps * ps -/
def sumF : Fr → List Fr → List Fr → Fr
  | acc, s :: ss, p :: ps => sumF (addF acc (mulF s p)) ss ps
  | acc, _, _ => acc
theorem sumF_gd {a b : Nat} : ∀ {ss ps : List Fr} {n : Nat} {acc : Fr}, Gds a ss → Gds b ps → Gd n acc → Gd (n + ss.length * (a + b + 1)) (sumF acc ss ps)
  | [], _, n, acc, _, _, h => by simpa [sumF] using h
  | s :: ss, [], n, acc, _, _, h => by
    show Gd _ acc
    exact h.mono (Nat.le_add_right _ _)
  | s :: ss, p :: ps, n, acc, hs, hp, h => by
    have h1 := h.add ((hs s (List.mem_cons_self ..)).mul (hp p (List.mem_cons_self ..)))
    have h2 := sumF_gd (ss := ss) (ps := ps) (fun x hx => hs x (List.mem_cons_of_mem _ hx)) (fun x hx => hp x (List.mem_cons_of_mem _ hx)) h1
    refine h2.mono ?_
    rw [List.length_cons, Nat.succ_mul]
    omega
def foldS (acc : Fr) (ps : List (Fr × Fr)) : Fr := ps.foldl (fun t p => addF t (mulF p.1 p.2)) acc
theorem foldS_sum : ∀ (ss ps : List Fr) (acc : Fr), foldS acc (ss.zip ps) = sumF acc ss ps
  | [], _, _ => by simp [foldS, sumF]
  | s :: ss, [], _ => by simp [foldS, sumF]
  | s :: ss, p :: ps, acc => foldS_sum ss ps _
theorem foldS_gd {a b : Nat} : ∀ {ps : List (Fr × Fr)} {n : Nat} {acc : Fr}, (∀ p ∈ ps, Gd a p.1 ∧ Gd b p.2) → Gd n acc → Gd (n + ps.length * (a + b + 1)) (foldS acc ps)
  | [], n, acc, _, h => by simpa [foldS] using h
  | p :: ps, n, acc, hp, h => by
    have h0 := hp p (List.mem_cons_self ..)
    have h1 := h.add (h0.1.mul h0.2)
    have h2 := foldS_gd (ps := ps) (fun x hx => hp x (List.mem_cons_of_mem _ hx)) h1
    refine h2.mono ?_
    rw [List.length_cons, Nat.succ_mul]
    omega
theorem foldS_snoc {acc : Fr} {ps : List (Fr × Fr)} {p : Fr × Fr} : foldS acc (ps ++ [p]) = addF (foldS acc ps) (mulF p.1 p.2) := by simp [foldS]
theorem gw_starF {G : Gam} {γ : Gam → Prop} {i j : Nat} {ss : List Fr} {x : Fr} (hij : i ≠ j) (hi : i < G.length) (hl : ss.length ≤ 10000) (h : γ ((G.set i (.d (.list (ss.map fr)))).set j (.d (fr x)))) : GW K (gStar K (gCons (gName i) (gCons (gName j) gNil))) G (frs (ss ++ [x])) γ := by
  have e : frs (ss ++ [x]) = .tuple (ss.map fr ++ [fr x]) := by unfold frs; rw [List.map_append]; rfl
  rw [e]
  exact gw_starD hij hi (by rw [List.length_map]; exact hl) h
def P_summed : Pr := fun ds A => ∃ (a b : Nat) (ss ps : List Fr) (last : Fr), ds = [frs (ss ++ [last]), frs ps] ∧ ss.length = ps.length ∧ ss.length ≤ 100 ∧ Gds a ss ∧ Gds b ps ∧ Gd a last ∧ a + ss.length * (a + b + 1) ≤ 3900 ∧ A (.ok (fr (sumF last ss ps)))
def t_summed (K : Fg) : TS := (tSeq (tAsg (tVar 0) (gStar K (gCons (gName 5) (gCons (gName 2) gNil))))
  (tSeq (tFor (iZipM K true (tCons (tVar 5) (tCons (tVar 1) tNil))) (gTup K 2 (gCons (gName 3) (gCons (gName 4) gNil))) (tAsg (tCall (spP K P_plus) [] E0 (tCons (tVar 2) (tCons (tCall (spP K P_times) [] E0 (tCons (tVar 3) (tCons (tVar 4) tNil))) tNil))) (gName 2)))
  (tRet (tVar 2))))
-- slots of summed: 0 row, 1 spot, 2 last, 3 step, 4 one, 5 steps
theorem ln_summed : ∀ ds A, P_summed ds A → ds.length = 2 := fun ds A h => by obtain ⟨_, _, _, _, _, rfl, _⟩ := h; rfl
theorem rd_summed {ds A} (h : P_summed ds A) : SW K cs W0 (t_summed K) (frame 6 ds) (rts0 A) := by
  obtain ⟨a, b, ss, ps, last, rfl, hl, hn, ha, hb, hlast, hbd, h⟩ := h
  have mm : ∀ p ∈ ss.zip ps, Gd a p.1 ∧ Gd b p.2 := fun p hp => ⟨ha _ (List.of_mem_zip hp).1, hb _ (List.of_mem_zip hp).2⟩
  unfold t_summed
  refine sw_seq (sw_asgT ?_)
  refine ew_var rfl ?_
  refine gw_starF (by decide) (by simp [frame]) (by omega) ?_
  walk_at "w"
  rw [zipD_map]
  refine forP (fun pre G => ∃ e1 e2, G = [.d (frs (ss ++ [last])), .d (frs ps), .d (fr (foldS last pre)), e1, e2, .d (.list (ss.map fr))]) ⟨.un, .un, by simp [frame, foldS]⟩ ?_ ?_
  · rintro pre x post _ e ⟨e1, e2, rfl⟩
    have hx := mm x (by rw [e]; simp)
    have hg := foldS_gd (ps := pre) (acc := last) (fun p hp => mm p (by rw [e]; simp [hp])) hlast
    have hpl : pre.length * (a + b + 1) ≤ ss.length * (a + b + 1) := Nat.mul_le_mul_right _ (by
      have := congrArg List.length e
      simp at this
      omega)
    obtain ⟨h1, h2⟩ := hx
    have hz : 1 * (a + b + 1) ≤ ss.length * (a + b + 1) := Nat.mul_le_mul_right _ (by
      have := congrArg List.length e
      simp at this
      omega)
    walk_at "w"
    exact ⟨_, _, by rw [foldS_snoc]; rfl⟩
  · rintro _ ⟨e1, e2, rfl⟩
    walk_at "w"
    rw [foldS_sum]
    exact h
theorem c_summed {a b : Nat} {ss ps : List Fr} {last : Fr} (hl : ss.length = ps.length) (hn : ss.length ≤ 100) (ha : Gds a ss) (hb : Gds b ps) (hla : Gd a last) (hbd : a + ss.length * (a + b + 1) ≤ 3900) (h : Gd (a + ss.length * (a + b + 1)) (sumF last ss ps) → A (.ok (fr (sumF last ss ps)))) : P_summed [frs (ss ++ [last]), frs ps] A :=
  ⟨a, b, ss, ps, last, rfl, hl, hn, ha, hb, hla, hbd, h (sumF_gd ha hb hla)⟩
def rowF (r ps : List Fr) : Fr := sumF (r.getLastD (0, 1)) r.dropLast ps
def ledF (m : List (List Fr)) (ps : List Fr) : List Fr := m.map fun r => rowF r ps
theorem row_split {r : List Fr} {n : Nat} (h : r.length = n + 1) : ∃ ss x, r = ss ++ [x] ∧ ss.length = n := by
  have hne : r ≠ [] := by intro e; rw [e] at h; simp at h
  exact ⟨r.dropLast, r.getLast hne, (List.dropLast_concat_getLast hne).symm, by simp [h]⟩
theorem rowF_app {ss ps : List Fr} {x : Fr} : rowF (ss ++ [x]) ps = sumF x ss ps := by
  unfold rowF
  rw [List.dropLast_concat]
  simp
abbrev xOther : Xw := xWd "OtherRoom"
/-- bounds of a map's rows and a spot -/
def Fits (a b st : Nat) : Prop := a + st * (a + b + 1) ≤ 3900 ∧ st ≤ 100
def P_led : Pr := fun ds A => ∃ (a b n st : Nat) (m : List (List Fr)) (ps : List Fr), ds = [mp m, frs ps] ∧ Mp a n st m ∧ 1 ≤ n ∧ n ≤ 100 ∧ Fits a b st ∧ Gds b ps ∧ ps.length ≤ 100 ∧ A (if ps.length = st then .ok (frs (ledF m ps)) else .er xOther)
def t_led (K : Fg) (cs : Cs) (W : WX) : TS := (tSeq (tIfS (tTest (tOp rNe (tCB (rLenQ K) (tCons (tVar 1) tNil)) (tCall (spW0 K P_roomFrom) [] E0 (tCons (tVar 0) tNil)))) (tRaiseX (cs "OtherRoom") (spIn K ["word"] (gCw "OtherRoom")) [] tNil W) tNext)
  (tRet (tCB (rTupQ K) (tCons (tLc (iTup K (tVar 0)) (gName 2) tYes (tCall (spW0 K P_summed) [] E0 (tCons (tVar 2) (tCons (tVar 1) tNil))) [2]) tNil))))
-- slots of led: 0 way, 1 spot, 2 row
theorem ln_led : ∀ ds A, P_led ds A → ds.length = 2 := fun ds A h => by obtain ⟨_, _, _, _, _, _, rfl, _⟩ := h; rfl
theorem rd_led {ds A} (cf : ClsF K cs "OtherRoom" ["word"]) (h : P_led ds A) (W : WX) : SW K cs W (t_led K cs W) (frame 3 ds) (rts A) := by
  obtain ⟨a, b, n, st, m, ps, rfl, M, hn1, hn2, hf, hb, hp, h⟩ := h
  obtain ⟨r, m', rfl⟩ : ∃ r m', m = r :: m' := by
    cases m with
    | nil => have := M.len; simp at this; omega
    | cons r m' => exact ⟨r, m', rfl⟩
  have hr := (M.row r (List.mem_cons_self ..)).1
  unfold t_led
  walk_at "wi"
  refine ⟨r, m', rfl, ?_⟩
  walk_at "w"
  refine cnd_nd (fun hne => ?_) (fun he => ?_)
  · rw [if_neg (by simp at hne; omega)] at h
    refine sw_raise0 cf rfl ?_
    walk_at "w"
    exact h
  · rw [if_pos (by simp at he; omega)] at h
    walk_at "w"
    refine lcM (fun r => fr (rowF r ps)) (by have := M.len; omega) (unk1 rfl) (fun x hx => ?_) ?_
    · obtain ⟨hx1, hx2⟩ := M.row x hx
      obtain ⟨ss, y, rfl, hl⟩ := row_split hx1
      walk_at "w"
      refine c_summed (a := a) (b := b) (by simp at he; omega) (by have := hf.2; omega) (fun p hp => hx2 p (by simp [hp])) hb (hx2 y (by simp)) (by rw [hl]; exact hf.1) fun _ => ?_
      rw [rowF_app]
      rfl
    · walk_at "w"
      show A _
      unfold ledF at h
      rw [frs, List.map_map] at h
      exact h
theorem c_led {a b n st : Nat} {m : List (List Fr)} {ps : List Fr} (M : Mp a n st m) (hn1 : 1 ≤ n) (hn2 : n ≤ 100) (hf : Fits a b st) (hb : Gds b ps) (hp : ps.length ≤ 100) (h : A (if ps.length = st then .ok (frs (ledF m ps)) else .er xOther)) : P_led [mp m, frs ps] A :=
  ⟨a, b, n, st, m, ps, rfl, M, hn1, hn2, hf, hb, hp, h⟩
/-! ### the law's own -/
-- slots of _law_led: 0 _law_kind, 1 _law_spot_here, 2 _law_found, 3 _law_row, 4 _law_total, 5 _law_at
-- slots of told16: 0 _law_map_rows, 1 _law_spot_here, 2 why
end


end
section
open PySem PyProof.Rows L2 Evl U.Hull

section
variable {K : Fg} {cs : Cs} {gs : Gs} {φ : PyData → Prop} {A : Rs → Prop} {ε : Xw → Prop} {w : World} {W : WX}
/-- a call that may raise and doesn't -/
theorem ew_cW0 {P : Pr} {ta : TA} {G : Gam} (h : AW K cs W ta G (fun ds => P ds (rE φ noX)) ε) : EW K cs W (tCallSD (spW K cs P) [] (WE W0) ta) G φ ε := fun Wd B ad H0 H σ S Q q x =>
  h Wd B ad H0 H σ S _ (fun ds hp vs H1 S1 e1 d1 => ⟨Zs Wd B ad G, ds, _, S1.there, by rw [List.append_nil]; exact d1, hp, ⟨fun y p v H' e d => q y p v H' (S1.ext e) (e1.trans (.of e)) d, fun c p a us H' e hn ho d => by
    obtain ⟨xs, rfl, p⟩ := p
    have S2 := S1.ext e
    refine q _ p _ H' S2 (e1.trans (.of e)) (.lst (sq_of (less_of (S1.fresh hn).2.2 ho)) (dpa_mono (less_sub fun b z => .inl z) d))⟩, fun e p => p.elim⟩) x
/-! ### bodies carried -/
/-- a body carried -/
noncomputable def cry (m : List (List Fr)) (p : Row) : Row := (p.1, bdy (p.2.map (ledF m)))
def P_carried : Pr := fun ds A => ∃ (a b c N n st r : Nat) (m : List (List Fr)) (l : List Row), ds = [lotD r l, mp m] ∧ Mp a n st m ∧ (n = 1 ∨ n = 2) ∧ (st = 1 ∨ st = 2) ∧ l.length ≤ 10000 ∧ (st ≠ r → A (.er (xw "OtherRoom"))) ∧ (st = r → Fits a b st ∧ (∀ p ∈ l, Sps b r p.2 ∧ p.2.length ≤ 1000 ∧ SpR c n (p.2.map (ledF m))) ∧ Rws c n N (l.map (cry m)) ∧ ∀ lt, IsLot (l.map (cry m)) lt → BndA n A lt)
def t_carried (K : Fg) (cs : Cs) (W : WX) : TS := (tSeq (tIfS (tTest (tOp rNe (tCall (spW0 K P_roomFrom) [] E0 (tCons (tVar 1) tNil)) (tOp (rIx K) (tVar 0) (tC (V.int 0))))) (tRaiseX (cs "OtherRoom") (spIn K ["word"] (gCw "OtherRoom")) [] tNil W) tNext)
  (tSeq (tAsg (tLc (iTup K (tOp (rIx K) (tVar 0) (tC (V.int 1)))) (gTup K 2 (gCons (gName 3) (gCons (gName 4) gNil))) tYes (tTup (tCons (tVar 3) (tCons (tCall (spW0 K P_corners) [] E0 (tCons (tLc (iTup K (tVar 4)) (gName 5) tYes (tCallSD (spW K cs P_led) [] (WE W0) (tCons (tVar 1) (tCons (tVar 5) tNil))) [5]) tNil)) tNil))) [3, 4]) (gName 2))
  (tRet (tCallSD (spW K cs P_settled) [] (WE W) (tCons (tVar 2) (tCons (tCB (rLenQ K) (tCons (tVar 1) tNil)) tNil))))))
-- slots of carried: 0 lot, 1 way, 2 rows, 3 weight, 4 body, 5 corner
theorem ln_carried : ∀ ds A, P_carried ds A → ds.length = 2 := fun ds A h => by obtain ⟨_, _, _, _, _, _, _, _, _, rfl, _⟩ := h; rfl
theorem rd_carried {ds A} (cf : ClsF K cs "OtherRoom" ["word"]) (h : P_carried ds A) (W : WX) : SW K cs W (t_carried K cs W) (frame 6 ds) (rts A) := by
  obtain ⟨a, b, c, N, n, st, r, m, l, rfl, M, hn, hst, hl, h1, h2⟩ := h
  obtain ⟨r0, m', em⟩ : ∃ r0 m', m = r0 :: m' := by
    cases m with
    | nil => have := M.len; simp at this; omega
    | cons r0 m' => exact ⟨r0, m', rfl⟩
  have l0 := (M.row r0 (by rw [em]; simp)).1
  unfold t_carried
  refine sw_seq ?_
  walk_at "s"
  refine ⟨r0, m', by rw [em], ?_⟩
  walk_at "s"
  by_cases e : st = r
  · refine cnd_F (by simp; omega) ?_
    obtain ⟨hf, hb, hR, h⟩ := h2 e
    walk_at "s"
    refine sw_seq ?_
    walk_at "s"
    refine lcM (f := rw') (fun p => rw' (cry m p)) (by omega) (unk2 rfl rfl) (fun p mp => ?_) ?_
    · obtain ⟨q1, q2, q3⟩ := hb p mp
      walk_at "s"
      refine lcM (f := frs) (fun s => frs (ledF m s)) (by omega) (unk1 rfl) (fun s ms => ?_) ?_
      · walk_at "s"
        refine ew_cW0 ?_
        walk_at "s"
        refine c_led M (by omega) (by omega) hf (q1 s ms).1 (by have := (q1 s ms).2; omega) ?_
        rw [if_pos (by rw [(q1 s ms).2]; exact e.symm)]
        walk_at "s"
        rfl
      walk_at "s"
      refine c_bdy (ss := p.2.map (ledF m)) q3 (by rw [List.map_map]; rfl) ?_
      walk_at "s"
      rfl
    walk_at "s"
    refine ⟨_, c, n, N, l.map (cry m), by rw [List.length_map, M.len], by rw [List.map_map]; rfl, hR, fun lt hlt => ?_⟩
    obtain ⟨k1, k2, k3⟩ := h lt hlt
    exact ⟨k1, k2, k3⟩
  · refine cnd_T (by simp; omega) ?_
    refine sw_raise0 cf rfl ?_
    exact h1 e
-- slots of _law_carried: 0 _law_rows_here, 1 _law_table, 2 _law_weight, 3 _law_spots_here, 4 _law_spot_here
-- slots of told25: 0 _law_lot_here, 1 _law_table, 2 why
end


end
section
open PySem PyProof.Rows L2 Evl U.Hull

section
variable {K : Fg} {cs : Cs} {gs : Gs} {φ : PyData → Prop} {A : Rs → Prop} {ε : Xw → Prop} {w : World} {W : WX}
/-! ### bounds told -/
def tld (A : Rs → Prop) : Rs → Prop
  | .ok v => A (.ok v)
  | .er e => (e = xw "TooMany" ∧ A (.ok (.list [.str "TooMany"]))) ∨ (e = xw "TooGreat" ∧ A (.ok (.list [.str "TooGreat"])))
  | .fl _ => False
theorem lotOf_mono {ds : List PyData} {A B : Rs → Prop} (m : ∀ r, A r → B r) (h : P_lotOf ds A) : P_lotOf ds B := by
  obtain ⟨x, a, r, N, rs, h1, h2, h3, h4⟩ := h
  exact ⟨x, a, r, N, rs, h1, h2, h3, fun lt hlt => ⟨fun z => m _ ((h4 lt hlt).1 z), fun z y => m _ ((h4 lt hlt).2.1 z y), fun z y => m _ ((h4 lt hlt).2.2 z y)⟩⟩
theorem scaled_mono {ds : List PyData} {A B : Rs → Prop} (m : ∀ r, A r → B r) (h : P_scaled ds A) : P_scaled ds B := by
  obtain ⟨a, r, N, n, l, h1, h2, h3, h5, h4⟩ := h
  exact ⟨a, r, N, n, l, h1, h2, h3, h5, fun lt hlt => ⟨fun z => m _ ((h4 lt hlt).1 z), fun z y => m _ ((h4 lt hlt).2.1 z y), fun z y => m _ ((h4 lt hlt).2.2 z y)⟩⟩
theorem carried_mono {ds : List PyData} {A B : Rs → Prop} (m : ∀ r, A r → B r) (h : P_carried ds A) : P_carried ds B := by
  obtain ⟨a, b, c, N, n, st, r, k, l, h1, h2, h3, h4, h5, h6, h7⟩ := h
  refine ⟨a, b, c, N, n, st, r, k, l, h1, h2, h3, h4, h5, fun z => m _ (h6 z), fun z => ?_⟩
  obtain ⟨j1, j2, j3, j4⟩ := h7 z
  exact ⟨j1, j2, j3, fun lt hlt => ⟨fun z => m _ ((j4 lt hlt).1 z), fun z y => m _ ((j4 lt hlt).2.1 z y), fun z y => m _ ((j4 lt hlt).2.2 z y)⟩⟩
def P_told20 : Pr := fun ds A => ∃ (d : Str) (x y : PyData), ds = [.str d, x, y] ∧ ((d = "made" ∧ P_lotOf [x, .int 1] (tld A)) ∨ (d = "scaled" ∧ P_scaled [x, y] (tld A)) ∨ (d = "carried" ∧ P_carried [x, y] (tld A)))
def t_told20 (K : Fg) (cs : Cs) : TS := (tTryN K (fun W => (tSeq (tIfS (tTest (tOp rEq (tVar 0) (tC (V.str "made")))) (tRet (tCallNS 1 1 (spW K cs P_lotOf) (fun vs zs => vs ++ zs) (WE W) (tCons (tVar 1) tNil) (tCons (tC (V.int 1)) tNil))) tNext)
  (tRet (tIf (tTest (tOp rEq (tVar 0) (tC (V.str "scaled")))) (tCallSD (spW K cs P_scaled) [] (WE W) (tCons (tVar 1) (tCons (tVar 2) tNil))) (tCallSD (spW K cs P_carried) [] (WE W) (tCons (tVar 1) (tCons (tVar 2) tNil))))))) [((.ref (cs "TooGreat") : Value), 3, fun a cls d => (tRet (tIf (tOr (tB (tCB (rIsD K a cls d (cs "TooGreat")) (tCons (tVar 3) (tCons (tC (V.ref (cs "TooMany"))) tNil)))) (tNot (tB (tCB (rIsD K a cls d (cs "TooGreat")) (tCons (tVar 3) (tCons (tC (V.ref (cs "Unfit"))) tNil)))))) (tC V.non) (tLst (tCons (tXf a cls d (cs "TooGreat") "word" (tVar 3)) tNil))))), ((.ref (cs "TooMany") : Value), 3, fun a cls d => (tRet (tLst (tCons (tXf a cls d (cs "TooMany") "word" (tVar 3)) tNil))))])
-- slots of told20: 0 _law_deed, 1 _law_thing, 2 _law_other, 3 why
theorem ln_told20 : ∀ ds A, P_told20 ds A → ds.length = 3 := fun ds A h => by obtain ⟨_, _, _, rfl, _⟩ := h; rfl
theorem rd_told20 {ds A} (e1 : PySem.W.exmOne K (.ref (cs "TooGreat")) (.ref (cs "TooGreat")) = some true) (e2 : PySem.W.exmOne K (.ref (cs "TooMany")) (.ref (cs "TooGreat")) = some false) (e3 : PySem.W.exmOne K (.ref (cs "TooMany")) (.ref (cs "TooMany")) = some true) (k1 : PySem.W.kitOne K (.ref (cs "TooGreat")) (.ref (cs "TooMany")) = some false) (k2 : PySem.W.kitOne K (.ref (cs "TooGreat")) (.ref (cs "Unfit")) = some true) (h : P_told20 ds A) : SW K cs W0 (t_told20 K cs) (frame 4 ds) (rts0 A) := by
  obtain ⟨d, x, y, rfl, h⟩ := h
  have hx : ∀ (W' : WX) (e : Xw) (Φ : Out → Prop), ((e = xw "TooMany" ∧ Φ (.rt (.list [.str "TooMany"]))) ∨ (e = xw "TooGreat" ∧ Φ (.rt (.list [.str "TooGreat"])))) → hdN K cs W' Φ [((.ref (cs "TooGreat") : Value), 3, fun a cls d => (tRet (tIf (tOr (tB (tCB (rIsD K a cls d (cs "TooGreat")) (tCons (tVar 3) (tCons (tC (V.ref (cs "TooMany"))) tNil)))) (tNot (tB (tCB (rIsD K a cls d (cs "TooGreat")) (tCons (tVar 3) (tCons (tC (V.ref (cs "Unfit"))) tNil)))))) (tC V.non) (tLst (tCons (tXf a cls d (cs "TooGreat") "word" (tVar 3)) tNil))))), ((.ref (cs "TooMany") : Value), 3, fun a cls d => (tRet (tLst (tCons (tXf a cls d (cs "TooMany") "word" (tVar 3)) tNil))))] e (frame 4 [.str d, x, y]) := fun W' e Φ k => by
    rcases k with ⟨rfl, k⟩ | ⟨rfl, k⟩
    · refine ⟨false, e2, cnd_f ⟨true, e3, cnd_t fun a d => ?_⟩⟩
      walk_at "wi"
      exact ew_xfS rfl rfl k
    · refine ⟨true, e1, cnd_t fun a d => ?_⟩
      walk_at "wi"
      refine ew_isD rfl k1 ?_
      walk_at "wi"
      refine ew_isD rfl k2 ?_
      walk_at "wi"
      exact ew_xfS rfl rfl k
  unfold t_told20
  refine sw_tryN fun W' => ?_
  rcases h with ⟨rfl, h⟩ | ⟨rfl, h⟩ | ⟨rfl, h⟩
  · refine sw_seq ?_
    walk_at "s"
    refine cnd_yes rfl ?_
    walk_at "s"
    refine ⟨rfl, rfl, lotOf_mono (fun r hr => ?_) h⟩
    match r, hr with
    | .ok v, hr => exact hr
    | .er e, hr => exact hx _ _ _ hr
  · refine sw_seq ?_
    walk_at "s"
    refine cnd_no (by decide) ?_
    walk_at "s"
    refine cnd_yes rfl ?_
    walk_at "s"
    refine scaled_mono (fun r hr => ?_) h
    match r, hr with
    | .ok v, hr => exact hr
    | .er e, hr => exact hx _ _ _ hr
  · refine sw_seq ?_
    walk_at "s"
    refine cnd_no (by decide) ?_
    walk_at "s"
    refine cnd_no (by decide) ?_
    walk_at "s"
    refine carried_mono (fun r hr => ?_) h
    match r, hr with
    | .ok v, hr => exact hr
    | .er e, hr => exact hx _ _ _ hr
/-- rows of one spot of the line each -/
def o1 (q : Int × Fr) : Row := (q.1, [[q.2]])
def okQ (q : Int × Fr) : Bool := sm q.1 && (sm q.2.1 && sm q.2.2)
theorem okQ_sm (q : Int × Fr) : smRow (o1 q) = okQ q := by
  unfold smRow okQ o1 smBody
  simp
def dueD (ps : List (Int × Fr)) : PyData := if 2000 < ps.length then .list [.str "TooMany"] else if ps.all okQ = true then lotD 1 (ps.map o1) else .list [.str "TooGreat"]
def P_ldue20 : Pr := fun ds A => ∃ ps : List (Int × Fr), ds = [.list ((ps.map o1).map rw')] ∧ ps.length ≤ 100000 ∧ A (.ok (dueD ps))
def t_ldue20 (K : Fg) : TS := (tSeq (tIfS (tTest (tOp rGtI (tCB (rLenQ K) (tCons (tVar 0) tNil)) (tC (V.int 2000)))) (tRet (tLst (tCons (tC (V.str "TooMany")) tNil))) tNext)
  (tSeq (tFor (iList K (tVar 0)) (gTup K 2 (gCons (gName 1) (gCons (gName 2) gNil))) (tSeq (tAsg (tLst (tCons (tVar 1) tNil)) (gName 3))
  (tSeq (tFor (iTup K (tVar 2)) (gName 4) (tDrop (tBM K "list" rExtend (tVar 3) (tCons (tCB (rListQ K) (tCons (tOp (rIx K) (tVar 4) (tC (V.int 0))) tNil)) tNil))))
  (tIfS (tB (tCB (rAny K) (tCons (tLc (iList K (tVar 3)) (gName 5) tYes (tOp rGtI (tCB rAbs (tCons (tVar 5) tNil)) (tOp rPowI (tC (V.int 10)) (tC (V.int 18)))) [5]) tNil))) (tRet (tLst (tCons (tC (V.str "TooGreat")) tNil))) tNext))))
  (tRet (tTup (tCons (tC (V.int 1)) (tCons (tCB (rTupQ K) (tCons (tVar 0) tNil)) tNil))))))
-- slots of ldue20: 0 _law_rows, 1 _law_weight, 2 _law_body, 3 _law_numbers, 4 _law_spot, 5 _law_number
theorem ln_ldue20 : ∀ ds A, P_ldue20 ds A → ds.length = 1 := fun ds A h => by obtain ⟨_, rfl, _⟩ := h; rfl
theorem abs_sm (n : Int) : decide (1000000000000000000 < absI n) = !sm n := by
  unfold sm absI
  by_cases h : n < 0
  · rw [if_pos h]
    by_cases h2 : 1000000000000000000 < -n
    · rw [decide_eq_true h2, decide_eq_false (show ¬ -1000000000000000000 ≤ n by omega)]; rfl
    · rw [decide_eq_false h2, decide_eq_true (show -1000000000000000000 ≤ n by omega), decide_eq_true (show n ≤ 1000000000000000000 by omega)]; rfl
  · rw [if_neg h]
    by_cases h2 : 1000000000000000000 < n
    · rw [decide_eq_true h2, decide_eq_true (show -1000000000000000000 ≤ n by omega), decide_eq_false (show ¬ n ≤ 1000000000000000000 by omega)]; rfl
    · rw [decide_eq_false h2, decide_eq_true (show -1000000000000000000 ≤ n by omega), decide_eq_true (show n ≤ 1000000000000000000 by omega)]; rfl
theorem rd_ldue20 {ds A} (h : P_ldue20 ds A) : SW K cs W0 (t_ldue20 K) (frame 6 ds) (rts0 A) := by
  obtain ⟨ps, rfl, hl, h⟩ := h
  unfold t_ldue20
  refine sw_seq ?_
  walk_at "s"
  rw [List.length_map, List.length_map]
  refine cnd_d (fun h1 => ?_) (fun h1 => ?_)
  · unfold dueD at h
    rw [if_pos (by omega)] at h
    walk_at "s"
    exact h
  have h1 : ¬ 2000 < ps.length := by omega
  unfold dueD at h
  rw [if_neg h1] at h
  walk_at "s"
  refine sw_seq ?_
  walk_at "s"
  have eall : ps.all okQ = (ps.map o1).all smRow := by
    rw [List.all_map]
    congr 1
    funext q
    exact (okQ_sm q).symm
  rw [eall] at h
  refine forP (f := rw') (xs := ps.map o1) (fun pre G => (∃ e1 e2 e3 e4, G = [.d (.list ((ps.map o1).map rw')), e1, e2, e3, e4, .un]) ∧ pre.all smRow = true) ⟨⟨_, _, _, _, rfl⟩, rfl⟩ ?_ ?_
  · rintro pre q post _ e ⟨⟨e1, e2, e3, e4, rfl⟩, hp⟩
    obtain ⟨⟨v, f⟩, _, rfl⟩ : ∃ x ∈ ps, o1 x = q := List.mem_map.mp (by rw [e]; simp)
    refine gw_tup (xs := [.int v, bod [[f]]]) rfl (gsw_cons (gw_name (gsw_cons (gw_name (gsw_nil ?_)))))
    refine sw_seq (sw_asgF ?_)
    walk_at "ef"
    walk_at "s"
    refine sw_cut (fun G => ∃ e4, G = [.d (.list ((ps.map o1).map rw')), .d (.int v), .d (bod [[f]]), .ow (ol (([v, f.1, f.2] : List Int).map PyData.int)), e4, .un]) ?_ ?_
    · walk_at "s"
      refine forP (f := frs) (xs := [[f]]) (fun pre G => ∃ e4, G = [.d (.list ((ps.map o1).map rw')), .d (.int v), .d (bod [[f]]), .ow (ol ((v :: pre.flatMap fun s => s.flatMap fun g => [g.1, g.2]).map PyData.int)), e4, .un]) ⟨_, rfl⟩ ?_ ?_
      · rintro pre s post _ e ⟨e4, rfl⟩
        obtain ⟨rfl, rfl, rfl⟩ : pre = [] ∧ s = [f] ∧ post = [] := by
          cases pre with
          | nil => simp at e; exact ⟨rfl, e.1.symm, e.2⟩
          | cons x l => simp at e
        refine gw_name ?_
        refine sw_ext (i := 3) rfl ?_
        walk_at "ef"
        walk_at "s"
        refine ⟨by simp, ?_⟩
        walk_at "s"
        exact ⟨_, rfl⟩
      · rintro _ ⟨e4, rfl⟩
        exact x_nx ⟨_, rfl⟩
    rintro _ ⟨e4, rfl⟩
    refine sw_freeze (i := 3) rfl ?_
    walk_at "s"
    refine lcM (f := PyData.int) (xs := [v, f.1, f.2]) (fun n => .bool (!sm n)) (by simp) (unk1 rfl) (fun n mn => ?_) ?_
    · walk_at "s"
      refine ⟨by unfold CPow; decide, ?_⟩
      walk_at "s"
      have e18 : (10 : Int) ^ Int.toNat 18 = 1000000000000000000 := by rfl
      rw [e18, abs_sm]
    walk_at "s"
    have eo : ([v, f.1, f.2].any fun n => !sm n) = !okQ (v, f) := by
      unfold okQ
      simp only [List.any_cons, List.any_nil, Bool.or_false]
      cases sm v <;> cases sm f.1 <;> cases sm f.2 <;> rfl
    rw [eo]
    have ea : (pre ++ [o1 (v, f)]).all smRow = okQ (v, f) := by
      rw [List.all_append, hp]
      simp [okQ_sm]
    cases hk : okQ (v, f) with
    | true =>
      walk_at "s"
      exact ⟨⟨_, _, _, _, rfl⟩, by rw [ea, hk]⟩
    | false =>
      walk_at "s"
      have : ¬ (ps.map o1).all smRow = true := fun z => by
        rw [e, show pre ++ o1 (v, f) :: post = (pre ++ [o1 (v, f)]) ++ post by simp, List.all_append, ea, hk] at z
        simp at z
      rw [if_neg this] at h
      exact h
  · rintro _ ⟨⟨e1, e2, e3, e4, rfl⟩, hp⟩
    walk_at "s"
    rw [if_pos hp] at h
    exact h
/-! ### rows in order are their lot -/
structure Inc1 (a : Nat) (ps : List (Int × Fr)) : Prop where
  gd : ∀ q ∈ ps, Gd a q.2
  nz : ∀ q ∈ ps, q.1 ≠ 0
  pw : ps.Pairwise fun p q => val p.2 < val q.2
theorem wt_inc {a : Nat} : ∀ {ps : List (Int × Fr)}, Inc1 a ps → ∀ q ∈ ps, wt (ps.map o1) [[q.2]] = q.1
  | p :: ps, h, q, hq => by
    obtain ⟨k1, k2⟩ := List.pairwise_cons.mp h.pw
    have h' : Inc1 a ps := ⟨fun x hx => h.gd x (by simp [hx]), fun x hx => h.nz x (by simp [hx]), k2⟩
    rw [List.map_cons, wt_cons]
    rcases List.mem_cons.mp hq with rfl | hq
    · rw [show (o1 q).2 = [[q.2]] from rfl, if_pos rfl, wt_none fun x hx => ?_, Int.add_zero]
      · rfl
      · obtain ⟨y, hy, rfl⟩ := List.mem_map.mp hx
        intro e
        have e : y.2 = q.2 := by simpa [o1] using e
        have := k1 y hy
        rw [e] at this
        grind
    · rw [wt_inc h' q hq, if_neg fun e => ?_, Int.zero_add]
      have e : p.2 = q.2 := by simpa [o1] using e
      have := k1 q hq
      rw [e] at this
      grind
theorem lot_inc {a : Nat} {ps : List (Int × Fr)} {rows : List Row} (h : Inc1 a ps) (hw : ∀ b, wt rows b = wt (ps.map o1) b) : IsLot rows (ps.map o1) := by
  refine ⟨ps.map fun q => [[q.2]], ?_, ?_, fun b => ?_⟩
  · rw [List.map_map]
    refine List.map_congr_left fun q hq => ?_
    show o1 q = (wt rows [[q.2]], [[q.2]])
    rw [hw, wt_inc h q hq]
    rfl
  · rw [List.pairwise_map]
    exact h.pw.imp fun {p q} k => Or.inl k
  · rw [hw]
    constructor
    · intro hb
      obtain ⟨q, hq, rfl⟩ := List.mem_map.mp hb
      rw [wt_inc h q hq]
      exact h.nz q hq
    · intro hb
      apply Classical.byContradiction
      intro hn
      refine hb (wt_none fun p hp e => hn ?_)
      obtain ⟨q, hq, rfl⟩ := List.mem_map.mp hp
      exact List.mem_map.mpr ⟨q, hq, e⟩
theorem wt_rev (b : Body) : ∀ l : List Row, wt l.reverse b = wt l b
  | [] => rfl
  | p :: l => by
    rw [List.reverse_cons, wt_app, wt_rev b l, wt_cons, wt_cons]
    have : wt [] b = 0 := rfl
    rw [this]
    omega
theorem bndA_due {ps : List (Int × Fr)} (h : φ (dueD ps)) : BndA 1 (tld (rE φ ε)) (ps.map o1) := by
  have eall : ps.all okQ = (ps.map o1).all smRow := by
    rw [List.all_map]
    congr 1
    funext q
    exact (okQ_sm q).symm
  unfold dueD at h
  rw [eall] at h
  refine ⟨fun z => .inl ⟨rfl, ?_⟩, fun z y => ?_, fun z y => .inr ⟨rfl, ?_⟩⟩
  · rw [List.length_map] at z
    rw [if_pos z] at h
    exact h
  · rw [List.length_map] at z
    rw [if_neg (by omega), if_pos y] at h
    exact h
  · rw [List.length_map] at z
    rw [if_neg (by omega), if_neg (by rw [y]; simp)] at h
    exact h
end


end
section
open PySem PyProof.Rows L2 Evl U.Hull

section
variable {K : Fg} {cs : Cs} {gs : Gs} {φ : PyData → Prop} {A : Rs → Prop} {ε : Xw → Prop} {w : World} {W : WX}
theorem bdy_s1 {a r : Nat} {s : Spot} (h : SpR a r [s]) : bdy [s] = [s] := by
  obtain ⟨row, hrow⟩ := rising_ex h
  have e := one_row (h.row hrow) (c := s) fun x hx => List.mem_singleton.mp ((hrow.2 x).mp hx)
  rw [bdy_eq hrow, e]
  unfold bodyS
  rw [if_pos (show [s].length = 1 from rfl)]
theorem inc_rng {m a : Nat} {g : Nat → Int × Fr} (h1 : ∀ i, i < m → Gd a (g i).2) (h2 : ∀ i, i < m → (g i).1 ≠ 0) (h3 : ∀ i j, i < j → j < m → val (g i).2 < val (g j).2) : Inc1 a ((List.range m).map g) := by
  refine ⟨fun q hq => ?_, fun q hq => ?_, ?_⟩
  · obtain ⟨i, hi, rfl⟩ := List.mem_map.mp hq
    exact h1 i (List.mem_range.mp hi)
  · obtain ⟨i, hi, rfl⟩ := List.mem_map.mp hq
    exact h2 i (List.mem_range.mp hi)
  · rw [List.pairwise_map]
    exact List.pairwise_lt_range.imp_of_mem fun {i j} _ mj k => h3 i j k (List.mem_range.mp mj)
theorem set_rng {α : Type} {m k : Nat} {g : Nat → α} {v : α} : ((List.range m).map g).set k v = (List.range m).map fun i => if i = k then v else g i := by
  apply List.ext_getElem
  · simp
  · intro i h1 h2
    rw [List.getElem_set]
    simp at h1 ⊢
    by_cases e : k = i
    · rw [if_pos e, if_pos e.symm]
    · rw [if_neg e, if_neg fun z => e z.symm]
theorem val_i (n : Int) : val (n, 1) = (n : Rat) := by
  show (n : Rat) / ((1 : Int) : Rat) = n
  rw [show ((1 : Int) : Rat) = 1 from rfl]
  grind
theorem gd_i {a : Nat} {n : Int} (h : Bd a n) (ha : 1 ≤ a) : Gd a (n, 1) := ⟨⟨h, by show Bd a 1; unfold Bd; have := Nat.pow_le_pow_right (show 0 < 2 by decide) ha; simp at *; omega⟩, by show (0 : Int) < 1; decide, gI_one _⟩
theorem gd_m {a : Nat} {n : Int} (h : Bd a n) (hp : 0 < n) : Gd a (-1, n) := by
  have b1 : Bd a (-1) := by
    unfold Bd at *
    have : 1 ≤ n.natAbs := by omega
    show 1 < 2 ^ a
    omega
  refine ⟨⟨b1, h⟩, hp, ?_⟩
  show ((max (Nat.gcd 1 n.natAbs) 1 : Nat) : Int) = 1
  rw [Nat.gcd_one_left]
  rfl
/-- rows at the bound -/
structure FinP (m : Nat) (ps : List (Int × Fr)) : Prop where
  len : ps.length = m
  inc : Inc1 61 ps
  wb : ∀ q ∈ ps, Bd 61 q.1
  cm : ∃ c : Int, 0 < c ∧ Bd 61 c ∧ ∀ q ∈ ps, q.2.2 ∣ c
def g0 (i : Nat) : Int × Fr := (1 + (i : Int).fmod 3, ((i : Int), 1))
def ps0 (m : Nat) : List (Int × Fr) := (List.range m).map g0
theorem fm3 (i : Nat) : 0 ≤ (i : Int).fmod 3 ∧ (i : Int).fmod 3 < 3 := by
  rw [Int.fmod_eq_emod_of_nonneg _ (by decide)]
  omega
theorem g0_ok {m i : Nat} (hm : m ≤ 2001) (hi : i < m) : Gd 61 (g0 i).2 ∧ (g0 i).1 ≠ 0 ∧ Bd 61 (g0 i).1 ∧ (g0 i).2.2 = 1 ∧ val (g0 i).2 = (i : Rat) := by
  have f := fm3 i
  refine ⟨gd_i (by show Bd 61 (i : Int); unfold Bd; omega) (by decide), by show 1 + (i : Int).fmod 3 ≠ 0; omega, by show Bd 61 (1 + (i : Int).fmod 3); unfold Bd; omega, rfl, ?_⟩
  show val ((i : Int), 1) = _
  rw [val_i]
  rfl
theorem cast_lt {i j : Nat} (h : i < j) : (i : Rat) < (j : Rat) := by exact_mod_cast h
theorem fin_set {m k : Nat} {v : Int × Fr} (hm : m ≤ 2001) (hk : k < m) (gv : Gd 61 v.2) (nz : v.1 ≠ 0) (bv : Bd 61 v.1) (lo : ∀ i, i < k → (i : Rat) < val v.2) (hi : ∀ i, k < i → i < m → val v.2 < (i : Rat)) : FinP m ((ps0 m).set k v) := by
  unfold ps0
  rw [set_rng]
  refine ⟨by simp, inc_rng (fun i hi => ?_) (fun i hi => ?_) (fun i j hij hj => ?_), fun q hq => ?_, v.2.2, gv.pos, gv.sz.2, fun q hq => ?_⟩
  · split
    · exact gv
    · exact (g0_ok hm hi).1
  · split
    · exact nz
    · exact (g0_ok hm hi).2.1
  · have vi := (g0_ok hm (i := i) (by omega)).2.2.2.2
    have vj := (g0_ok hm hj).2.2.2.2
    by_cases e1 : i = k
    · rw [if_pos e1, if_neg (by omega), vj]
      exact hi j (by omega) hj
    · by_cases e2 : j = k
      · rw [if_neg e1, if_pos e2, vi]
        exact lo i (by omega)
      · rw [if_neg e1, if_neg e2, vi, vj]
        exact cast_lt hij
  · obtain ⟨i, mi, rfl⟩ := List.mem_map.mp hq
    split
    · exact bv
    · exact (g0_ok hm (List.mem_range.mp mi)).2.2.1
  · obtain ⟨i, mi, rfl⟩ := List.mem_map.mp hq
    split
    · exact Int.dvd_refl _
    · rw [(g0_ok hm (List.mem_range.mp mi)).2.2.2.1]
      exact Int.one_dvd _
theorem fin_0 {m : Nat} (hm : m ≤ 2001) : FinP m (ps0 m) := by
  refine ⟨by simp [ps0], inc_rng (fun i hi => (g0_ok hm hi).1) (fun i hi => (g0_ok hm hi).2.1) (fun i j hij hj => ?_), fun q hq => ?_, 1, by decide, by unfold Bd; decide, fun q hq => ?_⟩
  · rw [(g0_ok hm (i := i) (by omega)).2.2.2.2, (g0_ok hm hj).2.2.2.2]
    exact cast_lt hij
  · obtain ⟨i, mi, rfl⟩ := List.mem_map.mp hq
    exact (g0_ok hm (List.mem_range.mp mi)).2.2.1
  · obtain ⟨i, mi, rfl⟩ := List.mem_map.mp hq
    rw [(g0_ok hm (List.mem_range.mp mi)).2.2.2.1]
    exact Int.dvd_refl _
def o1S (q : Int × Fr) : RowS := ⟨q.1, true, [[q.2]]⟩
theorem rws_o1 {a N : Nat} {ps : List (Int × Fr)} (g : ∀ q ∈ ps, Gd a q.2) (ha : a ≤ 900) (cm : ∃ c : Int, 0 < c ∧ Bd N c ∧ ∀ q ∈ ps, q.2.2 ∣ c) (hN : N ≤ 6900) (hl : ps.length ≤ 10000) : RwS a 1 N (ps.map o1S) ∧ rowsB (ps.map o1S) = ps.map o1 := by
  obtain ⟨c, c1, c2, c3⟩ := cm
  have gq : ∀ q ∈ ps, Sps a 1 [[q.2]] := fun q hq s hs => by
    rw [List.mem_singleton.mp hs]
    exact ⟨fun x hx => by rw [List.mem_singleton.mp hx]; exact g q hq, rfl⟩
  have R : RwS a 1 N (ps.map o1S) := by
    refine ⟨.inl rfl, fun p hp => ?_, ⟨fun s hs => ?_, c, c1, fun s hs f hf => ?_, c2⟩, ha, hN, by rw [List.length_map]; exact hl⟩
    · obtain ⟨q, hq, rfl⟩ := List.mem_map.mp hp
      exact ⟨gq q hq, by show 1 ≤ 1; omega, by show 1 ≤ 1000; omega⟩
    · obtain ⟨p, hp, hs⟩ := List.mem_flatMap.mp hs
      obtain ⟨q, hq, rfl⟩ := List.mem_map.mp hp
      exact (gq q hq s hs).1
    · obtain ⟨p, hp, hs⟩ := List.mem_flatMap.mp hs
      obtain ⟨q, hq, rfl⟩ := List.mem_map.mp hp
      have hs : s ∈ [[q.2]] := hs
      rw [List.mem_singleton.mp hs] at hf
      rw [List.mem_singleton.mp hf]
      exact c3 q hq
  refine ⟨R, ?_⟩
  unfold rowsB
  rw [List.map_map]
  refine List.map_congr_left fun q hq => ?_
  show (q.1, bdy [[q.2]]) = (q.1, [[q.2]])
  rw [bdy_s1 (R.sp (p := o1S q) (List.mem_map.mpr ⟨q, hq, rfl⟩))]
theorem FinP.rws {m : Nat} {ps : List (Int × Fr)} (h : FinP m ps) (hm : m ≤ 2001) : RwS 61 1 61 (ps.reverse.map o1S) ∧ rowsB (ps.reverse.map o1S) = (ps.map o1).reverse := by
  obtain ⟨c, c1, c2, c3⟩ := h.cm
  have := rws_o1 (ps := ps.reverse) (fun q hq => h.inc.gd q (List.mem_reverse.mp hq)) (by decide) ⟨c, c1, c2, fun q hq => c3 q (List.mem_reverse.mp hq)⟩ (by decide) (by rw [List.length_reverse, h.len]; omega)
  exact ⟨this.1, by rw [this.2, List.map_reverse]⟩
theorem c_made {m : Nat} {ps : List (Int × Fr)} (h : FinP m ps) (hm : m ≤ 2001) (k : φ (dueD ps)) (y : PyData) : P_told20 [.str "made", .list ((ps.map o1).map rw').reverse, y] (rE φ ε) := by
  obtain ⟨R, eR⟩ := h.rws hm
  refine ⟨"made", _, y, rfl, .inl ⟨rfl, _, 61, 1, 61, ps.reverse.map o1S, rfl, ?_, R, fun lt hlt => ?_⟩⟩
  · show some _ = some _
    congr 1
    rw [← List.map_reverse, ← List.map_reverse, List.map_map, List.map_map]
    rfl
  · rw [eR] at hlt
    obtain rfl : lt = ps.map o1 := isLot_uniq (fun b => rfl) hlt (lot_inc h.inc fun b => wt_rev b _)
    exact bndA_due k
def qs3 : List (Int × Fr) := [(2, (1, 3)), (-1, (2, 5)), (2, (3, 7))]
theorem qs3_gd : ∀ q ∈ qs3, Gd 3 q.2 := fun q hq => by
  simp [qs3] at hq
  rcases hq with rfl | rfl | rfl <;> exact ⟨⟨by unfold Bd; decide, by unfold Bd; decide⟩, by decide, by decide⟩
theorem qs3_pw : qs3.Pairwise fun p q => val p.2 < val q.2 := by
  have v1 : val (1, 3) = 1 / 3 := rfl
  have v2 : val (2, 5) = 2 / 5 := rfl
  have v3 : val (3, 7) = 3 / 7 := rfl
  unfold qs3
  simp only [List.pairwise_cons, List.mem_cons, List.not_mem_nil, or_false, forall_eq_or_imp, forall_eq, v1, v2, v3]
  refine ⟨⟨by grind, by grind⟩, by grind, by simp, by simp⟩
theorem qs3_rws : RwS 3 1 10 (qs3.map o1S) ∧ rowsB (qs3.map o1S) = qs3.map o1 := rws_o1 qs3_gd (by decide) ⟨105, by decide, by unfold Bd; decide, fun q hq => by
  simp [qs3] at hq
  rcases hq with rfl | rfl | rfl
  · exact ⟨35, by decide⟩
  · exact ⟨21, by decide⟩
  · exact ⟨15, by decide⟩⟩ (by decide) (by decide)
theorem c_scaled20 {n : Int} (hn : n ≠ 0) (hb : Bd 61 n) (k : φ (dueD (qs3.map fun q => (q.1 * n, q.2)))) : P_told20 [.str "scaled", lotD 1 (qs3.map o1), .int n] (rE φ ε) := by
  have R := qs3_rws.1.rws
  rw [qs3_rws.2] at R
  refine ⟨"scaled", _, _, rfl, .inr (.inl ⟨rfl, 3, 1, 10, n, qs3.map o1, rfl, R, fun p hp => ?_, hb.mono (by decide), fun lt hlt => ?_⟩)⟩
  · simp [qs3] at hp
    rcases hp with rfl | rfl | rfl <;> (show Bd 100 _; unfold Bd o1; decide)
  · have e : ((qs3.map o1).map fun p => (p.1 * n, p.2)) = (qs3.map fun q => (q.1 * n, q.2)).map o1 := by rw [List.map_map, List.map_map]; rfl
    rw [e] at hlt
    have I : Inc1 3 (qs3.map fun q => (q.1 * n, q.2)) := ⟨fun q hq => by
      obtain ⟨x, hx, rfl⟩ := List.mem_map.mp hq
      exact qs3_gd x hx, fun q hq => by
      obtain ⟨x, hx, rfl⟩ := List.mem_map.mp hq
      refine Int.mul_ne_zero ?_ hn
      simp [qs3] at hx
      rcases hx with rfl | rfl | rfl <;> decide, by rw [List.pairwise_map]; exact qs3_pw⟩
    obtain rfl := isLot_uniq (fun b => rfl) hlt (lot_inc I fun b => rfl)
    exact bndA_due k
def mvF (n : Int) (f : Fr) : Fr := addF (1, 3) (mulF (n, 1) f)
theorem c_carried20 {n : Int} (hn : 0 < n) (hb : Bd 61 n) (k : φ (dueD (qs3.map fun q => (q.1, mvF n q.2)))) : P_told20 [.str "carried", lotD 1 (qs3.map o1), mp [[(n, 1), (1, 3)]]] (rE φ ε) := by
  have g13 : Gd 3 (1, 3) := qs3_gd (2, (1, 3)) (by simp [qs3])
  have gn : Gd 61 (n, 1) := gd_i hb (by decide)
  have gm : ∀ q ∈ qs3, Gd 70 (mvF n q.2) := fun q hq => (g13.add (gn.mul (qs3_gd q hq))).mono (by decide)
  have vm : ∀ q ∈ qs3, val (mvF n q.2) = 1 / 3 + (n : Rat) * val q.2 := fun q hq => by
    unfold mvF
    rw [val_add g13 (gn.mul (qs3_gd q hq)), val_mul gn (qs3_gd q hq), val_i]
    rfl
  have M : Mp 61 1 1 [[(n, 1), (1, 3)]] := ⟨rfl, fun r hr => by
    rw [List.mem_singleton.mp hr]
    exact ⟨rfl, fun x hx => by
      simp at hx
      rcases hx with rfl | rfl
      · exact gn
      · exact g13.mono (by decide)⟩⟩
  obtain ⟨c0, z1, z2, z3⟩ := (CbB.of (a := 70) (r := 1) (ss := qs3.map fun q => [mvF n q.2]) fun s hs => by
    obtain ⟨q, hq, rfl⟩ := List.mem_map.mp hs
    exact ⟨fun x hx => by rw [List.mem_singleton.mp hx]; exact gm q hq, by simp⟩).cm
  obtain ⟨R', e'⟩ := rws_o1 (a := 70) (N := 1 + 3 * (1 * 70)) (ps := qs3.map fun q => (q.1, mvF n q.2)) (fun q hq => by
    obtain ⟨x, hx, rfl⟩ := List.mem_map.mp hq
    exact gm x hx) (by decide) ⟨c0, z1, z3, fun q hq => by
    obtain ⟨x, hx, rfl⟩ := List.mem_map.mp hq
    exact z2 [mvF n x.2] (List.mem_map.mpr ⟨x, hx, rfl⟩) _ (by simp)⟩ (by decide) (by rw [List.length_map]; decide)
  have W' := R'.rws
  rw [e'] at W'
  have led1 : ∀ f : Fr, ledF [[(n, 1), (1, 3)]] [f] = [mvF n f] := fun f => rfl
  have spq : ∀ q ∈ qs3, SpR 70 1 [[mvF n q.2]] := fun q hq => R'.sp (p := o1S (q.1, mvF n q.2)) (List.mem_map.mpr ⟨_, List.mem_map.mpr ⟨q, hq, rfl⟩, rfl⟩)
  have ec : (qs3.map o1).map (cry [[(n, 1), (1, 3)]]) = (qs3.map fun q => (q.1, mvF n q.2)).map o1 := by
    rw [List.map_map, List.map_map]
    refine List.map_congr_left fun q hq => ?_
    show (q.1, bdy [ledF [[(n, 1), (1, 3)]] [q.2]]) = (q.1, [[mvF n q.2]])
    rw [led1, bdy_s1 (spq q hq)]
  refine ⟨"carried", _, _, rfl, .inr (.inr ⟨rfl, 61, 3, 70, 1 + 3 * (1 * 70), 1, 1, 1, _, qs3.map o1, rfl, M, .inl rfl, .inl rfl, by decide, fun z => absurd rfl z, fun _ => ⟨by unfold Fits; decide, fun p hp => ?_, by rw [ec]; exact W', fun lt hlt => ?_⟩⟩)⟩
  · obtain ⟨q, hq, rfl⟩ := List.mem_map.mp hp
    refine ⟨fun s hs => ?_, by show 1 ≤ 1000; omega, by show SpR 70 1 [ledF _ [q.2]]; rw [led1]; exact spq q hq⟩
    have hs : s ∈ [[q.2]] := hs
    rw [List.mem_singleton.mp hs]
    exact ⟨fun x hx => by rw [List.mem_singleton.mp hx]; exact qs3_gd q hq, rfl⟩
  · rw [ec] at hlt
    have np : (0 : Rat) < (n : Rat) := by exact_mod_cast hn
    have I : Inc1 70 (qs3.map fun q => (q.1, mvF n q.2)) := ⟨fun q hq => by
      obtain ⟨x, hx, rfl⟩ := List.mem_map.mp hq
      exact gm x hx, fun q hq => by
      obtain ⟨x, hx, rfl⟩ := List.mem_map.mp hq
      show x.1 ≠ 0
      simp [qs3] at hx
      rcases hx with rfl | rfl | rfl <;> decide, by
      rw [List.pairwise_map]
      refine qs3_pw.imp_of_mem fun {p q} mp mq k => ?_
      show val (mvF n p.2) < val (mvF n q.2)
      rw [vm p mp, vm q mq]
      have := Rat.mul_pos np (show 0 < val q.2 - val p.2 by grind)
      grind⟩
    obtain rfl := isLot_uniq (fun b => rfl) hlt (lot_inc I fun b => rfl)
    exact bndA_due k
theorem rng_mapZ (k : Nat) : rngD 0 k = (List.range k).map fun i : Nat => PyData.int i := by
  apply List.ext_getElem?
  intro i
  by_cases h : i < k
  · rw [rngD_get h, List.getElem?_map, List.getElem?_range h]
    simp
  · rw [List.getElem?_eq_none (by rw [rngD_len]; omega), List.getElem?_eq_none (by simp; omega)]
end


end
namespace Law
def topS (i : Nat) : Stmt := PySem.Challenge.pw_umbrage_k20_bounds_of_lots.main.body.getD i (.Pass ⟨0, 0, 0, 0⟩)
def clsS (i j : Nat) : Stmt := match topS i with | .ClassDef _ _ _ b _ _ _ _ _ _ _ => b.getD j (.Pass ⟨0, 0, 0, 0⟩) | _ => .Pass ⟨0, 0, 0, 0⟩
abbrev si_Unfit : Stmt := clsS 1 0
theorem sci_Unfit : FnScope ["self", "word"] ["self", "word"] (defScope si_Unfit) := ⟨rfl, rfl, rfl, by decide +kernel, rfl, by decide +kernel, by decide +kernel⟩
abbrev si_TooGreat : Stmt := clsS 6 0
theorem sci_TooGreat : FnScope ["self"] ["self"] (defScope si_TooGreat) := ⟨rfl, rfl, rfl, by decide +kernel, rfl, by decide +kernel, by decide +kernel⟩
abbrev si_TooMany : Stmt := clsS 5 0
theorem sci_TooMany : FnScope ["self"] ["self"] (defScope si_TooMany) := ⟨rfl, rfl, rfl, by decide +kernel, rfl, by decide +kernel, by decide +kernel⟩
abbrev si_OtherRoom : Stmt := clsS 4 0
theorem sci_OtherRoom : FnScope ["self"] ["self"] (defScope si_OtherRoom) := ⟨rfl, rfl, rfl, by decide +kernel, rfl, by decide +kernel, by decide +kernel⟩
abbrev si_BadLot : Stmt := clsS 3 0
theorem sci_BadLot : FnScope ["self"] ["self"] (defScope si_BadLot) := ⟨rfl, rfl, rfl, by decide +kernel, rfl, by decide +kernel, by decide +kernel⟩
abbrev si_Flat : Stmt := clsS 7 0
theorem sci_Flat : FnScope ["self"] ["self"] (defScope si_Flat) := ⟨rfl, rfl, rfl, by decide +kernel, rfl, by decide +kernel, by decide +kernel⟩
abbrev si_BadSpot : Stmt := clsS 2 0
theorem sci_BadSpot : FnScope ["self"] ["self"] (defScope si_BadSpot) := ⟨rfl, rfl, rfl, by decide +kernel, rfl, by decide +kernel, by decide +kernel⟩
abbrev s__law_bag : Stmt := topS 47
theorem sc__law_bag : FnScope ["_law_script"] ["_law_script"] (defScope s__law_bag) := ⟨rfl, rfl, rfl, by decide +kernel, rfl, by decide +kernel, by decide +kernel⟩
abbrev s__law_pull : Stmt := topS 48
theorem sc__law_pull : FnScope ["_law_bag_here", "_law_size", "_law_cells", "_law_cell", "_law_spot"] ["_law_bag_here", "_law_size"] (defScope s__law_pull) := ⟨rfl, rfl, rfl, by decide +kernel, rfl, by decide +kernel, by decide +kernel⟩
abbrev s__law_due : Stmt := topS 55
theorem sc__law_due : FnScope ["_law_rows", "_law_weight", "_law_body", "_law_numbers", "_law_spot", "_law_number"] ["_law_rows"] (defScope s__law_due) := ⟨rfl, rfl, rfl, by decide +kernel, rfl, by decide +kernel, by decide +kernel⟩
abbrev s__law_like : Stmt := topS 49
theorem sc__law_like : FnScope ["_law_found", "_law_due_here", "_law_at"] ["_law_found", "_law_due_here"] (defScope s__law_like) := ⟨rfl, rfl, rfl, by decide +kernel, rfl, by decide +kernel, by decide +kernel⟩
abbrev s_is_small : Stmt := topS 34
theorem sc_is_small : FnScope ["number", "limit"] ["number", "limit"] (defScope s_is_small) := ⟨rfl, rfl, rfl, by decide +kernel, rfl, by decide +kernel, by decide +kernel⟩
abbrev s_bounded : Stmt := topS 35
theorem sc_bounded : FnScope ["lot", "weight", "body", "corner", "one", "number"] ["lot"] (defScope s_bounded) := ⟨rfl, rfl, rfl, by decide +kernel, rfl, by decide +kernel, by decide +kernel⟩
abbrev s_shared : Stmt := topS 10
theorem sc_shared : FnScope ["one", "other"] ["one", "other"] (defScope s_shared) := ⟨rfl, rfl, rfl, by decide +kernel, rfl, by decide +kernel, by decide +kernel⟩
abbrev s_common_below : Stmt := topS 20
theorem sc_common_below : FnScope ["spots", "found", "spot", "above", "below"] ["spots"] (defScope s_common_below) := ⟨rfl, rfl, rfl, by decide +kernel, rfl, by decide +kernel, by decide +kernel⟩
abbrev s_whole_row : Stmt := topS 21
theorem sc_whole_row : FnScope ["spot", "common", "above", "below"] ["spot", "common"] (defScope s_whole_row) := ⟨rfl, rfl, rfl, by decide +kernel, rfl, by decide +kernel, by decide +kernel⟩
abbrev s_in_order : Stmt := topS 30
theorem sc_in_order : FnScope ["bodies", "common", "by_worth", "body", "key", "corner", "number"] ["bodies"] (defScope s_in_order) := ⟨rfl, rfl, rfl, by decide +kernel, rfl, by decide +kernel, by decide +kernel⟩
abbrev s_gathered : Stmt := topS 36
theorem sc_gathered : FnScope ["rows", "room", "weights", "left", "weight", "body"] ["rows", "room"] (defScope s_gathered) := ⟨rfl, rfl, rfl, by decide +kernel, rfl, by decide +kernel, by decide +kernel⟩
abbrev s_settled_lot : Stmt := topS 37
theorem sc_settled_lot : FnScope ["rows", "room"] ["rows", "room"] (defScope s_settled_lot) := ⟨rfl, rfl, rfl, by decide +kernel, rfl, by decide +kernel, by decide +kernel⟩
abbrev s_rising : Stmt := topS 22
theorem sc_rising : FnScope ["spots", "common", "by_worth", "spot", "key"] ["spots"] (defScope s_rising) := ⟨rfl, rfl, rfl, by decide +kernel, rfl, by decide +kernel, by decide +kernel⟩
abbrev s_order : Stmt := topS 16
theorem sc_order : FnScope ["one", "other", "gap"] ["one", "other"] (defScope s_order) := ⟨rfl, rfl, rfl, by decide +kernel, rfl, by decide +kernel, by decide +kernel⟩
abbrev s_part : Stmt := topS 11
theorem sc_part : FnScope ["above", "below", "divisor"] ["above", "below"] (defScope s_part) := ⟨rfl, rfl, rfl, by decide +kernel, rfl, by decide +kernel, by decide +kernel⟩
abbrev s_minus : Stmt := topS 14
theorem sc_minus : FnScope ["one", "other"] ["one", "other"] (defScope s_minus) := ⟨rfl, rfl, rfl, by decide +kernel, rfl, by decide +kernel, by decide +kernel⟩
abbrev s_times : Stmt := topS 15
theorem sc_times : FnScope ["one", "other"] ["one", "other"] (defScope s_times) := ⟨rfl, rfl, rfl, by decide +kernel, rfl, by decide +kernel, by decide +kernel⟩
abbrev s_across : Stmt := topS 24
theorem sc_across : FnScope ["one", "other"] ["one", "other"] (defScope s_across) := ⟨rfl, rfl, rfl, by decide +kernel, rfl, by decide +kernel, by decide +kernel⟩
abbrev s_step_from : Stmt := topS 23
theorem sc_step_from : FnScope ["one", "other", "first", "second"] ["one", "other"] (defScope s_step_from) := ⟨rfl, rfl, rfl, by decide +kernel, rfl, by decide +kernel, by decide +kernel⟩
abbrev s_side_of : Stmt := topS 25
theorem sc_side_of : FnScope ["start", "end", "spot"] ["start", "end", "spot"] (defScope s_side_of) := ⟨rfl, rfl, rfl, by decide +kernel, rfl, by decide +kernel, by decide +kernel⟩
abbrev s_hull_side : Stmt := topS 27
theorem sc_hull_side : FnScope ["spots", "found", "spot"] ["spots"] (defScope s_hull_side) := ⟨rfl, rfl, rfl, by decide +kernel, rfl, by decide +kernel, by decide +kernel⟩
abbrev s_corners_round : Stmt := topS 28
theorem sc_corners_round : FnScope ["spots", "row", "below", "above"] ["spots"] (defScope s_corners_round) := ⟨rfl, rfl, rfl, by decide +kernel, rfl, by decide +kernel, by decide +kernel⟩
abbrev s_is_whole : Stmt := topS 9
theorem sc_is_whole : FnScope ["thing"] ["thing"] (defScope s_is_whole) := ⟨rfl, rfl, rfl, by decide +kernel, rfl, by decide +kernel, by decide +kernel⟩
abbrev s_is_part : Stmt := topS 12
theorem sc_is_part : FnScope ["thing"] ["thing"] (defScope s_is_part) := ⟨rfl, rfl, rfl, by decide +kernel, rfl, by decide +kernel, by decide +kernel⟩
abbrev s_is_spot : Stmt := topS 19
theorem sc_is_spot : FnScope ["thing", "room", "one"] ["thing", "room"] (defScope s_is_spot) := ⟨rfl, rfl, rfl, by decide +kernel, rfl, by decide +kernel, by decide +kernel⟩
abbrev s_body_of : Stmt := topS 29
theorem sc_body_of : FnScope ["spots", "room", "first", "rest", "spot"] ["spots"] (defScope s_body_of) := ⟨rfl, rfl, rfl, by decide +kernel, rfl, by decide +kernel, by decide +kernel⟩
abbrev s_lot_of : Stmt := topS 38
theorem sc_lot_of : FnScope ["rows", "room", "found", "row", "body"] ["rows", "room"] (defScope s_lot_of) := ⟨rfl, rfl, rfl, by decide +kernel, rfl, by decide +kernel, by decide +kernel⟩
abbrev s_scaled : Stmt := topS 39
theorem sc_scaled : FnScope ["lot", "number", "weight", "body"] ["lot", "number"] (defScope s_scaled) := ⟨rfl, rfl, rfl, by decide +kernel, rfl, by decide +kernel, by decide +kernel⟩
abbrev s_room_from : Stmt := topS 41
theorem sc_room_from : FnScope ["way"] ["way"] (defScope s_room_from) := ⟨rfl, rfl, rfl, by decide +kernel, rfl, by decide +kernel, by decide +kernel⟩
abbrev s_plus : Stmt := topS 13
theorem sc_plus : FnScope ["one", "other"] ["one", "other"] (defScope s_plus) := ⟨rfl, rfl, rfl, by decide +kernel, rfl, by decide +kernel, by decide +kernel⟩
abbrev s_summed : Stmt := topS 42
theorem sc_summed : FnScope ["row", "spot", "last", "step", "one", "steps"] ["row", "spot"] (defScope s_summed) := ⟨rfl, rfl, rfl, by decide +kernel, rfl, by decide +kernel, by decide +kernel⟩
abbrev s_led : Stmt := topS 43
theorem sc_led : FnScope ["way", "spot", "row"] ["way", "spot"] (defScope s_led) := ⟨rfl, rfl, rfl, by decide +kernel, rfl, by decide +kernel, by decide +kernel⟩
abbrev s_carried : Stmt := topS 45
theorem sc_carried : FnScope ["lot", "way", "rows", "weight", "body", "corner"] ["lot", "way"] (defScope s_carried) := ⟨rfl, rfl, rfl, by decide +kernel, rfl, by decide +kernel, by decide +kernel⟩
abbrev s__law_told : Stmt := topS 54
theorem sc__law_told : FnScope ["_law_deed", "_law_thing", "_law_other", "why"] ["_law_deed", "_law_thing", "_law_other"] (defScope s__law_told) := ⟨rfl, rfl, rfl, by decide +kernel, rfl, by decide +kernel, by decide +kernel⟩
abbrev s__law_gcd : Stmt := topS 50
theorem sc__law_gcd : FnScope ["_law_one", "_law_other", "_law_kept"] ["_law_one", "_law_other"] (defScope s__law_gcd) := ⟨rfl, rfl, rfl, by decide +kernel, rfl, by decide +kernel, by decide +kernel⟩
abbrev s__law_frac : Stmt := topS 51
theorem sc__law_frac : FnScope ["_law_above", "_law_below", "_law_divisor"] ["_law_above", "_law_below"] (defScope s__law_frac) := ⟨rfl, rfl, rfl, by decide +kernel, rfl, by decide +kernel, by decide +kernel⟩
abbrev s__law_add : Stmt := topS 52
theorem sc__law_add : FnScope ["_law_one", "_law_other"] ["_law_one", "_law_other"] (defScope s__law_add) := ⟨rfl, rfl, rfl, by decide +kernel, rfl, by decide +kernel, by decide +kernel⟩
abbrev s__law_mul : Stmt := topS 53
theorem sc__law_mul : FnScope ["_law_one", "_law_other"] ["_law_one", "_law_other"] (defScope s__law_mul) := ⟨rfl, rfl, rfl, by decide +kernel, rfl, by decide +kernel, by decide +kernel⟩
abbrev s_law : Stmt := topS 56
theorem sc_law : FnScope ["_law_script", "_law_bag_here", "_law_few", "_law_many", "_law_rows", "_law_edge", "_law_kind", "_law_at", "_law_due_here", "_law_small", "_law_lot", "_law_number", "_law_step", "_law_ends", "_law_weight", "_law_body"] ["_law_script"] (defScope s_law) := ⟨rfl, rfl, rfl, by decide +kernel, rfl, by decide +kernel, by decide +kernel⟩
structure TX (K : Fg) (mg : Str → Option Value) where
  cs : Cs
  ox_Unfit : OxK K (cs "Unfit")
  kC_Unfit : PySem.W.keepIn K (.ref (cs "Unfit")) = true
  fI_Unfit : Addr
  dI_Unfit : FuncData
  FI_Unfit : FunD K "__init__" "Unfit.__init__" (defArgs si_Unfit) (defBody si_Unfit) (defScope si_Unfit) [V.str "Unfit"] [] fI_Unfit dI_Unfit
  i_Unfit : PySem.W.findIn K (.ref (cs "Unfit")) "__init__" = some (some (.ref fI_Unfit))
  ti_Unfit : PySem.W.typeIn K (.ref fI_Unfit) = some (.type "function")
  bi_Unfit : Binds K dI_Unfit ["self", "word"] []
  g_Unfit : mg "Unfit" = some (.ref (cs "Unfit"))
  xf_Unfit : XfC K (cs "Unfit")
  nw_Unfit_word : PySem.W.findIn K (.ref (cs "Unfit")) "word" = some none
  cf_Unfit : ClsF K cs "Unfit" ["word"]
  rd_Unfit : PySem.W.readsIn K (cs "Unfit") (.type "type") = true
  ga_Unfit : PySem.W.specialIn K (.ref (cs "Unfit")) "__getattribute__" = some (some (.builtin "type.__getattribute__"))
  fc_Unfit : PySem.W.findCls K (.ref (cs "Unfit")) (.type "type") "__init__" = some (.val (.ref fI_Unfit))
  ox_TooGreat : OxK K (cs "TooGreat")
  kC_TooGreat : PySem.W.keepIn K (.ref (cs "TooGreat")) = true
  fI_TooGreat : Addr
  dI_TooGreat : FuncData
  FI_TooGreat : Fun K "__init__" "TooGreat.__init__" si_TooGreat fI_TooGreat dI_TooGreat
  i_TooGreat : PySem.W.findIn K (.ref (cs "TooGreat")) "__init__" = some (some (.ref fI_TooGreat))
  ti_TooGreat : PySem.W.typeIn K (.ref fI_TooGreat) = some (.type "function")
  bi_TooGreat : Binds K dI_TooGreat ["self"] []
  g_TooGreat : mg "TooGreat" = some (.ref (cs "TooGreat"))
  xf_TooGreat : XfC K (cs "TooGreat")
  nw_TooGreat_word : PySem.W.findIn K (.ref (cs "TooGreat")) "word" = some none
  cf_TooGreat : ClsF K cs "TooGreat" ["word"]
  ox_TooMany : OxK K (cs "TooMany")
  kC_TooMany : PySem.W.keepIn K (.ref (cs "TooMany")) = true
  fI_TooMany : Addr
  dI_TooMany : FuncData
  FI_TooMany : Fun K "__init__" "TooMany.__init__" si_TooMany fI_TooMany dI_TooMany
  i_TooMany : PySem.W.findIn K (.ref (cs "TooMany")) "__init__" = some (some (.ref fI_TooMany))
  ti_TooMany : PySem.W.typeIn K (.ref fI_TooMany) = some (.type "function")
  bi_TooMany : Binds K dI_TooMany ["self"] []
  g_TooMany : mg "TooMany" = some (.ref (cs "TooMany"))
  xf_TooMany : XfC K (cs "TooMany")
  nw_TooMany_word : PySem.W.findIn K (.ref (cs "TooMany")) "word" = some none
  cf_TooMany : ClsF K cs "TooMany" ["word"]
  ox_OtherRoom : OxK K (cs "OtherRoom")
  kC_OtherRoom : PySem.W.keepIn K (.ref (cs "OtherRoom")) = true
  fI_OtherRoom : Addr
  dI_OtherRoom : FuncData
  FI_OtherRoom : Fun K "__init__" "OtherRoom.__init__" si_OtherRoom fI_OtherRoom dI_OtherRoom
  i_OtherRoom : PySem.W.findIn K (.ref (cs "OtherRoom")) "__init__" = some (some (.ref fI_OtherRoom))
  ti_OtherRoom : PySem.W.typeIn K (.ref fI_OtherRoom) = some (.type "function")
  bi_OtherRoom : Binds K dI_OtherRoom ["self"] []
  g_OtherRoom : mg "OtherRoom" = some (.ref (cs "OtherRoom"))
  xf_OtherRoom : XfC K (cs "OtherRoom")
  nw_OtherRoom_word : PySem.W.findIn K (.ref (cs "OtherRoom")) "word" = some none
  cf_OtherRoom : ClsF K cs "OtherRoom" ["word"]
  ox_BadLot : OxK K (cs "BadLot")
  kC_BadLot : PySem.W.keepIn K (.ref (cs "BadLot")) = true
  fI_BadLot : Addr
  dI_BadLot : FuncData
  FI_BadLot : Fun K "__init__" "BadLot.__init__" si_BadLot fI_BadLot dI_BadLot
  i_BadLot : PySem.W.findIn K (.ref (cs "BadLot")) "__init__" = some (some (.ref fI_BadLot))
  ti_BadLot : PySem.W.typeIn K (.ref fI_BadLot) = some (.type "function")
  bi_BadLot : Binds K dI_BadLot ["self"] []
  g_BadLot : mg "BadLot" = some (.ref (cs "BadLot"))
  xf_BadLot : XfC K (cs "BadLot")
  nw_BadLot_word : PySem.W.findIn K (.ref (cs "BadLot")) "word" = some none
  cf_BadLot : ClsF K cs "BadLot" ["word"]
  ox_Flat : OxK K (cs "Flat")
  kC_Flat : PySem.W.keepIn K (.ref (cs "Flat")) = true
  fI_Flat : Addr
  dI_Flat : FuncData
  FI_Flat : Fun K "__init__" "Flat.__init__" si_Flat fI_Flat dI_Flat
  i_Flat : PySem.W.findIn K (.ref (cs "Flat")) "__init__" = some (some (.ref fI_Flat))
  ti_Flat : PySem.W.typeIn K (.ref fI_Flat) = some (.type "function")
  bi_Flat : Binds K dI_Flat ["self"] []
  g_Flat : mg "Flat" = some (.ref (cs "Flat"))
  xf_Flat : XfC K (cs "Flat")
  nw_Flat_word : PySem.W.findIn K (.ref (cs "Flat")) "word" = some none
  cf_Flat : ClsF K cs "Flat" ["word"]
  ox_BadSpot : OxK K (cs "BadSpot")
  kC_BadSpot : PySem.W.keepIn K (.ref (cs "BadSpot")) = true
  fI_BadSpot : Addr
  dI_BadSpot : FuncData
  FI_BadSpot : Fun K "__init__" "BadSpot.__init__" si_BadSpot fI_BadSpot dI_BadSpot
  i_BadSpot : PySem.W.findIn K (.ref (cs "BadSpot")) "__init__" = some (some (.ref fI_BadSpot))
  ti_BadSpot : PySem.W.typeIn K (.ref fI_BadSpot) = some (.type "function")
  bi_BadSpot : Binds K dI_BadSpot ["self"] []
  g_BadSpot : mg "BadSpot" = some (.ref (cs "BadSpot"))
  xf_BadSpot : XfC K (cs "BadSpot")
  nw_BadSpot_word : PySem.W.findIn K (.ref (cs "BadSpot")) "word" = some none
  cf_BadSpot : ClsF K cs "BadSpot" ["word"]
  em_TooGreat_TooGreat : PySem.W.exmOne K (.ref (cs "TooGreat")) (.ref (cs "TooGreat")) = some true
  em_TooMany_TooGreat : PySem.W.exmOne K (.ref (cs "TooMany")) (.ref (cs "TooGreat")) = some false
  em_TooMany_TooMany : PySem.W.exmOne K (.ref (cs "TooMany")) (.ref (cs "TooMany")) = some true
  is_TooGreat : IsX K (cs "TooGreat")
  ko_TooGreat_TooMany : PySem.W.kitOne K (.ref (cs "TooGreat")) (.ref (cs "TooMany")) = some false
  ko_TooGreat_Unfit : PySem.W.kitOne K (.ref (cs "TooGreat")) (.ref (cs "Unfit")) = some true
  a__law_bag : Addr
  d__law_bag : FuncData
  F__law_bag : Fun K "_law_bag" "_law_bag" s__law_bag a__law_bag d__law_bag
  g__law_bag : mg "_law_bag" = some (.ref a__law_bag)
  b__law_bag : Binds K d__law_bag ["_law_script"] []
  a__law_pull : Addr
  d__law_pull : FuncData
  F__law_pull : Fun K "_law_pull" "_law_pull" s__law_pull a__law_pull d__law_pull
  g__law_pull : mg "_law_pull" = some (.ref a__law_pull)
  b__law_pull : Binds K d__law_pull ["_law_bag_here", "_law_size"] []
  a__law_due : Addr
  d__law_due : FuncData
  F__law_due : Fun K "_law_due" "_law_due" s__law_due a__law_due d__law_due
  g__law_due : mg "_law_due" = some (.ref a__law_due)
  b__law_due : Binds K d__law_due ["_law_rows"] []
  a__law_like : Addr
  d__law_like : FuncData
  F__law_like : Fun K "_law_like" "_law_like" s__law_like a__law_like d__law_like
  g__law_like : mg "_law_like" = some (.ref a__law_like)
  b__law_like : Binds K d__law_like ["_law_found", "_law_due_here"] []
  a_is_small : Addr
  d_is_small : FuncData
  F_is_small : FunD K "is_small" "is_small" (defArgs s_is_small) (defBody s_is_small) (defScope s_is_small) [] [("limit", V.int 1000000000000000000)] a_is_small d_is_small
  g_is_small : mg "is_small" = some (.ref a_is_small)
  kb_is_small : KBn K d_is_small ["number", "limit"] 1 ["limit"] (fun us ws => us ++ ws) (fun vs zs => vs ++ zs)
  e1_is_small : List Value
  v1_is_small : Vals [V.int 1000000000000000000] e1_is_small
  b1_is_small : Binds K d_is_small ["number", "limit"] e1_is_small
  a_bounded : Addr
  d_bounded : FuncData
  F_bounded : Fun K "bounded" "bounded" s_bounded a_bounded d_bounded
  g_bounded : mg "bounded" = some (.ref a_bounded)
  b_bounded : Binds K d_bounded ["lot"] []
  a_shared : Addr
  d_shared : FuncData
  F_shared : Fun K "shared" "shared" s_shared a_shared d_shared
  g_shared : mg "shared" = some (.ref a_shared)
  b_shared : Binds K d_shared ["one", "other"] []
  a_common_below : Addr
  d_common_below : FuncData
  F_common_below : Fun K "common_below" "common_below" s_common_below a_common_below d_common_below
  g_common_below : mg "common_below" = some (.ref a_common_below)
  b_common_below : Binds K d_common_below ["spots"] []
  a_whole_row : Addr
  d_whole_row : FuncData
  F_whole_row : Fun K "whole_row" "whole_row" s_whole_row a_whole_row d_whole_row
  g_whole_row : mg "whole_row" = some (.ref a_whole_row)
  b_whole_row : Binds K d_whole_row ["spot", "common"] []
  a_in_order : Addr
  d_in_order : FuncData
  F_in_order : Fun K "in_order" "in_order" s_in_order a_in_order d_in_order
  g_in_order : mg "in_order" = some (.ref a_in_order)
  b_in_order : Binds K d_in_order ["bodies"] []
  a_gathered : Addr
  d_gathered : FuncData
  F_gathered : Fun K "gathered" "gathered" s_gathered a_gathered d_gathered
  g_gathered : mg "gathered" = some (.ref a_gathered)
  b_gathered : Binds K d_gathered ["rows", "room"] []
  a_settled_lot : Addr
  d_settled_lot : FuncData
  F_settled_lot : Fun K "settled_lot" "settled_lot" s_settled_lot a_settled_lot d_settled_lot
  g_settled_lot : mg "settled_lot" = some (.ref a_settled_lot)
  b_settled_lot : Binds K d_settled_lot ["rows", "room"] []
  a_rising : Addr
  d_rising : FuncData
  F_rising : Fun K "rising" "rising" s_rising a_rising d_rising
  g_rising : mg "rising" = some (.ref a_rising)
  b_rising : Binds K d_rising ["spots"] []
  a_order : Addr
  d_order : FuncData
  F_order : Fun K "order" "order" s_order a_order d_order
  g_order : mg "order" = some (.ref a_order)
  b_order : Binds K d_order ["one", "other"] []
  a_part : Addr
  d_part : FuncData
  F_part : FunD K "part" "part" (defArgs s_part) (defBody s_part) (defScope s_part) [V.int 1] [] a_part d_part
  g_part : mg "part" = some (.ref a_part)
  b_part : Binds K d_part ["above", "below"] []
  e1_part : List Value
  v1_part : Vals [V.int 1] e1_part
  b1_part : Binds K d_part ["above", "below"] e1_part
  a_minus : Addr
  d_minus : FuncData
  F_minus : Fun K "minus" "minus" s_minus a_minus d_minus
  g_minus : mg "minus" = some (.ref a_minus)
  b_minus : Binds K d_minus ["one", "other"] []
  a_times : Addr
  d_times : FuncData
  F_times : Fun K "times" "times" s_times a_times d_times
  g_times : mg "times" = some (.ref a_times)
  b_times : Binds K d_times ["one", "other"] []
  a_across : Addr
  d_across : FuncData
  F_across : Fun K "across" "across" s_across a_across d_across
  g_across : mg "across" = some (.ref a_across)
  b_across : Binds K d_across ["one", "other"] []
  a_step_from : Addr
  d_step_from : FuncData
  F_step_from : Fun K "step_from" "step_from" s_step_from a_step_from d_step_from
  g_step_from : mg "step_from" = some (.ref a_step_from)
  b_step_from : Binds K d_step_from ["one", "other"] []
  a_side_of : Addr
  d_side_of : FuncData
  F_side_of : Fun K "side_of" "side_of" s_side_of a_side_of d_side_of
  g_side_of : mg "side_of" = some (.ref a_side_of)
  b_side_of : Binds K d_side_of ["start", "end", "spot"] []
  a_hull_side : Addr
  d_hull_side : FuncData
  F_hull_side : Fun K "hull_side" "hull_side" s_hull_side a_hull_side d_hull_side
  g_hull_side : mg "hull_side" = some (.ref a_hull_side)
  b_hull_side : Binds K d_hull_side ["spots"] []
  a_corners_round : Addr
  d_corners_round : FuncData
  F_corners_round : Fun K "corners_round" "corners_round" s_corners_round a_corners_round d_corners_round
  g_corners_round : mg "corners_round" = some (.ref a_corners_round)
  b_corners_round : Binds K d_corners_round ["spots"] []
  a_is_whole : Addr
  d_is_whole : FuncData
  F_is_whole : Fun K "is_whole" "is_whole" s_is_whole a_is_whole d_is_whole
  g_is_whole : mg "is_whole" = some (.ref a_is_whole)
  b_is_whole : Binds K d_is_whole ["thing"] []
  a_is_part : Addr
  d_is_part : FuncData
  F_is_part : Fun K "is_part" "is_part" s_is_part a_is_part d_is_part
  g_is_part : mg "is_part" = some (.ref a_is_part)
  b_is_part : Binds K d_is_part ["thing"] []
  a_is_spot : Addr
  d_is_spot : FuncData
  F_is_spot : FunD K "is_spot" "is_spot" (defArgs s_is_spot) (defBody s_is_spot) (defScope s_is_spot) [] [("room", V.int 2)] a_is_spot d_is_spot
  g_is_spot : mg "is_spot" = some (.ref a_is_spot)
  kb_is_spot : KBn K d_is_spot ["thing", "room"] 1 ["room"] (fun us ws => us ++ ws) (fun vs zs => vs ++ zs)
  e1_is_spot : List Value
  v1_is_spot : Vals [V.int 2] e1_is_spot
  b1_is_spot : Binds K d_is_spot ["thing", "room"] e1_is_spot
  a_body_of : Addr
  d_body_of : FuncData
  F_body_of : Fun K "body_of" "body_of" s_body_of a_body_of d_body_of
  g_body_of : mg "body_of" = some (.ref a_body_of)
  b_body_of : Binds K d_body_of ["spots"] []
  a_lot_of : Addr
  d_lot_of : FuncData
  F_lot_of : FunD K "lot_of" "lot_of" (defArgs s_lot_of) (defBody s_lot_of) (defScope s_lot_of) [] [("room", V.int 2)] a_lot_of d_lot_of
  g_lot_of : mg "lot_of" = some (.ref a_lot_of)
  kb_lot_of : KBn K d_lot_of ["rows", "room"] 1 ["room"] (fun us ws => us ++ ws) (fun vs zs => vs ++ zs)
  e1_lot_of : List Value
  v1_lot_of : Vals [V.int 2] e1_lot_of
  b1_lot_of : Binds K d_lot_of ["rows", "room"] e1_lot_of
  a_scaled : Addr
  d_scaled : FuncData
  F_scaled : Fun K "scaled" "scaled" s_scaled a_scaled d_scaled
  g_scaled : mg "scaled" = some (.ref a_scaled)
  b_scaled : Binds K d_scaled ["lot", "number"] []
  a_room_from : Addr
  d_room_from : FuncData
  F_room_from : Fun K "room_from" "room_from" s_room_from a_room_from d_room_from
  g_room_from : mg "room_from" = some (.ref a_room_from)
  b_room_from : Binds K d_room_from ["way"] []
  a_plus : Addr
  d_plus : FuncData
  F_plus : Fun K "plus" "plus" s_plus a_plus d_plus
  g_plus : mg "plus" = some (.ref a_plus)
  b_plus : Binds K d_plus ["one", "other"] []
  a_summed : Addr
  d_summed : FuncData
  F_summed : Fun K "summed" "summed" s_summed a_summed d_summed
  g_summed : mg "summed" = some (.ref a_summed)
  b_summed : Binds K d_summed ["row", "spot"] []
  a_led : Addr
  d_led : FuncData
  F_led : Fun K "led" "led" s_led a_led d_led
  g_led : mg "led" = some (.ref a_led)
  b_led : Binds K d_led ["way", "spot"] []
  a_carried : Addr
  d_carried : FuncData
  F_carried : Fun K "carried" "carried" s_carried a_carried d_carried
  g_carried : mg "carried" = some (.ref a_carried)
  b_carried : Binds K d_carried ["lot", "way"] []
  a__law_told : Addr
  d__law_told : FuncData
  F__law_told : Fun K "_law_told" "_law_told" s__law_told a__law_told d__law_told
  g__law_told : mg "_law_told" = some (.ref a__law_told)
  b__law_told : Binds K d__law_told ["_law_deed", "_law_thing", "_law_other"] []
  a__law_gcd : Addr
  d__law_gcd : FuncData
  F__law_gcd : Fun K "_law_gcd" "_law_gcd" s__law_gcd a__law_gcd d__law_gcd
  g__law_gcd : mg "_law_gcd" = some (.ref a__law_gcd)
  b__law_gcd : Binds K d__law_gcd ["_law_one", "_law_other"] []
  a__law_frac : Addr
  d__law_frac : FuncData
  F__law_frac : Fun K "_law_frac" "_law_frac" s__law_frac a__law_frac d__law_frac
  g__law_frac : mg "_law_frac" = some (.ref a__law_frac)
  b__law_frac : Binds K d__law_frac ["_law_above", "_law_below"] []
  a__law_add : Addr
  d__law_add : FuncData
  F__law_add : Fun K "_law_add" "_law_add" s__law_add a__law_add d__law_add
  g__law_add : mg "_law_add" = some (.ref a__law_add)
  b__law_add : Binds K d__law_add ["_law_one", "_law_other"] []
  a__law_mul : Addr
  d__law_mul : FuncData
  F__law_mul : Fun K "_law_mul" "_law_mul" s__law_mul a__law_mul d__law_mul
  g__law_mul : mg "_law_mul" = some (.ref a__law_mul)
  b__law_mul : Binds K d__law_mul ["_law_one", "_law_other"] []
  n_abs : mg "abs" = none
  n_all : mg "all" = none
  n_any : mg "any" = none
  n_bool : mg "bool" = none
  n_int : mg "int" = none
  n_isinstance : mg "isinstance" = none
  n_len : mg "len" = none
  n_list : mg "list" = none
  n_max : mg "max" = none
  n_range : mg "range" = none
  n_sorted : mg "sorted" = none
  n_str : mg "str" = none
  n_tuple : mg "tuple" = none
  n_zip : mg "zip" = none
  tk_LIMIT : Tok
  c_LIMIT : mg "LIMIT" = some (Value.int 1000000000000000000 tk_LIMIT)
  tk_MOST : Tok
  c_MOST : mg "MOST" = some (Value.int 2000 tk_MOST)
section
variable {Pg : Program} {w : World} {K : Fg} {mg : Str → Option Value} {base : Heap} {cs : Cs} {gs : Gs}
theorem ok_Unfit (T : TX K mg) : FnOk Pg w K mg base CX0 1 T.fI_Unfit T.dI_Unfit ["self", "word"] (spIn K ["word"] gWd) :=
  okWd T.FI_Unfit sci_Unfit (fun cdv A outer sh H E => (pss_one (ps_ox (pv 0) (pv 1))))
theorem ok_TooGreat (T : TX K mg) : FnOk Pg w K mg base CX0 2 T.fI_TooGreat T.dI_TooGreat ["self"] (spIn K ["word"] (gCw "TooGreat")) :=
  okSub "TooGreat" T.FI_TooGreat sci_TooGreat (fun cdv A outer sh H E hr => (pss_one (ps_expr (pe_up (by rfl) T.g_Unfit T.rd_Unfit T.ga_Unfit T.fc_Unfit T.FI_Unfit.kp (ok_Unfit T) (hr.mono (by decide)) T.bi_Unfit .nil pass0 (pa_cons (pv 0) (pa_cons pe_str pa_nil))))))
theorem ok_TooMany (T : TX K mg) : FnOk Pg w K mg base CX0 2 T.fI_TooMany T.dI_TooMany ["self"] (spIn K ["word"] (gCw "TooMany")) :=
  okSub "TooMany" T.FI_TooMany sci_TooMany (fun cdv A outer sh H E hr => (pss_one (ps_expr (pe_up (by rfl) T.g_Unfit T.rd_Unfit T.ga_Unfit T.fc_Unfit T.FI_Unfit.kp (ok_Unfit T) (hr.mono (by decide)) T.bi_Unfit .nil pass0 (pa_cons (pv 0) (pa_cons pe_str pa_nil))))))
theorem ok_OtherRoom (T : TX K mg) : FnOk Pg w K mg base CX0 2 T.fI_OtherRoom T.dI_OtherRoom ["self"] (spIn K ["word"] (gCw "OtherRoom")) :=
  okSub "OtherRoom" T.FI_OtherRoom sci_OtherRoom (fun cdv A outer sh H E hr => (pss_one (ps_expr (pe_up (by rfl) T.g_Unfit T.rd_Unfit T.ga_Unfit T.fc_Unfit T.FI_Unfit.kp (ok_Unfit T) (hr.mono (by decide)) T.bi_Unfit .nil pass0 (pa_cons (pv 0) (pa_cons pe_str pa_nil))))))
theorem ok_BadLot (T : TX K mg) : FnOk Pg w K mg base CX0 2 T.fI_BadLot T.dI_BadLot ["self"] (spIn K ["word"] (gCw "BadLot")) :=
  okSub "BadLot" T.FI_BadLot sci_BadLot (fun cdv A outer sh H E hr => (pss_one (ps_expr (pe_up (by rfl) T.g_Unfit T.rd_Unfit T.ga_Unfit T.fc_Unfit T.FI_Unfit.kp (ok_Unfit T) (hr.mono (by decide)) T.bi_Unfit .nil pass0 (pa_cons (pv 0) (pa_cons pe_str pa_nil))))))
theorem ok_Flat (T : TX K mg) : FnOk Pg w K mg base CX0 1 T.fI_Flat T.dI_Flat ["self"] (spIn K ["word"] gFlat) :=
  okFlat T.FI_Flat sci_Flat (fun cdv A outer sh H E => (pss_one (ps_ox (pv 0) pe_str)))
theorem ok_BadSpot (T : TX K mg) : FnOk Pg w K mg base CX0 2 T.fI_BadSpot T.dI_BadSpot ["self"] (spIn K ["word"] (gCw "BadSpot")) :=
  okSub "BadSpot" T.FI_BadSpot sci_BadSpot (fun cdv A outer sh H E hr => (pss_one (ps_expr (pe_up (by rfl) T.g_Unfit T.rd_Unfit T.ga_Unfit T.fc_Unfit T.FI_Unfit.kp (ok_Unfit T) (hr.mono (by decide)) T.bi_Unfit .nil pass0 (pa_cons (pv 0) (pa_cons pe_str pa_nil))))))
theorem ok__law_bag (T : TX K mg) : FnOk Pg w K mg base CX0 1 T.a__law_bag T.d__law_bag ["_law_script"] (spBag K) := by
  refine T.F__law_bag.ok sc__law_bag (fun vs H Q E h => ?_) (fun cdv A outer sh H vs Q E hr h => ?_)
  · obtain ⟨W, ns, _, hd, _⟩ := h
    exact dpa_len hd
  · obtain ⟨W, ns, hW, hd, hl, q⟩ := h
    obtain ⟨v, rfl, dv⟩ := dp1 hd
    exact ⟨t__law_bag K, (pss_one (ps_ret (pe_lst (pa_cons (pe_callTy c_list (by rfl) T.n_list (by decide +kernel) (pa_cons (pe_slice sl_list (pv 0) po_none (po_some pe_int)) pa_nil)) (pa_cons pe_int (pa_cons pe_int pa_nil)))))), rd__law_bag dv hl q⟩
theorem ok__law_pull (T : TX K mg) : FnOk Pg w K mg base CX0 1 T.a__law_pull T.d__law_pull ["_law_bag_here", "_law_size"] (spB K P_pull) := by
  refine T.F__law_pull.ok sc__law_pull (fun vs H Q E h => ?_) (fun cdv A outer sh H vs Q E hr h => ?_)
  · obtain ⟨W, b, c, us, s, ds, r, s', _, rfl, _, hd, hp, _⟩ := h
    rw [List.length_cons, dpa_len hd]
    exact ln__law_pull s ds r s' hp
  · obtain ⟨W, b, c, us, s, ds, r, s', hW, rfl, hB, hd, ⟨n, rfl, h0, h1, rfl, rfl⟩, q⟩ := h
    obtain ⟨v, rfl, dv⟩ := dp1 hd
    cases dv
    exact ⟨t__law_pull K, (pss_cons (ps_set (i := 2) sc__law_pull.nd rfl (by first | exact Or.inl rfl | exact Or.inr rfl) (pe_ix ix_seq (pv 0) pe_int (fun _ _ => rfl)))
      (pss_cons (ps_set (i := 3) sc__law_pull.nd rfl (by first | exact Or.inl rfl | exact Or.inr rfl) pe_int)
      (pss_cons (ps_if (pt_cmpR op_gt (pe_callB c_len (by rfl) T.n_len PySem.boot_len (pa_cons (pv 2) pa_nil)) pe_int (nomark _)) (pss_cons (ps_set (i := 4) sc__law_pull.nd rfl (by first | exact Or.inl rfl | exact Or.inr rfl) (pe_op op_modX (pe_ix ix_seq (pv 0) pe_int (fun _ _ => rfl)) (pe_callB c_len (by rfl) T.n_len PySem.boot_len (pa_cons (pv 2) pa_nil))))
      (pss_cons (ps_set (i := 3) sc__law_pull.nd rfl (by first | exact Or.inl rfl | exact Or.inr rfl) (pe_ix ix_seq (pv 2) (pv 4) (fun _ _ => rfl)))
      (pss_one (ps_if (pt_cmpR op_ge (pe_callB c_abs (by rfl) T.n_abs (by decide +kernel) (pa_cons (pv 3) pa_nil)) (pe_op op_pow pe_int pe_int) (nomark _)) (pss_cons (ps_asg (pe_op op_fdivX (pv 3) (pv 1)) (pg_sub (pv 2) (pv 4) set_list))
      (pss_one (ps_ret (pe_op op_modX (pv 3) (pv 1))))) pss_nil)))) pss_nil)
      (pss_cons (ps_asg (pe_op op_add (pe_ix ix_seq (pv 0) pe_int (fun _ _ => rfl)) pe_int) (pg_sub (pv 0) pe_int set_list))
      (pss_cons (ps_asg (pe_op op_modX (pe_op op_add (pe_op op_add (pe_op op_mulW (pe_ix ix_seq (pv 0) pe_int (fun _ _ => rfl)) pe_int) (pe_op op_modX (pv 3) pe_int)) (pe_ix ix_seq (pv 0) pe_int (fun _ _ => rfl))) pe_int) (pg_sub (pv 0) pe_int set_list))
      (pss_one (ps_ret (pe_op op_modX (pe_op op_fdivX (pe_op op_modX (pe_op op_add (pe_op op_mulW (pe_ix ix_seq (pv 0) pe_int (fun _ _ => rfl)) pe_int) (pe_op op_fdivX (pe_ix ix_seq (pv 0) pe_int (fun _ _ => rfl)) pe_int)) pe_int) pe_int) (pv 1))))))))), rd__law_pull hB h0 h1 q⟩
theorem ok__law_due (T : TX K mg) : FnOk Pg w K mg base CX0 1 T.a__law_due T.d__law_due ["_law_rows"] (spW0 K P_ldue20) :=
  okW T.cs T.F__law_due sc__law_due ln_ldue20 (fun ds A h cdv Ar outer sh H E hr => ⟨t_ldue20 K, (pss_cons (ps_if (pt_cmpR op_gtI (pe_callB c_len (by rfl) T.n_len PySem.boot_len (pa_cons (pv 0) pa_nil)) pe_int (nomark _)) (pss_one (ps_ret (pe_lst (pa_cons pe_str pa_nil)))) pss_nil)
      (pss_cons (ps_for PassesOwn.never rfl (pi_list (pv 0)) (pg_tup rfl (pgs_cons (pg_name (i := 1) sc__law_due.nd rfl (by first | exact Or.inl rfl | exact Or.inr rfl)) (pgs_cons (pg_name (i := 2) sc__law_due.nd rfl (by first | exact Or.inl rfl | exact Or.inr rfl)) pgs_nil))) (pss_cons (ps_set (i := 3) sc__law_due.nd rfl (by first | exact Or.inl rfl | exact Or.inr rfl) (pe_lst (pa_cons (pv 1) pa_nil)))
      (pss_cons (ps_for PassesOwn.never rfl (pi_tup (pv 2)) (pg_name (i := 4) sc__law_due.nd rfl (by first | exact Or.inl rfl | exact Or.inr rfl)) (pss_one (ps_expr (pe_bm PySem.F.plainAttrs_list PySem.F.slot_list_extend PySem.F.type_list_extend mt_extend (pv 3) (pa_cons (pe_callTy c_list (by rfl) T.n_list (by decide +kernel) (pa_cons (pe_ix ix_seq (pv 4) pe_int (fun _ _ => rfl)) pa_nil)) pa_nil)))))
      (pss_one (ps_if (pt_val (pe_callB (cr_any rfl) (by rfl) T.n_any (by decide +kernel) (pa_cons (pe_lc (own := [("_law_number", 5)]) (g := (gName 5)) (tt := tYes) rfl sc__law_due.nd (pi_list (pv 3)) (blkOk_by (own := [("_law_number", 5)]) (N := ["_law_rows", "_law_weight", "_law_body", "_law_numbers", "_law_spot", "_law_number"]) (sc := defScope s__law_due) (by decide +kernel)) (fun _ _ _ _ _ => (pg_name (i := 5) sc__law_due.nd rfl (by first | exact Or.inl rfl | exact Or.inr rfl))) (fun _ _ _ _ _ => pts_nil) (fun _ _ _ _ _ => (pe_cmpR op_gtI (pe_callB c_abs (by rfl) T.n_abs (by decide +kernel) (pa_cons (pv 5) pa_nil)) (pe_op op_powI pe_int pe_int) (nomark _)))) pa_nil))) (pss_one (ps_ret (pe_lst (pa_cons pe_str pa_nil)))) pss_nil)))))
      (pss_one (ps_ret (pe_tup (pa_cons pe_int (pa_cons (pe_callTy c_tuple (by rfl) T.n_tuple (by decide +kernel) (pa_cons (pv 0) pa_nil)) pa_nil))))))), rd_ldue20 h⟩)
theorem ok__law_like (T : TX K mg) : ∀ n, FnOk Pg w K mg base CX0 n T.a__law_like T.d__law_like ["_law_found", "_law_due_here"] (spP K (P_like n))
  | 0 => fnok_false
  | n + 1 => okP T.F__law_like sc__law_like ln__law_like (fun ds r h cdv A outer sh H E hr => ⟨t__law_like K n, (pss_cons (ps_if (pt_val (pe_callB call_isiT (by rfl) T.n_isinstance (by decide +kernel) (pa_cons (pv 1) (pa_cons (pe_tup (pa_cons (pe_bltn (v := .ty "tuple") (by rfl) T.n_tuple (by decide +kernel) rfl) (pa_cons (pe_bltn (v := .ty "list") (by rfl) T.n_list (by decide +kernel) rfl) pa_nil))) pa_nil)))) (pss_cons (ps_if (pt_cmpR op_ne (pe_callB call_isi (by rfl) T.n_isinstance (by decide +kernel) (pa_cons (pv 0) (pa_cons (pe_bltn (v := .ty "tuple") (by rfl) T.n_tuple (by decide +kernel) rfl) pa_nil))) (pe_callB call_isi (by rfl) T.n_isinstance (by decide +kernel) (pa_cons (pv 1) (pa_cons (pe_bltn (v := .ty "tuple") (by rfl) T.n_tuple (by decide +kernel) rfl) pa_nil))) (nomark _)) (pss_one (ps_ret pe_bl)) pss_nil)
      (pss_cons (ps_if (PW.pt (pw_or (pt_not (pt_val (pe_callB call_isiT (by rfl) T.n_isinstance (by decide +kernel) (pa_cons (pv 0) (pa_cons (pe_tup (pa_cons (pe_bltn (v := .ty "tuple") (by rfl) T.n_tuple (by decide +kernel) rfl) (pa_cons (pe_bltn (v := .ty "list") (by rfl) T.n_list (by decide +kernel) rfl) pa_nil))) pa_nil))))) (pw_or1 (pt_cmpR op_ne (pe_callB c_len (by rfl) T.n_len PySem.boot_len (pa_cons (pv 0) pa_nil)) (pe_callB c_len (by rfl) T.n_len PySem.boot_len (pa_cons (pv 1) pa_nil)) (nomark _))))) (pss_one (ps_ret pe_bl)) pss_nil)
      (pss_one (ps_ret (pe_callB (cr_all rfl) (by rfl) T.n_all (by decide +kernel) (pa_cons (pe_lc (own := [("_law_at", 2)]) (g := (gName 2)) (tt := tYes) rfl sc__law_like.nd (pi_range1 (by rfl) T.n_range (pa_cons (pe_callB c_len (by rfl) T.n_len PySem.boot_len (pa_cons (pv 1) pa_nil)) pa_nil)) (blkOk_by (own := [("_law_at", 2)]) (N := ["_law_found", "_law_due_here", "_law_at"]) (sc := defScope s__law_like) (by decide +kernel)) (fun _ _ _ _ _ => (pg_name (i := 2) sc__law_like.nd rfl (by first | exact Or.inl rfl | exact Or.inr rfl))) (fun _ _ _ _ _ => pts_nil) (fun _ _ _ _ _ => (pe_call (ok__law_like T n) hr (by rfl) T.g__law_like T.F__law_like.kp T.b__law_like .nil pass0 (pa_cons (pe_ix ix_seq (pv 0) (pv 2) (fun _ _ => rfl)) (pa_cons (pe_ix ix_seq (pv 1) (pv 2) (fun _ _ => rfl)) pa_nil))))) pa_nil)))))) pss_nil)
      (pss_cons (ps_if (pt_val (pe_callB call_isi (by rfl) T.n_isinstance (by decide +kernel) (pa_cons (pv 1) (pa_cons (pe_bltn (v := .ty "bool") (by rfl) T.n_bool (by decide +kernel) rfl) pa_nil)))) (pss_one (ps_ret (pe_and (pe_callB call_isi (by rfl) T.n_isinstance (by decide +kernel) (pa_cons (pv 0) (pa_cons (pe_bltn (v := .ty "bool") (by rfl) T.n_bool (by decide +kernel) rfl) pa_nil))) (pe_one (pe_cmpR op_eq (pv 0) (pv 1) (nomark _)))))) pss_nil)
      (pss_cons (ps_if (pt_val (pe_callB call_isi (by rfl) T.n_isinstance (by decide +kernel) (pa_cons (pv 1) (pa_cons (pe_bltn (v := .ty "int") (by rfl) T.n_int (by decide +kernel) rfl) pa_nil)))) (pss_one (ps_ret (pe_and (pe_callB call_isi (by rfl) T.n_isinstance (by decide +kernel) (pa_cons (pv 0) (pa_cons (pe_bltn (v := .ty "int") (by rfl) T.n_int (by decide +kernel) rfl) pa_nil))) (pe_and (pe_not (pe_callB call_isi (by rfl) T.n_isinstance (by decide +kernel) (pa_cons (pv 0) (pa_cons (pe_bltn (v := .ty "bool") (by rfl) T.n_bool (by decide +kernel) rfl) pa_nil)))) (pe_one (pe_cmpR op_eq (pv 0) (pv 1) (nomark _))))))) pss_nil)
      (pss_cons (ps_if (pt_val (pe_callB call_isi (by rfl) T.n_isinstance (by decide +kernel) (pa_cons (pv 1) (pa_cons (pe_bltn (v := .ty "str") (by rfl) T.n_str (by decide +kernel) rfl) pa_nil)))) (pss_one (ps_ret (pe_and (pe_callB call_isi (by rfl) T.n_isinstance (by decide +kernel) (pa_cons (pv 0) (pa_cons (pe_bltn (v := .ty "str") (by rfl) T.n_str (by decide +kernel) rfl) pa_nil))) (pe_one (pe_cmpR op_eq (pv 0) (pv 1) (nomark _)))))) pss_nil)
      (pss_one (ps_ret (pe_and (pe_cmpR o_isN (pv 1) pe_non (nomark _)) (pe_one (pe_cmpR o_isN (pv 0) pe_non (nomark _)))))))))), rd__law_like h⟩)
theorem ok_is_small (T : TX K mg) : FnOk Pg w K mg base CX0 1 T.a_is_small T.d_is_small ["number", "limit"] (spW0 K P_small) :=
  okWD T.cs T.F_is_small sc_is_small ln_is_small (fun ds A h cdv Ar outer sh H E hr => ⟨t_is_small K, (pss_one (ps_ret (pe_chain op_leI op_leI (pe_un un_negI (pv 1)) (pv 0) (pv 1)))), rd_is_small h⟩)
theorem ok_bounded (T : TX K mg) : FnOk Pg w K mg base (L2.CX Pg w) 4 T.a_bounded T.d_bounded ["lot"] (spW K T.cs P_bounded) :=
  okWX T.F_bounded sc_bounded ln_bounded (fun ds A h cdv Ar outer sh H E hr => ⟨t_bounded K T.cs (WD E), (pss_cons (ps_if (pt_cmpR op_gtI (pe_callB c_len (by rfl) T.n_len PySem.boot_len (pa_cons (pe_ix ix_seq (pv 0) pe_int (fun _ _ => rfl)) pa_nil)) (pe_glob (v := V.int 2000) (by rfl) T.c_MOST ⟨_, rfl⟩) (nomark _)) (pss_one (ps_raise rfl (takes_of rfl rfl rfl rfl) (pmk_ox0 T.ox_TooMany T.kC_TooMany T.i_TooMany T.ti_TooMany (ok_TooMany T) (hr.mono (by decide)) T.bi_TooMany .nil pass0 (by rfl) T.g_TooMany))) pss_nil)
      (pss_cons (ps_for (passes_of rfl) rfl (pi_tup (pe_ix ix_seq (pv 0) pe_int (fun _ _ => rfl))) (pg_tup rfl (pgs_cons (pg_name (i := 1) sc_bounded.nd rfl (by first | exact Or.inl rfl | exact Or.inr rfl)) (pgs_cons (pg_name (i := 2) sc_bounded.nd rfl (by first | exact Or.inl rfl | exact Or.inr rfl)) pgs_nil))) (pss_cons (ps_if (pt_not (pt_val (pe_call (ok_is_small T) (hr.mono (by decide)) (by rfl) T.g_is_small T.F_is_small.kp T.b1_is_small T.v1_is_small pass0 (pa_cons (pv 1) pa_nil)))) (pss_one (ps_raise rfl (takes_of rfl rfl rfl rfl) (pmk_ox0 T.ox_TooGreat T.kC_TooGreat T.i_TooGreat T.ti_TooGreat (ok_TooGreat T) (hr.mono (by decide)) T.bi_TooGreat .nil pass0 (by rfl) T.g_TooGreat))) pss_nil)
      (pss_one (ps_if (pt_not (pt_val (pe_callB (cr_all rfl) (by rfl) T.n_all (by decide +kernel) (pa_cons (pe_lcN (own := [("corner", 3), ("one", 4), ("number", 5)]) (g := (gName 3)) (tt := tYes) rfl sc_bounded.nd (pi_tup (pv 2)) (blkOk_by (own := [("corner", 3), ("one", 4), ("number", 5)]) (N := ["lot", "weight", "body", "corner", "one", "number"]) (sc := defScope s_bounded) (by decide +kernel)) (fun _ _ _ _ _ => (pg_name (i := 3) sc_bounded.nd rfl (by first | exact Or.inl rfl | exact Or.inr rfl))) (fun _ _ _ _ _ => pts_nil) (lcC_ok (own := [("corner", 3), ("one", 4), ("number", 5)]) (vs1 := [4, 5]) (vs2 := [5]) rfl rfl rfl (fun _ _ _ _ _ => (pi_tup (pv 3))) (fun _ _ _ _ _ => (pg_name (i := 4) sc_bounded.nd rfl (by first | exact Or.inl rfl | exact Or.inr rfl))) (fun _ _ _ _ _ => pts_nil) (fun _ _ _ _ _ => (pi_tup (pv 4))) (fun _ _ _ _ _ => (pg_name (i := 5) sc_bounded.nd rfl (by first | exact Or.inl rfl | exact Or.inr rfl))) (fun _ _ _ _ _ => pts_nil) (fun _ _ _ _ _ => (pe_call (ok_is_small T) (hr.mono (by decide)) (by rfl) T.g_is_small T.F_is_small.kp T.b1_is_small T.v1_is_small pass0 (pa_cons (pv 5) pa_nil))))) pa_nil)))) (pss_one (ps_raise rfl (takes_of rfl rfl rfl rfl) (pmk_ox0 T.ox_TooGreat T.kC_TooGreat T.i_TooGreat T.ti_TooGreat (ok_TooGreat T) (hr.mono (by decide)) T.bi_TooGreat .nil pass0 (by rfl) T.g_TooGreat))) pss_nil))))
      (pss_one (ps_ret (pv 0))))), rd_bounded T.cf_TooMany T.cf_TooGreat h (WD E)⟩)
theorem ok_shared (T : TX K mg) : FnOk Pg w K mg base CX0 1 T.a_shared T.d_shared ["one", "other"] (spP K P_gcd) :=
  okP T.F_shared sc_shared ln_shared (fun ds r h cdv A outer sh H E hr => ⟨t_shared K, (pss_cons (ps_par (i := 0) (j := 1) (by rfl) sc_shared.nd rfl rfl (by decide) rfl rfl (pa_cons (pe_callB c_abs (by rfl) T.n_abs (by decide +kernel) (pa_cons (pv 0) pa_nil)) (pa_cons (pe_callB c_abs (by rfl) T.n_abs (by decide +kernel) (pa_cons (pv 1) pa_nil)) pa_nil)) (by rfl))
      (pss_cons (ps_while PassesOwn.never (pt_cmpR op_gt (pv 1) pe_int (nomark _)) (pss_one (ps_par (i := 0) (j := 1) (by rfl) sc_shared.nd rfl rfl (by decide) rfl rfl (pa_cons (pv 1) (pa_cons (pe_op op_modX (pv 0) (pv 1)) pa_nil)) (by rfl))))
      (pss_one (ps_ret (pe_callB (c_max2 rfl) (by rfl) T.n_max (by decide +kernel) (pa_cons (pv 0) (pa_cons pe_int pa_nil))))))), rd_shared h⟩)
theorem ok_common_below (T : TX K mg) : FnOk Pg w K mg base CX0 2 T.a_common_below T.d_common_below ["spots"] (spW0 K P_cb) :=
  okW T.cs T.F_common_below sc_common_below ln_common_below (fun ds A h cdv Ar outer sh H E hr => ⟨t_common_below K, (pss_cons (ps_set (i := 1) sc_common_below.nd rfl (by first | exact Or.inl rfl | exact Or.inr rfl) pe_int)
      (pss_cons (ps_for PassesOwn.never rfl (pi_seq (pv 0)) (pg_name (i := 2) sc_common_below.nd rfl (by first | exact Or.inl rfl | exact Or.inr rfl)) (pss_one (ps_for PassesOwn.never rfl (pi_tup (pv 2)) (pg_tup rfl (pgs_cons (pg_name (i := 3) sc_common_below.nd rfl (by first | exact Or.inl rfl | exact Or.inr rfl)) (pgs_cons (pg_name (i := 4) sc_common_below.nd rfl (by first | exact Or.inl rfl | exact Or.inr rfl)) pgs_nil))) (pss_one (ps_set (i := 1) sc_common_below.nd rfl (by first | exact Or.inl rfl | exact Or.inr rfl) (pe_op op_divI (pe_op op_mulI (pv 1) (pv 4)) (pe_call (ok_shared T) (hr.mono (by decide)) (by rfl) T.g_shared T.F_shared.kp T.b_shared .nil pass0 (pa_cons (pv 1) (pa_cons (pv 4) pa_nil)))))))))
      (pss_one (ps_ret (pv 1))))), rd_common_below h⟩)
theorem ok_whole_row (T : TX K mg) : FnOk Pg w K mg base CX0 1 T.a_whole_row T.d_whole_row ["spot", "common"] (spW0 K P_wr) :=
  okW T.cs T.F_whole_row sc_whole_row ln_whole_row (fun ds A h cdv Ar outer sh H E hr => ⟨t_whole_row K, (pss_one (ps_ret (pe_lc (own := [("above", 2), ("below", 3)]) (g := (gTup K 2 (gCons (gName 2) (gCons (gName 3) gNil)))) (tt := tYes) rfl sc_whole_row.nd (pi_tup (pv 0)) (blkOk_by (own := [("above", 2), ("below", 3)]) (N := ["spot", "common", "above", "below"]) (sc := defScope s_whole_row) (by decide +kernel)) (fun _ _ _ _ _ => (pg_tup rfl (pgs_cons (pg_name (i := 2) sc_whole_row.nd rfl (by first | exact Or.inl rfl | exact Or.inr rfl)) (pgs_cons (pg_name (i := 3) sc_whole_row.nd rfl (by first | exact Or.inl rfl | exact Or.inr rfl)) pgs_nil)))) (fun _ _ _ _ _ => pts_nil) (fun _ _ _ _ _ => (pe_op op_mulI (pv 2) (pe_op op_divI (pv 1) (pv 3))))))), rd_whole_row h⟩)
theorem ok_in_order (T : TX K mg) : FnOk Pg w K mg base CX0 3 T.a_in_order T.d_in_order ["bodies"] (spW0 K P_inOrder) :=
  okW T.cs T.F_in_order sc_in_order ln_in_order (fun ds A h cdv Ar outer sh H E hr => ⟨t_in_order K w, (pss_cons (ps_set (i := 1) sc_in_order.nd rfl (by first | exact Or.inl rfl | exact Or.inr rfl) (pe_call (ok_common_below T) (hr.mono (by decide)) (by rfl) T.g_common_below T.F_common_below.kp T.b_common_below .nil pass0 (pa_cons (pe_lcN (own := [("body", 3), ("corner", 5)]) (g := (gName 3)) (tt := tYes) rfl sc_in_order.nd (pi_list (pv 0)) (blkOk_by (own := [("body", 3), ("corner", 5)]) (N := ["bodies", "common", "by_worth", "body", "key", "corner", "number"]) (sc := defScope s_in_order) (by decide +kernel)) (fun _ _ _ _ _ => (pg_name (i := 3) sc_in_order.nd rfl (by first | exact Or.inl rfl | exact Or.inr rfl))) (fun _ _ _ _ _ => pts_nil) (lcB_ok (own := [("body", 3), ("corner", 5)]) (vs1 := [5]) rfl rfl (fun _ _ _ _ _ => (pi_tup (pv 3))) (fun _ _ _ _ _ => (pg_name (i := 5) sc_in_order.nd rfl (by first | exact Or.inl rfl | exact Or.inr rfl))) (fun _ _ _ _ _ => pts_nil) (fun _ _ _ _ _ => (pv 5)))) pa_nil)))
      (pss_cons (ps_set (i := 2) sc_in_order.nd rfl (by first | exact Or.inl rfl | exact Or.inr rfl) pe_dct0)
      (pss_cons (ps_for PassesOwn.never rfl (pi_list (pv 0)) (pg_name (i := 3) sc_in_order.nd rfl (by first | exact Or.inl rfl | exact Or.inr rfl)) (pss_cons (ps_set (i := 4) sc_in_order.nd rfl (by first | exact Or.inl rfl | exact Or.inr rfl) (pe_callTy c_tuple (by rfl) T.n_tuple (by decide +kernel) (pa_cons (pe_lcN (own := [("corner", 5), ("number", 6)]) (g := (gName 5)) (tt := tYes) rfl sc_in_order.nd (pi_tup (pv 3)) (blkOk_by (own := [("corner", 5), ("number", 6)]) (N := ["bodies", "common", "by_worth", "body", "key", "corner", "number"]) (sc := defScope s_in_order) (by decide +kernel)) (fun _ _ _ _ _ => (pg_name (i := 5) sc_in_order.nd rfl (by first | exact Or.inl rfl | exact Or.inr rfl))) (fun _ _ _ _ _ => pts_nil) (lcB_ok (own := [("corner", 5), ("number", 6)]) (vs1 := [6]) rfl rfl (fun _ _ _ _ _ => (pi_list (pe_call (ok_whole_row T) (hr.mono (by decide)) (by rfl) T.g_whole_row T.F_whole_row.kp T.b_whole_row .nil pass0 (pa_cons (pv 5) (pa_cons (pv 1) pa_nil))))) (fun _ _ _ _ _ => (pg_name (i := 6) sc_in_order.nd rfl (by first | exact Or.inl rfl | exact Or.inr rfl))) (fun _ _ _ _ _ => pts_nil) (fun _ _ _ _ _ => (pv 6)))) pa_nil)))
      (pss_one (ps_asg (pv 3) (pg_sub (pv 2) (pv 4) (set_dct (u9 hr.units)))))))
      (pss_one (ps_ret (pe_lc (own := [("key", 4)]) (g := (gName 4)) (tt := tYes) rfl sc_in_order.nd (pi_list (pe_callB (cr_srtD rfl hr.units) (by rfl) T.n_sorted (by decide +kernel) (pa_cons (pv 2) pa_nil))) (blkOk_by (own := [("key", 4)]) (N := ["bodies", "common", "by_worth", "body", "key", "corner", "number"]) (sc := defScope s_in_order) (by decide +kernel)) (fun _ _ _ _ _ => (pg_name (i := 4) sc_in_order.nd rfl (by first | exact Or.inl rfl | exact Or.inr rfl))) (fun _ _ _ _ _ => pts_nil) (fun _ _ _ _ _ => (pe_ix (ix_dct (u9 hr.units)) (pv 2) (pv 4) (fun _ _ => rfl))))))))), rd_in_order h⟩)
theorem ok_gathered (T : TX K mg) : FnOk Pg w K mg base CX0 4 T.a_gathered T.d_gathered ["rows", "room"] (spW0 K P_gathered) :=
  okW T.cs T.F_gathered sc_gathered ln_gathered (fun ds A h cdv Ar outer sh H E hr => ⟨t_gathered K w, (pss_cons (ps_set (i := 2) sc_gathered.nd rfl (by first | exact Or.inl rfl | exact Or.inr rfl) pe_dct0)
      (pss_cons (ps_for PassesOwn.never rfl (pi_seq (pv 0)) (pg_tup rfl (pgs_cons (pg_name (i := 4) sc_gathered.nd rfl (by first | exact Or.inl rfl | exact Or.inr rfl)) (pgs_cons (pg_name (i := 5) sc_gathered.nd rfl (by first | exact Or.inl rfl | exact Or.inr rfl)) pgs_nil))) (pss_one (ps_asg (pe_op op_addI (pe_dm PySem.F.plainAttrs_dict PySem.F.slot_dict_get PySem.F.type_dict_get (mt_dct_get (u9 hr.units)) (pv 2) (pa_cons (pv 5) (pa_cons pe_int pa_nil))) (pv 4)) (pg_sub (pv 2) (pv 5) (set_dct (u9 hr.units))))))
      (pss_cons (ps_setLc (i := 3) (own := [("body", 5)]) (g := (gName 5)) (tt := (tTest (tOp rNe (tOp (rDx K w) (tVar 2) (tVar 5)) (tC (V.int 0))))) rfl sc_gathered.nd rfl rfl (sw_true rfl rfl rfl (by decide +kernel)) (pi_dct (pv 2)) (blkOk_by (own := [("body", 5)]) (N := ["rows", "room", "weights", "left", "weight", "body"]) (sc := defScope s_gathered) (by decide +kernel)) (fun _ _ _ _ _ => (pg_name (i := 5) sc_gathered.nd rfl (by first | exact Or.inl rfl | exact Or.inr rfl))) (fun _ _ _ _ _ => pts_one (pt_cmpR op_ne (pe_ix (ix_dct (u9 hr.units)) (pv 2) (pv 5) (fun _ _ => rfl)) pe_int (nomark _))) (fun _ _ _ _ _ => (pv 5)))
      (pss_one (ps_ret (pe_tup (pa_cons (pv 1) (pa_cons (pe_callTy c_tuple (by rfl) T.n_tuple (by decide +kernel) (pa_cons (pe_lc (own := [("body", 5)]) (g := (gName 5)) (tt := tYes) rfl sc_gathered.nd (pi_list (pe_call (ok_in_order T) (hr.mono (by decide)) (by rfl) T.g_in_order T.F_in_order.kp T.b_in_order .nil pass0 (pa_cons (pv 3) pa_nil))) (blkOk_by (own := [("body", 5)]) (N := ["rows", "room", "weights", "left", "weight", "body"]) (sc := defScope s_gathered) (by decide +kernel)) (fun _ _ _ _ _ => (pg_name (i := 5) sc_gathered.nd rfl (by first | exact Or.inl rfl | exact Or.inr rfl))) (fun _ _ _ _ _ => pts_nil) (fun _ _ _ _ _ => (pe_tup (pa_cons (pe_ix (ix_dct (u9 hr.units)) (pv 2) (pv 5) (fun _ _ => rfl)) (pa_cons (pv 5) pa_nil))))) pa_nil)) pa_nil)))))))), rd_gathered h⟩)
theorem ok_settled_lot (T : TX K mg) : FnOk Pg w K mg base (L2.CX Pg w) 5 T.a_settled_lot T.d_settled_lot ["rows", "room"] (spW K T.cs P_settled) :=
  okWX T.F_settled_lot sc_settled_lot ln_settled_lot (fun ds A h cdv Ar outer sh H E hr => ⟨t_settled_lot K T.cs (WD E), (pss_one (ps_ret (pe_callSD (ok_bounded T) (hr.mono (by decide)) (by rfl) T.g_bounded T.F_bounded.kp T.b_bounded .nil (fun σ => passAt (takes_of rfl rfl rfl rfl) σ) (pa_cons (pe_call (ok_gathered T) (hr.mono (by decide)) (by rfl) T.g_gathered T.F_gathered.kp T.b_gathered .nil pass0 (pa_cons (pv 0) (pa_cons (pv 1) pa_nil))) pa_nil)))), rd_settled_lot h (WD E)⟩)
theorem ok_rising (T : TX K mg) : FnOk Pg w K mg base CX0 3 T.a_rising T.d_rising ["spots"] (spW0 K P_rising) :=
  okW T.cs T.F_rising sc_rising ln_rising (fun ds A h cdv Ar outer sh H E hr => ⟨t_rising K w, (pss_cons (ps_set (i := 1) sc_rising.nd rfl (by first | exact Or.inl rfl | exact Or.inr rfl) (pe_call (ok_common_below T) (hr.mono (by decide)) (by rfl) T.g_common_below T.F_common_below.kp T.b_common_below .nil pass0 (pa_cons (pv 0) pa_nil)))
      (pss_cons (ps_set (i := 2) sc_rising.nd rfl (by first | exact Or.inl rfl | exact Or.inr rfl) (pe_dcd (own := [("spot", 3)]) (g := (gName 3)) (tt := tYes) (u9 hr.units) rfl sc_rising.nd (pi_seq (pv 0)) (blkOk_by (own := [("spot", 3)]) (N := ["spots", "common", "by_worth", "spot", "key"]) (sc := defScope s_rising) (by decide +kernel)) (fun _ _ _ _ _ => (pg_name (i := 3) sc_rising.nd rfl (by first | exact Or.inl rfl | exact Or.inr rfl))) (fun _ _ _ _ _ => pts_nil) (fun _ _ _ _ _ => (pe_callTy c_tuple (by rfl) T.n_tuple (by decide +kernel) (pa_cons (pe_call (ok_whole_row T) (hr.mono (by decide)) (by rfl) T.g_whole_row T.F_whole_row.kp T.b_whole_row .nil pass0 (pa_cons (pv 3) (pa_cons (pv 1) pa_nil))) pa_nil))) (fun _ _ _ _ _ => (pv 3))))
      (pss_one (ps_ret (pe_lc (own := [("key", 4)]) (g := (gName 4)) (tt := tYes) rfl sc_rising.nd (pi_list (pe_callB (cr_srtD rfl hr.units) (by rfl) T.n_sorted (by decide +kernel) (pa_cons (pv 2) pa_nil))) (blkOk_by (own := [("key", 4)]) (N := ["spots", "common", "by_worth", "spot", "key"]) (sc := defScope s_rising) (by decide +kernel)) (fun _ _ _ _ _ => (pg_name (i := 4) sc_rising.nd rfl (by first | exact Or.inl rfl | exact Or.inr rfl))) (fun _ _ _ _ _ => pts_nil) (fun _ _ _ _ _ => (pe_ix (ix_dct (u9 hr.units)) (pv 2) (pv 4) (fun _ _ => rfl)))))))), rd_rising h⟩)
theorem ok_order (T : TX K mg) : FnOk Pg w K mg base CX0 1 T.a_order T.d_order ["one", "other"] (spP K P_order) :=
  okP T.F_order sc_order ln_order (fun ds r h cdv A outer sh H E hr => ⟨t_order K, (pss_cons (ps_set (i := 2) sc_order.nd rfl (by first | exact Or.inl rfl | exact Or.inr rfl) (pe_op op_sub (pe_op op_mulW (pe_ix ix_seq (pv 0) pe_int (fun _ _ => rfl)) (pe_ix ix_seq (pv 1) pe_int (fun _ _ => rfl))) (pe_op op_mulW (pe_ix ix_seq (pv 1) pe_int (fun _ _ => rfl)) (pe_ix ix_seq (pv 0) pe_int (fun _ _ => rfl)))))
      (pss_one (ps_ret (pe_op o_subB (pe_cmpR op_gt (pv 2) pe_int (nomark _)) (pe_cmpR op_lt (pv 2) pe_int (nomark _)))))), rd_order h⟩)
theorem ok_part (T : TX K mg) : FnOk Pg w K mg base (L2.CX Pg w) 3 T.a_part T.d_part ["above", "below"] (spX K T.cs P_partX) :=
  okXD T.F_part sc_part ln_part (fun ds r h cdv A outer sh H E hr => ⟨t_part K T.cs (WD E), (pss_cons (ps_if (pt_cmpR op_eq (pv 1) pe_int (nomark _)) (pss_one (ps_raise rfl (takes_of rfl rfl rfl rfl) (pmk_ox0 T.ox_Flat T.kC_Flat T.i_Flat T.ti_Flat (ok_Flat T) (hr.mono (by decide)) T.bi_Flat .nil pass0 (by rfl) T.g_Flat))) pss_nil)
      (pss_cons (ps_if (pt_cmpR op_lt (pv 1) pe_int (nomark _)) (pss_one (ps_par (i := 0) (j := 1) (by rfl) sc_part.nd rfl rfl (by decide) rfl rfl (pa_cons (pe_un un_neg (pv 0)) (pa_cons (pe_un un_neg (pv 1)) pa_nil)) (by rfl))) pss_nil)
      (pss_cons (ps_set (i := 2) sc_part.nd rfl (by first | exact Or.inl rfl | exact Or.inr rfl) (pe_call (ok_shared T) (hr.mono (by decide)) (by rfl) T.g_shared T.F_shared.kp T.b_shared .nil pass0 (pa_cons (pv 0) (pa_cons (pv 1) pa_nil))))
      (pss_one (ps_ret (pe_tup (pa_cons (pe_op op_fdivX (pv 0) (pv 2)) (pa_cons (pe_op op_fdivX (pv 1) (pv 2)) pa_nil)))))))), rd_part T.cf_Flat h (WD E)⟩)
theorem ok_minus (T : TX K mg) : FnOk Pg w K mg base CX0 4 T.a_minus T.d_minus ["one", "other"] (spP K P_minus) :=
  okP T.F_minus sc_minus ln_minus (fun ds r h cdv A outer sh H E hr => ⟨t_minus K T.cs, (pss_one (ps_ret (pe_callSD (ok_part T) (hr.mono (by decide)) (by rfl) T.g_part T.F_part.kp T.b_part .nil (fun σ => passAt takes0 σ) (pa_cons (pe_op op_sub (pe_op op_mulW (pe_ix ix_seq (pv 0) pe_int (fun _ _ => rfl)) (pe_ix ix_seq (pv 1) pe_int (fun _ _ => rfl))) (pe_op op_mulW (pe_ix ix_seq (pv 1) pe_int (fun _ _ => rfl)) (pe_ix ix_seq (pv 0) pe_int (fun _ _ => rfl)))) (pa_cons (pe_op op_mulW (pe_ix ix_seq (pv 0) pe_int (fun _ _ => rfl)) (pe_ix ix_seq (pv 1) pe_int (fun _ _ => rfl))) pa_nil))))), rd_minus h⟩)
theorem ok_times (T : TX K mg) : FnOk Pg w K mg base CX0 4 T.a_times T.d_times ["one", "other"] (spP K P_times) :=
  okP T.F_times sc_times ln_times (fun ds r h cdv A outer sh H E hr => ⟨t_times K T.cs, (pss_one (ps_ret (pe_callSD (ok_part T) (hr.mono (by decide)) (by rfl) T.g_part T.F_part.kp T.b_part .nil (fun σ => passAt takes0 σ) (pa_cons (pe_op op_mulW (pe_ix ix_seq (pv 0) pe_int (fun _ _ => rfl)) (pe_ix ix_seq (pv 1) pe_int (fun _ _ => rfl))) (pa_cons (pe_op op_mulW (pe_ix ix_seq (pv 0) pe_int (fun _ _ => rfl)) (pe_ix ix_seq (pv 1) pe_int (fun _ _ => rfl))) pa_nil))))), rd_times h⟩)
theorem ok_across (T : TX K mg) : FnOk Pg w K mg base CX0 5 T.a_across T.d_across ["one", "other"] (spP K P_across) :=
  okP T.F_across sc_across ln_across (fun ds r h cdv A outer sh H E hr => ⟨t_across K, (pss_one (ps_ret (pe_call (ok_minus T) (hr.mono (by decide)) (by rfl) T.g_minus T.F_minus.kp T.b_minus .nil pass0 (pa_cons (pe_call (ok_times T) (hr.mono (by decide)) (by rfl) T.g_times T.F_times.kp T.b_times .nil pass0 (pa_cons (pe_ix ix_seq (pv 0) pe_int (fun _ _ => rfl)) (pa_cons (pe_ix ix_seq (pv 1) pe_int (fun _ _ => rfl)) pa_nil))) (pa_cons (pe_call (ok_times T) (hr.mono (by decide)) (by rfl) T.g_times T.F_times.kp T.b_times .nil pass0 (pa_cons (pe_ix ix_seq (pv 0) pe_int (fun _ _ => rfl)) (pa_cons (pe_ix ix_seq (pv 1) pe_int (fun _ _ => rfl)) pa_nil))) pa_nil))))), rd_across h⟩)
theorem ok_step_from (T : TX K mg) : FnOk Pg w K mg base CX0 5 T.a_step_from T.d_step_from ["one", "other"] (spP K P_step) :=
  okP T.F_step_from sc_step_from ln_step_from (fun ds r h cdv A outer sh H E hr => ⟨t_step_from K, (pss_one (ps_ret (pe_callTy c_tuple (by rfl) T.n_tuple (by decide +kernel) (pa_cons (pe_lc (own := [("first", 2), ("second", 3)]) (g := (gTup K 2 (gCons (gName 2) (gCons (gName 3) gNil)))) (tt := tYes) rfl sc_step_from.nd (RZ.pi_zipA (by rfl) T.n_zip (pa_cons (pv 0) (pa_cons (pv 1) pa_nil))) (blkOk_by (own := [("first", 2), ("second", 3)]) (N := ["one", "other", "first", "second"]) (sc := defScope s_step_from) (by decide +kernel)) (fun _ _ _ _ _ => (pg_tup rfl (pgs_cons (pg_name (i := 2) sc_step_from.nd rfl (by first | exact Or.inl rfl | exact Or.inr rfl)) (pgs_cons (pg_name (i := 3) sc_step_from.nd rfl (by first | exact Or.inl rfl | exact Or.inr rfl)) pgs_nil)))) (fun _ _ _ _ _ => pts_nil) (fun _ _ _ _ _ => (pe_call (ok_minus T) (hr.mono (by decide)) (by rfl) T.g_minus T.F_minus.kp T.b_minus .nil pass0 (pa_cons (pv 3) (pa_cons (pv 2) pa_nil))))) pa_nil)))), rd_step_from h⟩)
theorem ok_side_of (T : TX K mg) : FnOk Pg w K mg base CX0 6 T.a_side_of T.d_side_of ["start", "end", "spot"] (spP K P_side) :=
  okP T.F_side_of sc_side_of ln_side_of (fun ds r h cdv A outer sh H E hr => ⟨t_side_of K, (pss_one (ps_ret (pe_call (ok_order T) (hr.mono (by decide)) (by rfl) T.g_order T.F_order.kp T.b_order .nil pass0 (pa_cons (pe_call (ok_across T) (hr.mono (by decide)) (by rfl) T.g_across T.F_across.kp T.b_across .nil pass0 (pa_cons (pe_call (ok_step_from T) (hr.mono (by decide)) (by rfl) T.g_step_from T.F_step_from.kp T.b_step_from .nil pass0 (pa_cons (pv 0) (pa_cons (pv 1) pa_nil))) (pa_cons (pe_call (ok_step_from T) (hr.mono (by decide)) (by rfl) T.g_step_from T.F_step_from.kp T.b_step_from .nil pass0 (pa_cons (pv 0) (pa_cons (pv 2) pa_nil))) pa_nil))) (pa_cons (pe_tup (pa_cons pe_int (pa_cons pe_int pa_nil))) pa_nil))))), rd_side_of h⟩)
theorem ok_hull_side (T : TX K mg) : FnOk Pg w K mg base CX0 7 T.a_hull_side T.d_hull_side ["spots"] (spW0 K P_hull) :=
  okW T.cs T.F_hull_side sc_hull_side ln_hull_side (fun ds A h cdv Ar outer sh H E hr => ⟨t_hull_side K, (pss_cons (ps_set (i := 1) sc_hull_side.nd rfl (by first | exact Or.inl rfl | exact Or.inr rfl) (pe_lst pa_nil))
      (pss_cons (ps_for PassesOwn.never rfl (pi_list (pv 0)) (pg_name (i := 2) sc_hull_side.nd rfl (by first | exact Or.inl rfl | exact Or.inr rfl)) (pss_cons (ps_while PassesOwn.never (PW.pt (pw_and (pt_cmpR op_gtI (pe_callB c_len (by rfl) T.n_len PySem.boot_len (pa_cons (pv 1) pa_nil)) pe_int (nomark _)) (pw_and1 (pt_cmpR op_leI (pe_call (ok_side_of T) (hr.mono (by decide)) (by rfl) T.g_side_of T.F_side_of.kp T.b_side_of .nil pass0 (pa_cons (pe_ix ix_seq (pv 1) (pe_un un_negI pe_int) (fun _ _ => rfl)) (pa_cons (pe_ix ix_seq (pv 1) (pe_un un_negI pe_int) (fun _ _ => rfl)) (pa_cons (pv 2) pa_nil)))) pe_int (nomark _))))) (pss_one (ps_expr (pe_bm0 PySem.F.plainAttrs_list PySem.F.slot_list_pop PySem.F.type_list_pop mt_pop (pv 1)))))
      (pss_one (ps_expr (pe_bm PySem.F.plainAttrs_list PySem.F.slot_list_append PySem.F.type_list_append mt_append (pv 1) (pa_cons (pv 2) pa_nil))))))
      (pss_one (ps_ret (pv 1))))), rd_hull_side h⟩)
theorem ok_corners_round (T : TX K mg) : FnOk Pg w K mg base CX0 8 T.a_corners_round T.d_corners_round ["spots"] (spW0 K P_corners) :=
  okW T.cs T.F_corners_round sc_corners_round ln_corners_round (fun ds A h cdv Ar outer sh H E hr => ⟨t_corners_round K, (pss_cons (ps_set (i := 1) sc_corners_round.nd rfl (by first | exact Or.inl rfl | exact Or.inr rfl) (pe_call (ok_rising T) (hr.mono (by decide)) (by rfl) T.g_rising T.F_rising.kp T.b_rising .nil pass0 (pa_cons (pv 0) pa_nil)))
      (pss_cons (ps_if (PW.pt (pw_or (pt_cmpR op_ltI (pe_callB c_len (by rfl) T.n_len PySem.boot_len (pa_cons (pv 1) pa_nil)) pe_int (nomark _)) (pw_or1 (pt_cmpR op_eq (pe_callB c_len (by rfl) T.n_len PySem.boot_len (pa_cons (pe_ix ix_seq (pv 1) pe_int (fun _ _ => rfl)) pa_nil)) pe_int (nomark _))))) (pss_one (ps_ret (pe_ifExp (pt_cmpR op_eq (pe_callB c_len (by rfl) T.n_len PySem.boot_len (pa_cons (pv 1) pa_nil)) pe_int (nomark _)) (pe_tup (pa_cons (pe_ix ix_seq (pv 1) pe_int (fun _ _ => rfl)) pa_nil)) (pe_tup (pa_cons (pe_ix ix_seq (pv 1) pe_int (fun _ _ => rfl)) (pa_cons (pe_ix ix_seq (pv 1) (pe_un un_negI pe_int) (fun _ _ => rfl)) pa_nil)))))) pss_nil)
      (pss_cons (ps_set (i := 2) sc_corners_round.nd rfl (by first | exact Or.inl rfl | exact Or.inr rfl) (pe_call (ok_hull_side T) (hr.mono (by decide)) (by rfl) T.g_hull_side T.F_hull_side.kp T.b_hull_side .nil pass0 (pa_cons (pv 1) pa_nil)))
      (pss_cons (ps_set (i := 3) sc_corners_round.nd rfl (by first | exact Or.inl rfl | exact Or.inr rfl) (pe_call (ok_hull_side T) (hr.mono (by decide)) (by rfl) T.g_hull_side T.F_hull_side.kp T.b_hull_side .nil pass0 (pa_cons (pe_revL (pv 1)) pa_nil)))
      (pss_one (ps_ret (pe_callTy c_tuple (by rfl) T.n_tuple (by decide +kernel) (pa_cons (pe_op op_catL (pe_slice sl_list (pv 2) po_none (po_some (pe_un un_negI pe_int))) (pe_slice sl_list (pv 3) po_none (po_some (pe_un un_negI pe_int)))) pa_nil)))))))), rd_corners_round h⟩)
theorem ok_is_whole (T : TX K mg) : FnOk Pg w K mg base CX0 1 T.a_is_whole T.d_is_whole ["thing"] (spP K P_isWhole) :=
  okP T.F_is_whole sc_is_whole ln_is_whole (fun ds r h cdv A outer sh H E hr => ⟨t_is_whole K, (pss_one (ps_ret (pe_and (pe_callB call_isi (by rfl) T.n_isinstance (by decide +kernel) (pa_cons (pv 0) (pa_cons (pe_bltn (v := .ty "int") (by rfl) T.n_int (by decide +kernel) rfl) pa_nil))) (pe_one (pe_not (pe_callB call_isi (by rfl) T.n_isinstance (by decide +kernel) (pa_cons (pv 0) (pa_cons (pe_bltn (v := .ty "bool") (by rfl) T.n_bool (by decide +kernel) rfl) pa_nil)))))))), rd_is_whole h⟩)
theorem ok_is_part (T : TX K mg) : FnOk Pg w K mg base CX0 2 T.a_is_part T.d_is_part ["thing"] (spP K P_isPart) :=
  okP T.F_is_part sc_is_part ln_is_part (fun ds r h cdv A outer sh H E hr => ⟨t_is_part K, (pss_cons (ps_if (PW.pt (pw_or (pt_not (pt_val (pe_callB call_isi (by rfl) T.n_isinstance (by decide +kernel) (pa_cons (pv 0) (pa_cons (pe_bltn (v := .ty "tuple") (by rfl) T.n_tuple (by decide +kernel) rfl) pa_nil))))) (pw_or1 (pt_cmpR op_ne (pe_callB c_len (by rfl) T.n_len PySem.boot_len (pa_cons (pv 0) pa_nil)) pe_int (nomark _))))) (pss_one (ps_ret pe_bl)) pss_nil)
      (pss_cons (ps_if (PW.pt (pw_or (pt_not (pt_val (pe_call (ok_is_whole T) (hr.mono (by decide)) (by rfl) T.g_is_whole T.F_is_whole.kp T.b_is_whole .nil pass0 (pa_cons (pe_ix ix_seq (pv 0) pe_int (fun _ _ => rfl)) pa_nil)))) (pw_or1 (pt_not (pt_val (pe_call (ok_is_whole T) (hr.mono (by decide)) (by rfl) T.g_is_whole T.F_is_whole.kp T.b_is_whole .nil pass0 (pa_cons (pe_ix ix_seq (pv 0) pe_int (fun _ _ => rfl)) pa_nil))))))) (pss_one (ps_ret pe_bl)) pss_nil)
      (pss_one (ps_ret (pe_and (pe_cmpR op_gt (pe_ix ix_seq (pv 0) pe_int (fun _ _ => rfl)) pe_int (nomark _)) (pe_one (pe_cmpR op_eq (pe_call (ok_shared T) (hr.mono (by decide)) (by rfl) T.g_shared T.F_shared.kp T.b_shared .nil pass0 (pa_cons (pe_ix ix_seq (pv 0) pe_int (fun _ _ => rfl)) (pa_cons (pe_ix ix_seq (pv 0) pe_int (fun _ _ => rfl)) pa_nil))) pe_int (nomark _)))))))), rd_is_part h⟩)
theorem ok_is_spot (T : TX K mg) : FnOk Pg w K mg base CX0 3 T.a_is_spot T.d_is_spot ["thing", "room"] (spP K P_isSpot) :=
  okPD T.F_is_spot sc_is_spot ln_is_spot (fun ds r h cdv A outer sh H E hr => ⟨t_is_spot K, (pss_cons (ps_if (PW.pt (pw_or (pt_cmpR op_notIn_seq (pv 1) (pe_tup (pa_cons pe_int (pa_cons pe_int pa_nil))) (by rfl)) (pw_or (pt_not (pt_val (pe_callB call_isi (by rfl) T.n_isinstance (by decide +kernel) (pa_cons (pv 0) (pa_cons (pe_bltn (v := .ty "tuple") (by rfl) T.n_tuple (by decide +kernel) rfl) pa_nil))))) (pw_or1 (pt_cmpR op_ne (pe_callB c_len (by rfl) T.n_len PySem.boot_len (pa_cons (pv 0) pa_nil)) (pv 1) (nomark _)))))) (pss_one (ps_ret pe_bl)) pss_nil)
      (pss_one (ps_ret (pe_callB (cr_all rfl) (by rfl) T.n_all (by decide +kernel) (pa_cons (pe_lc (own := [("one", 2)]) (g := (gName 2)) (tt := tYes) rfl sc_is_spot.nd (pi_tup (pv 0)) (blkOk_by (own := [("one", 2)]) (N := ["thing", "room", "one"]) (sc := defScope s_is_spot) (by decide +kernel)) (fun _ _ _ _ _ => (pg_name (i := 2) sc_is_spot.nd rfl (by first | exact Or.inl rfl | exact Or.inr rfl))) (fun _ _ _ _ _ => pts_nil) (fun _ _ _ _ _ => (pe_call (ok_is_part T) (hr.mono (by decide)) (by rfl) T.g_is_part T.F_is_part.kp T.b_is_part .nil pass0 (pa_cons (pv 2) pa_nil)))) pa_nil))))), rd_is_spot h⟩)
theorem ok_body_of (T : TX K mg) : FnOk Pg w K mg base (L2.CX Pg w) 9 T.a_body_of T.d_body_of ["spots"] (spW K T.cs P_bodyOf) :=
  okWX T.F_body_of sc_body_of ln_body_of (fun ds A h cdv Ar outer sh H E hr => ⟨t_body_of K T.cs (WD E), (pss_cons (ps_if (PW.pt (pw_or (pt_not (pt_val (pe_callB call_isiT (by rfl) T.n_isinstance (by decide +kernel) (pa_cons (pv 0) (pa_cons (pe_tup (pa_cons (pe_bltn (v := .ty "list") (by rfl) T.n_list (by decide +kernel) rfl) (pa_cons (pe_bltn (v := .ty "tuple") (by rfl) T.n_tuple (by decide +kernel) rfl) pa_nil))) pa_nil))))) (pw_or1 (pt_cmpR op_eq (pe_callB c_len (by rfl) T.n_len PySem.boot_len (pa_cons (pv 0) pa_nil)) pe_int (nomark _))))) (pss_one (ps_raise rfl (takes_of rfl rfl rfl rfl) (pmk_ox0 T.ox_BadSpot T.kC_BadSpot T.i_BadSpot T.ti_BadSpot (ok_BadSpot T) (hr.mono (by decide)) T.bi_BadSpot .nil pass0 (by rfl) T.g_BadSpot))) pss_nil)
      (pss_cons (ps_asg (pv 0) (pg_starE rfl (pgs_cons (pg_name (i := 2) sc_body_of.nd rfl (by first | exact Or.inl rfl | exact Or.inr rfl)) (pgs_cons (pg_name (i := 3) sc_body_of.nd rfl (by first | exact Or.inl rfl | exact Or.inr rfl)) pgs_nil))))
      (pss_cons (ps_set (i := 1) sc_body_of.nd rfl (by first | exact Or.inl rfl | exact Or.inr rfl) (pe_ifExp (pt_val (pe_callB call_isi (by rfl) T.n_isinstance (by decide +kernel) (pa_cons (pv 2) (pa_cons (pe_bltn (v := .ty "tuple") (by rfl) T.n_tuple (by decide +kernel) rfl) pa_nil)))) (pe_callB c_len (by rfl) T.n_len PySem.boot_len (pa_cons (pv 2) pa_nil)) pe_int))
      (pss_cons (ps_if (PW.pt (pw_or (pt_not (pt_val (pe_callN (n := 1) (ks := ["room"]) (ok_is_spot T) (hr.mono (by decide)) (by rfl) T.g_is_spot T.F_is_spot.kp T.kb_is_spot pass0 (pa_cons (pv 2) pa_nil) (pk_cons (pv 1) pk_nil)))) (pw_or1 (pt_not (pt_val (pe_callB (cr_all rfl) (by rfl) T.n_all (by decide +kernel) (pa_cons (pe_lc (own := [("spot", 4)]) (g := (gName 4)) (tt := tYes) rfl sc_body_of.nd (pi_list (pv 3)) (blkOk_by (own := [("spot", 4)]) (N := ["spots", "room", "first", "rest", "spot"]) (sc := defScope s_body_of) (by decide +kernel)) (fun _ _ _ _ _ => (pg_name (i := 4) sc_body_of.nd rfl (by first | exact Or.inl rfl | exact Or.inr rfl))) (fun _ _ _ _ _ => pts_nil) (fun _ _ _ _ _ => (pe_callN (n := 1) (ks := ["room"]) (ok_is_spot T) (hr.mono (by decide)) (by rfl) T.g_is_spot T.F_is_spot.kp T.kb_is_spot pass0 (pa_cons (pv 4) pa_nil) (pk_cons (pv 1) pk_nil)))) pa_nil))))))) (pss_one (ps_raise rfl (takes_of rfl rfl rfl rfl) (pmk_ox0 T.ox_BadSpot T.kC_BadSpot T.i_BadSpot T.ti_BadSpot (ok_BadSpot T) (hr.mono (by decide)) T.bi_BadSpot .nil pass0 (by rfl) T.g_BadSpot))) pss_nil)
      (pss_one (ps_ret (pe_call (ok_corners_round T) (hr.mono (by decide)) (by rfl) T.g_corners_round T.F_corners_round.kp T.b_corners_round .nil pass0 (pa_cons (pe_callTy c_list (by rfl) T.n_list (by decide +kernel) (pa_cons (pv 0) pa_nil)) pa_nil)))))))), rd_body_of T.cf_BadSpot h (WD E)⟩)
theorem ok_lot_of (T : TX K mg) : FnOk Pg w K mg base (L2.CX Pg w) 10 T.a_lot_of T.d_lot_of ["rows", "room"] (spW K T.cs P_lotOf) :=
  okWXD T.F_lot_of sc_lot_of ln_lot_of (fun ds A h cdv Ar outer sh H E hr => ⟨t_lot_of K T.cs (WD E), (pss_cons (ps_if (PW.pt (pw_or (pt_not (pt_val (pe_call (ok_is_whole T) (hr.mono (by decide)) (by rfl) T.g_is_whole T.F_is_whole.kp T.b_is_whole .nil pass0 (pa_cons (pv 1) pa_nil)))) (pw_or1 (pt_cmpR op_notIn_seq (pv 1) (pe_tup (pa_cons pe_int (pa_cons pe_int pa_nil))) (by rfl))))) (pss_one (ps_raise rfl (takes_of rfl rfl rfl rfl) (pmk_ox0 T.ox_OtherRoom T.kC_OtherRoom T.i_OtherRoom T.ti_OtherRoom (ok_OtherRoom T) (hr.mono (by decide)) T.bi_OtherRoom .nil pass0 (by rfl) T.g_OtherRoom))) pss_nil)
      (pss_cons (ps_if (pt_not (pt_val (pe_callB call_isiT (by rfl) T.n_isinstance (by decide +kernel) (pa_cons (pv 0) (pa_cons (pe_tup (pa_cons (pe_bltn (v := .ty "list") (by rfl) T.n_list (by decide +kernel) rfl) (pa_cons (pe_bltn (v := .ty "tuple") (by rfl) T.n_tuple (by decide +kernel) rfl) pa_nil))) pa_nil))))) (pss_one (ps_raise rfl (takes_of rfl rfl rfl rfl) (pmk_ox0 T.ox_BadLot T.kC_BadLot T.i_BadLot T.ti_BadLot (ok_BadLot T) (hr.mono (by decide)) T.bi_BadLot .nil pass0 (by rfl) T.g_BadLot))) pss_nil)
      (pss_cons (ps_set (i := 2) sc_lot_of.nd rfl (by first | exact Or.inl rfl | exact Or.inr rfl) (pe_lst pa_nil))
      (pss_cons (ps_for (passes_of rfl) rfl (pi_seq (pv 0)) (pg_name (i := 3) sc_lot_of.nd rfl (by first | exact Or.inl rfl | exact Or.inr rfl)) (pss_cons (ps_if (PW.pt (pw_or (pt_not (pt_val (pe_callB call_isi (by rfl) T.n_isinstance (by decide +kernel) (pa_cons (pv 3) (pa_cons (pe_bltn (v := .ty "tuple") (by rfl) T.n_tuple (by decide +kernel) rfl) pa_nil))))) (pw_or (pt_cmpR op_ne (pe_callB c_len (by rfl) T.n_len PySem.boot_len (pa_cons (pv 3) pa_nil)) pe_int (nomark _)) (pw_or1 (pt_not (pt_val (pe_call (ok_is_whole T) (hr.mono (by decide)) (by rfl) T.g_is_whole T.F_is_whole.kp T.b_is_whole .nil pass0 (pa_cons (pe_ix ix_seq (pv 3) pe_int (fun _ _ => rfl)) pa_nil)))))))) (pss_one (ps_raise rfl (takes_of rfl rfl rfl rfl) (pmk_ox0 T.ox_BadLot T.kC_BadLot T.i_BadLot T.ti_BadLot (ok_BadLot T) (hr.mono (by decide)) T.bi_BadLot .nil pass0 (by rfl) T.g_BadLot))) pss_nil)
      (pss_cons (ps_set (i := 4) sc_lot_of.nd rfl (by first | exact Or.inl rfl | exact Or.inr rfl) (pe_callSD (ok_body_of T) (hr.mono (by decide)) (by rfl) T.g_body_of T.F_body_of.kp T.b_body_of .nil (fun σ => passAt (takes_of rfl rfl rfl rfl) σ) (pa_cons (pe_ix ix_seq (pv 3) pe_int (fun _ _ => rfl)) pa_nil)))
      (pss_cons (ps_if (pt_cmpR op_ne (pe_callB c_len (by rfl) T.n_len PySem.boot_len (pa_cons (pe_ix ix_seq (pv 4) pe_int (fun _ _ => rfl)) pa_nil)) (pv 1) (nomark _)) (pss_one (ps_raise rfl (takes_of rfl rfl rfl rfl) (pmk_ox0 T.ox_BadSpot T.kC_BadSpot T.i_BadSpot T.ti_BadSpot (ok_BadSpot T) (hr.mono (by decide)) T.bi_BadSpot .nil pass0 (by rfl) T.g_BadSpot))) pss_nil)
      (pss_one (ps_expr (pe_bm PySem.F.plainAttrs_list PySem.F.slot_list_append PySem.F.type_list_append mt_append (pv 2) (pa_cons (pe_tup (pa_cons (pe_ix ix_seq (pv 3) pe_int (fun _ _ => rfl)) (pa_cons (pv 4) pa_nil))) pa_nil))))))))
      (pss_one (ps_ret (pe_callSD (ok_settled_lot T) (hr.mono (by decide)) (by rfl) T.g_settled_lot T.F_settled_lot.kp T.b_settled_lot .nil (fun σ => passAt (takes_of rfl rfl rfl rfl) σ) (pa_cons (pv 2) (pa_cons (pv 1) pa_nil))))))))), rd_lot_of T.cf_OtherRoom T.cf_BadLot T.cf_BadSpot h (WD E)⟩)
theorem ok_scaled (T : TX K mg) : FnOk Pg w K mg base (L2.CX Pg w) 6 T.a_scaled T.d_scaled ["lot", "number"] (spW K T.cs P_scaled) :=
  okWX T.F_scaled sc_scaled ln_scaled (fun ds A h cdv Ar outer sh H E hr => ⟨t_scaled K T.cs (WD E), (pss_one (ps_ret (pe_callSD (ok_settled_lot T) (hr.mono (by decide)) (by rfl) T.g_settled_lot T.F_settled_lot.kp T.b_settled_lot .nil (fun σ => passAt (takes_of rfl rfl rfl rfl) σ) (pa_cons (pe_lc (own := [("weight", 2), ("body", 3)]) (g := (gTup K 2 (gCons (gName 2) (gCons (gName 3) gNil)))) (tt := tYes) rfl sc_scaled.nd (pi_tup (pe_ix ix_seq (pv 0) pe_int (fun _ _ => rfl))) (blkOk_by (own := [("weight", 2), ("body", 3)]) (N := ["lot", "number", "weight", "body"]) (sc := defScope s_scaled) (by decide +kernel)) (fun _ _ _ _ _ => (pg_tup rfl (pgs_cons (pg_name (i := 2) sc_scaled.nd rfl (by first | exact Or.inl rfl | exact Or.inr rfl)) (pgs_cons (pg_name (i := 3) sc_scaled.nd rfl (by first | exact Or.inl rfl | exact Or.inr rfl)) pgs_nil)))) (fun _ _ _ _ _ => pts_nil) (fun _ _ _ _ _ => (pe_tup (pa_cons (pe_op op_mulI (pv 2) (pv 1)) (pa_cons (pv 3) pa_nil))))) (pa_cons (pe_ix ix_seq (pv 0) pe_int (fun _ _ => rfl)) pa_nil))))), rd_scaled h (WD E)⟩)
theorem ok_room_from (T : TX K mg) : FnOk Pg w K mg base CX0 1 T.a_room_from T.d_room_from ["way"] (spW0 K P_roomFrom) :=
  okW T.cs T.F_room_from sc_room_from ln_room_from (fun ds A h cdv Ar outer sh H E hr => ⟨t_room_from K, (pss_one (ps_ret (pe_op op_subI (pe_callB c_len (by rfl) T.n_len PySem.boot_len (pa_cons (pe_ix ix_seq (pv 0) pe_int (fun _ _ => rfl)) pa_nil)) pe_int))), rd_room_from h⟩)
theorem ok_plus (T : TX K mg) : FnOk Pg w K mg base CX0 4 T.a_plus T.d_plus ["one", "other"] (spP K P_plus) :=
  okP T.F_plus sc_plus ln_plus (fun ds r h cdv A outer sh H E hr => ⟨t_plus K T.cs, (pss_one (ps_ret (pe_callSD (ok_part T) (hr.mono (by decide)) (by rfl) T.g_part T.F_part.kp T.b_part .nil (fun σ => passAt takes0 σ) (pa_cons (pe_op op_add (pe_op op_mulW (pe_ix ix_seq (pv 0) pe_int (fun _ _ => rfl)) (pe_ix ix_seq (pv 1) pe_int (fun _ _ => rfl))) (pe_op op_mulW (pe_ix ix_seq (pv 1) pe_int (fun _ _ => rfl)) (pe_ix ix_seq (pv 0) pe_int (fun _ _ => rfl)))) (pa_cons (pe_op op_mulW (pe_ix ix_seq (pv 0) pe_int (fun _ _ => rfl)) (pe_ix ix_seq (pv 1) pe_int (fun _ _ => rfl))) pa_nil))))), rd_plus h⟩)
theorem ok_summed (T : TX K mg) : FnOk Pg w K mg base CX0 5 T.a_summed T.d_summed ["row", "spot"] (spW0 K P_summed) :=
  okW T.cs T.F_summed sc_summed ln_summed (fun ds A h cdv Ar outer sh H E hr => ⟨t_summed K, (pss_cons (ps_asg (pv 0) (pg_star rfl (pgs_cons (pg_name (i := 5) sc_summed.nd rfl (by first | exact Or.inl rfl | exact Or.inr rfl)) (pgs_cons (pg_name (i := 2) sc_summed.nd rfl (by first | exact Or.inl rfl | exact Or.inr rfl)) pgs_nil))))
      (pss_cons (ps_for PassesOwn.never rfl (pi_zipS (by rfl) T.n_zip (pa_cons (pv 5) (pa_cons (pv 1) pa_nil))) (pg_tup rfl (pgs_cons (pg_name (i := 3) sc_summed.nd rfl (by first | exact Or.inl rfl | exact Or.inr rfl)) (pgs_cons (pg_name (i := 4) sc_summed.nd rfl (by first | exact Or.inl rfl | exact Or.inr rfl)) pgs_nil))) (pss_one (ps_set (i := 2) sc_summed.nd rfl (by first | exact Or.inl rfl | exact Or.inr rfl) (pe_call (ok_plus T) (hr.mono (by decide)) (by rfl) T.g_plus T.F_plus.kp T.b_plus .nil pass0 (pa_cons (pv 2) (pa_cons (pe_call (ok_times T) (hr.mono (by decide)) (by rfl) T.g_times T.F_times.kp T.b_times .nil pass0 (pa_cons (pv 3) (pa_cons (pv 4) pa_nil))) pa_nil))))))
      (pss_one (ps_ret (pv 2))))), rd_summed h⟩)
theorem ok_led (T : TX K mg) : FnOk Pg w K mg base (L2.CX Pg w) 6 T.a_led T.d_led ["way", "spot"] (spW K T.cs P_led) :=
  okWX T.F_led sc_led ln_led (fun ds A h cdv Ar outer sh H E hr => ⟨t_led K T.cs (WD E), (pss_cons (ps_if (pt_cmpR op_ne (pe_callB c_len (by rfl) T.n_len PySem.boot_len (pa_cons (pv 1) pa_nil)) (pe_call (ok_room_from T) (hr.mono (by decide)) (by rfl) T.g_room_from T.F_room_from.kp T.b_room_from .nil pass0 (pa_cons (pv 0) pa_nil)) (nomark _)) (pss_one (ps_raise rfl (takes_of rfl rfl rfl rfl) (pmk_ox0 T.ox_OtherRoom T.kC_OtherRoom T.i_OtherRoom T.ti_OtherRoom (ok_OtherRoom T) (hr.mono (by decide)) T.bi_OtherRoom .nil pass0 (by rfl) T.g_OtherRoom))) pss_nil)
      (pss_one (ps_ret (pe_callTy c_tuple (by rfl) T.n_tuple (by decide +kernel) (pa_cons (pe_lc (own := [("row", 2)]) (g := (gName 2)) (tt := tYes) rfl sc_led.nd (pi_tup (pv 0)) (blkOk_by (own := [("row", 2)]) (N := ["way", "spot", "row"]) (sc := defScope s_led) (by decide +kernel)) (fun _ _ _ _ _ => (pg_name (i := 2) sc_led.nd rfl (by first | exact Or.inl rfl | exact Or.inr rfl))) (fun _ _ _ _ _ => pts_nil) (fun _ _ _ _ _ => (pe_call (ok_summed T) (hr.mono (by decide)) (by rfl) T.g_summed T.F_summed.kp T.b_summed .nil pass0 (pa_cons (pv 2) (pa_cons (pv 1) pa_nil))))) pa_nil))))), rd_led T.cf_OtherRoom h (WD E)⟩)
theorem ok_carried (T : TX K mg) : FnOk Pg w K mg base (L2.CX Pg w) 9 T.a_carried T.d_carried ["lot", "way"] (spW K T.cs P_carried) :=
  okWX T.F_carried sc_carried ln_carried (fun ds A h cdv Ar outer sh H E hr => ⟨t_carried K T.cs (WD E), (pss_cons (ps_if (pt_cmpR op_ne (pe_call (ok_room_from T) (hr.mono (by decide)) (by rfl) T.g_room_from T.F_room_from.kp T.b_room_from .nil pass0 (pa_cons (pv 1) pa_nil)) (pe_ix ix_seq (pv 0) pe_int (fun _ _ => rfl)) (nomark _)) (pss_one (ps_raise rfl (takes_of rfl rfl rfl rfl) (pmk_ox0 T.ox_OtherRoom T.kC_OtherRoom T.i_OtherRoom T.ti_OtherRoom (ok_OtherRoom T) (hr.mono (by decide)) T.bi_OtherRoom .nil pass0 (by rfl) T.g_OtherRoom))) pss_nil)
      (pss_cons (ps_setLc (i := 2) (own := [("weight", 3), ("body", 4)]) (g := (gTup K 2 (gCons (gName 3) (gCons (gName 4) gNil)))) (tt := tYes) rfl sc_carried.nd rfl rfl (sw_true rfl rfl rfl (by decide +kernel)) (pi_tup (pe_ix ix_seq (pv 0) pe_int (fun _ _ => rfl))) (blkOk_by (own := [("weight", 3), ("body", 4)]) (N := ["lot", "way", "rows", "weight", "body", "corner"]) (sc := defScope s_carried) (by decide +kernel)) (fun _ _ _ _ _ => (pg_tup rfl (pgs_cons (pg_name (i := 3) sc_carried.nd rfl (by first | exact Or.inl rfl | exact Or.inr rfl)) (pgs_cons (pg_name (i := 4) sc_carried.nd rfl (by first | exact Or.inl rfl | exact Or.inr rfl)) pgs_nil)))) (fun _ _ _ _ _ => pts_nil) (fun _ _ _ _ _ => (pe_tup (pa_cons (pv 3) (pa_cons (pe_call (ok_corners_round T) (hr.mono (by decide)) (by rfl) T.g_corners_round T.F_corners_round.kp T.b_corners_round .nil pass0 (pa_cons (pe_lc (own := [("corner", 5)]) (g := (gName 5)) (tt := tYes) rfl sc_carried.nd (pi_tup (pv 4)) (blkOk_by (own := [("corner", 5)]) (N := ["lot", "way", "rows", "weight", "body", "corner"]) (sc := ({ kind := PySem.ScopeKind.function, names := [ (PySem.Str.ofString ".0", PySem.NameKind.local), (PySem.Str.ofString "weight", PySem.NameKind.local), (PySem.Str.ofString "body", PySem.NameKind.local), (PySem.Str.ofString "corners_round", PySem.NameKind.globalImplicit), (PySem.Str.ofString "way", PySem.NameKind.cell)], isGenerator := false, isCoroutine := false, more := [] : PySem.Scope })) (by decide +kernel)) (fun _ _ _ _ _ => (pg_name (i := 5) sc_carried.nd rfl (by first | exact Or.inl rfl | exact Or.inr rfl))) (fun _ _ _ _ _ => pts_nil) (fun _ _ _ _ _ => (pe_callSD (ok_led T) (hr.mono (by decide)) (by rfl) T.g_led T.F_led.kp T.b_led .nil (fun σ => passAt takes0 σ) (pa_cons (pv 1) (pa_cons (pv 5) pa_nil))))) pa_nil)) pa_nil)))))
      (pss_one (ps_ret (pe_callSD (ok_settled_lot T) (hr.mono (by decide)) (by rfl) T.g_settled_lot T.F_settled_lot.kp T.b_settled_lot .nil (fun σ => passAt (takes_of rfl rfl rfl rfl) σ) (pa_cons (pv 2) (pa_cons (pe_callB c_len (by rfl) T.n_len PySem.boot_len (pa_cons (pv 1) pa_nil)) pa_nil))))))), rd_carried T.cf_OtherRoom h (WD E)⟩)
theorem ok__law_told (T : TX K mg) : FnOk Pg w K mg base CX0 11 T.a__law_told T.d__law_told ["_law_deed", "_law_thing", "_law_other"] (spW0 K P_told20) :=
  okW T.cs T.F__law_told sc__law_told ln_told20 (fun ds A h cdv Ar outer sh H E hr => ⟨t_told20 K T.cs, (pss_one (ps_try_manyAs (tb := fun W => (tSeq (tIfS (tTest (tOp rEq (tVar 0) (tC (V.str "made")))) (tRet (tCallNS 1 1 (spW K T.cs P_lotOf) (fun vs zs => vs ++ zs) (WE W) (tCons (tVar 1) tNil) (tCons (tC (V.int 1)) tNil))) tNext)
  (tRet (tIf (tTest (tOp rEq (tVar 0) (tC (V.str "scaled")))) (tCallSD (spW K T.cs P_scaled) [] (WE W) (tCons (tVar 1) (tCons (tVar 2) tNil))) (tCallSD (spW K T.cs P_carried) [] (WE W) (tCons (tVar 1) (tCons (tVar 2) tNil))))))) (Wout := fun _ _ _ _ => False) rfl rfl takes0 (fun W pn xe tk _ => (pss_cons (ps_if (pt_cmpR op_eq (pv 0) pe_str (nomark _)) (pss_one (ps_ret (pe_callNS (n := 1) (ks := ["room"]) (ok_lot_of T) (hr.mono (by decide)) (by rfl) T.g_lot_of T.F_lot_of.kp T.kb_lot_of (fun σ => passAt tk σ) (pa_cons (pv 1) pa_nil) (pk_cons pe_int pk_nil)))) pss_nil)
      (pss_one (ps_ret (pe_ifExp (pt_cmpR op_eq (pv 0) pe_str (nomark _)) (pe_callSD (ok_scaled T) (hr.mono (by decide)) (by rfl) T.g_scaled T.F_scaled.kp T.b_scaled .nil (fun σ => passAt tk σ) (pa_cons (pv 1) (pa_cons (pv 2) pa_nil))) (pe_callSD (ok_carried T) (hr.mono (by decide)) (by rfl) T.g_carried T.F_carried.kp T.b_carried .nil (fun σ => passAt tk σ) (pa_cons (pv 1) (pa_cons (pv 2) pa_nil)))))))) (HdsAs.cons (i := 3) (ts := fun a cls d => (tRet (tIf (tOr (tB (tCB (rIsD K a cls d (T.cs "TooGreat")) (tCons (tVar 3) (tCons (tC (V.ref (T.cs "TooMany"))) tNil)))) (tNot (tB (tCB (rIsD K a cls d (T.cs "TooGreat")) (tCons (tVar 3) (tCons (tC (V.ref (T.cs "Unfit"))) tNil)))))) (tC V.non) (tLst (tCons (tXf a cls d (T.cs "TooGreat") "word" (tVar 3)) tNil))))) sc__law_told.nd rfl rfl ⟨rfl, by decide, Or.inl T.g_TooGreat⟩ (fun a oe cls d pn hz hf => (pss_one (ps_ret (pe_ifExp (PW.pt (pw_or (pt_val (pe_callB (call_isD T.xf_TooGreat T.is_TooGreat hz hf) (by rfl) T.n_isinstance (by decide +kernel) (pa_cons (pv 3) (pa_cons (pe_glob (v := V.ref (T.cs "TooMany")) (by rfl) T.g_TooMany rfl) pa_nil)))) (pw_or1 (pt_not (pt_val (pe_callB (call_isD T.xf_TooGreat T.is_TooGreat hz hf) (by rfl) T.n_isinstance (by decide +kernel) (pa_cons (pv 3) (pa_cons (pe_glob (v := V.ref (T.cs "Unfit")) (by rfl) T.g_Unfit rfl) pa_nil)))))))) pe_non (pe_lst (pa_cons (pe_xf T.xf_TooGreat T.nw_TooGreat_word hz hf (pv 3)) pa_nil)))))) (HdsAs.cons (i := 3) (ts := fun a cls d => (tRet (tLst (tCons (tXf a cls d (T.cs "TooMany") "word" (tVar 3)) tNil)))) sc__law_told.nd rfl rfl ⟨rfl, by decide, Or.inl T.g_TooMany⟩ (fun a oe cls d pn hz hf => (pss_one (ps_ret (pe_lst (pa_cons (pe_xf T.xf_TooMany T.nw_TooMany_word hz hf (pv 3)) pa_nil))))) HdsAs.nil)))), rd_told20 T.em_TooGreat_TooGreat T.em_TooMany_TooGreat T.em_TooMany_TooMany T.ko_TooGreat_TooMany T.ko_TooGreat_Unfit h⟩)
theorem ok__law_gcd (T : TX K mg) : FnOk Pg w K mg base CX0 1 T.a__law_gcd T.d__law_gcd ["_law_one", "_law_other"] (spP K P_gcd) :=
  okP T.F__law_gcd sc__law_gcd ln__law_gcd (fun ds r h cdv A outer sh H E hr => ⟨t__law_gcd K, (pss_cons (ps_set (i := 0) sc__law_gcd.nd rfl (by first | exact Or.inl rfl | exact Or.inr rfl) (pe_callB c_abs (by rfl) T.n_abs (by decide +kernel) (pa_cons (pv 0) pa_nil)))
      (pss_cons (ps_set (i := 1) sc__law_gcd.nd rfl (by first | exact Or.inl rfl | exact Or.inr rfl) (pe_callB c_abs (by rfl) T.n_abs (by decide +kernel) (pa_cons (pv 1) pa_nil)))
      (pss_cons (ps_while PassesOwn.never (pt_cmpR op_gt (pv 1) pe_int (nomark _)) (pss_cons (ps_set (i := 2) sc__law_gcd.nd rfl (by first | exact Or.inl rfl | exact Or.inr rfl) (pv 1))
      (pss_cons (ps_set (i := 1) sc__law_gcd.nd rfl (by first | exact Or.inl rfl | exact Or.inr rfl) (pe_op op_modX (pv 0) (pv 1)))
      (pss_one (ps_set (i := 0) sc__law_gcd.nd rfl (by first | exact Or.inl rfl | exact Or.inr rfl) (pv 2))))))
      (pss_one (ps_ret (pe_callB (c_max2 rfl) (by rfl) T.n_max (by decide +kernel) (pa_cons pe_int (pa_cons (pv 0) pa_nil)))))))), rd__law_gcd h⟩)
theorem ok__law_frac (T : TX K mg) : FnOk Pg w K mg base CX0 2 T.a__law_frac T.d__law_frac ["_law_above", "_law_below"] (spP K P_frac) :=
  okP T.F__law_frac sc__law_frac ln__law_frac (fun ds r h cdv A outer sh H E hr => ⟨t__law_frac K, (pss_cons (ps_set (i := 2) sc__law_frac.nd rfl (by first | exact Or.inl rfl | exact Or.inr rfl) (pe_call (ok__law_gcd T) (hr.mono (by decide)) (by rfl) T.g__law_gcd T.F__law_gcd.kp T.b__law_gcd .nil pass0 (pa_cons (pv 0) (pa_cons (pv 1) pa_nil))))
      (pss_cons (ps_if (pt_cmpR op_lt (pv 1) pe_int (nomark _)) (pss_one (ps_set (i := 2) sc__law_frac.nd rfl (by first | exact Or.inl rfl | exact Or.inr rfl) (pe_un un_neg (pv 2)))) pss_nil)
      (pss_one (ps_ret (pe_tup (pa_cons (pe_op op_fdivX (pv 0) (pv 2)) (pa_cons (pe_op op_fdivX (pv 1) (pv 2)) pa_nil))))))), rd__law_frac h⟩)
theorem ok__law_add (T : TX K mg) : FnOk Pg w K mg base CX0 3 T.a__law_add T.d__law_add ["_law_one", "_law_other"] (spP K P_add) :=
  okP T.F__law_add sc__law_add ln__law_add (fun ds r h cdv A outer sh H E hr => ⟨t__law_add K, (pss_one (ps_ret (pe_call (ok__law_frac T) (hr.mono (by decide)) (by rfl) T.g__law_frac T.F__law_frac.kp T.b__law_frac .nil pass0 (pa_cons (pe_op op_add (pe_op op_mulW (pe_ix ix_seq (pv 0) pe_int (fun _ _ => rfl)) (pe_ix ix_seq (pv 1) pe_int (fun _ _ => rfl))) (pe_op op_mulW (pe_ix ix_seq (pv 1) pe_int (fun _ _ => rfl)) (pe_ix ix_seq (pv 0) pe_int (fun _ _ => rfl)))) (pa_cons (pe_op op_mulW (pe_ix ix_seq (pv 0) pe_int (fun _ _ => rfl)) (pe_ix ix_seq (pv 1) pe_int (fun _ _ => rfl))) pa_nil))))), rd__law_add h⟩)
theorem ok__law_mul (T : TX K mg) : FnOk Pg w K mg base CX0 3 T.a__law_mul T.d__law_mul ["_law_one", "_law_other"] (spP K P_lmul) :=
  okP T.F__law_mul sc__law_mul ln__law_mul (fun ds r h cdv A outer sh H E hr => ⟨t__law_mul K, (pss_one (ps_ret (pe_call (ok__law_frac T) (hr.mono (by decide)) (by rfl) T.g__law_frac T.F__law_frac.kp T.b__law_frac .nil pass0 (pa_cons (pe_op op_mulW (pe_ix ix_seq (pv 0) pe_int (fun _ _ => rfl)) (pe_ix ix_seq (pv 1) pe_int (fun _ _ => rfl))) (pa_cons (pe_op op_mulW (pe_ix ix_seq (pv 0) pe_int (fun _ _ => rfl)) (pe_ix ix_seq (pv 1) pe_int (fun _ _ => rfl))) pa_nil))))), rd__law_mul h⟩)
def t_law (K : Fg) : TS := (tSeq (tIfS (tOr (tTest (tOp rNe (tC (V.int 1000000000000000000)) (tOp rPowI (tC (V.int 10)) (tC (V.int 18))))) (tTest (tOp rNe (tC (V.int 2000)) (tC (V.int 2000))))) (tRet (tC (V.bl false))) tNext)
  (tSeq (tAsg (tOp (rIx K) (tLst (tCons (tC (V.int 1)) (tCons (tC (V.int 2)) (tCons (tC (V.int 5)) tNil)))) (tCall (spB K P_pull) [] E0 (tCons (tVar 1) (tCons (tC (V.int 3)) tNil)))) (gName 2))
  (tSeq (tAsg (tOp (rIx K) (tLst (tCons (tVar 2) (tCons (tVar 2) (tCons (tVar 2) (tCons (tC (V.int 1999)) (tCons (tC (V.int 2000)) (tCons (tC (V.int 2001)) tNil))))))) (tCall (spB K P_pull) [] E0 (tCons (tVar 1) (tCons (tC (V.int 6)) tNil)))) (gName 3))
  (tSeq (tAsg (tLc (iRng1 (tCons (tVar 3) tNil)) (gName 7) tYes (tTup (tCons (tOp rAddI (tC (V.int 1)) (tOp rModI (tVar 7) (tC (V.int 3)))) (tCons (tTup (tCons (tTup (tCons (tTup (tCons (tVar 7) (tCons (tC (V.int 1)) tNil))) tNil)) tNil)) tNil))) [7]) (gName 4))
  (tSeq (tAsg (tOp rSubI (tOp rAddI (tOp rPowI (tC (V.int 10)) (tC (V.int 18))) (tCall (spB K P_pull) [] E0 (tCons (tVar 1) (tCons (tC (V.int 3)) tNil)))) (tC (V.int 1))) (gName 5))
  (tSeq (tAsg (tCall (spB K P_pull) [] E0 (tCons (tVar 1) (tCons (tC (V.int 5)) tNil))) (gName 6))
  (tSeq (tAsg (tCall (spB K P_pull) [] E0 (tCons (tVar 1) (tCons (tVar 3) tNil))) (gName 7))
  (tSeq (tIfS (tTest (tOp rEq (tVar 6) (tC (V.int 0)))) (tAsg (tTup (tCons (tOp (rIx K) (tLst (tCons (tVar 5) (tCons (tUn rNegI (tVar 5)) tNil))) (tCall (spB K P_pull) [] E0 (tCons (tVar 1) (tCons (tC (V.int 2)) tNil)))) (tCons (tOp (rIx K) (tOp (rIx K) (tVar 4) (tVar 7)) (tC (V.int 1))) tNil))) (gSub (tVar 4) (tVar 7) rSetL)) tNext)
  (tSeq (tIfS (tTest (tOp rEq (tVar 6) (tC (V.int 1)))) (tAsg (tTup (tCons (tC (V.int 2)) (tCons (tTup (tCons (tTup (tCons (tTup (tCons (tVar 5) (tCons (tC (V.int 1)) tNil))) tNil)) tNil)) tNil))) (gSub (tVar 4) (tOp rSubI (tVar 3) (tC (V.int 1))) rSetL)) tNext)
  (tSeq (tIfS (tTest (tOp rEq (tVar 6) (tC (V.int 2)))) (tAsg (tTup (tCons (tC (V.int 2)) (tCons (tTup (tCons (tTup (tCons (tTup (tCons (tUn rNegI (tVar 5)) (tCons (tC (V.int 1)) tNil))) tNil)) tNil)) tNil))) (gSub (tVar 4) (tC (V.int 0)) rSetL)) tNext)
  (tSeq (tIfS (tTest (tOp rEq (tVar 6) (tC (V.int 3)))) (tAsg (tTup (tCons (tC (V.int 2)) (tCons (tTup (tCons (tTup (tCons (tTup (tCons (tUn rNegI (tC (V.int 1))) (tCons (tVar 5) tNil))) tNil)) tNil)) tNil))) (gSub (tVar 4) (tC (V.int 0)) rSetL)) tNext)
  (tSeq (tAsg (tCall (spW0 K P_ldue20) [] E0 (tCons (tVar 4) tNil)) (gName 8))
  (tSeq (tIfS (tNot (tB (tCall (spP K (P_like 10)) [] E0 (tCons (tCall (spW0 K P_told20) [] E0 (tCons (tC (V.str "made")) (tCons (tCB (rListQ K) (tCons (tRevL K (tVar 4)) tNil)) (tCons (tC (V.int 0)) tNil)))) (tCons (tVar 8) tNil))))) (tRet (tC (V.bl false))) tNext)
  (tSeq (tAsg (tLc (iRng1 (tCons (tC (V.int 3)) tNil)) (gName 7) tYes (tTup (tCons (tOp rSubI (tC (V.int 2)) (tOp rMulI (tC (V.int 3)) (tOp rModI (tVar 7) (tC (V.int 2))))) (tCons (tTup (tCons (tTup (tCons (tTup (tCons (tOp rAddI (tVar 7) (tC (V.int 1))) (tCons (tOp rAddI (tOp rMulI (tC (V.int 2)) (tVar 7)) (tC (V.int 3))) tNil))) tNil)) tNil)) tNil))) [7]) (gName 9))
  (tSeq (tAsg (tTup (tCons (tC (V.int 1)) (tCons (tCB (rTupQ K) (tCons (tVar 9) tNil)) tNil))) (gName 10))
  (tSeq (tAsg (tOp rAddI (tOp rDivI (tOp rSubI (tOp rPowI (tC (V.int 10)) (tC (V.int 18))) (tCall (spB K P_pull) [] E0 (tCons (tVar 1) (tCons (tC (V.int 3)) tNil)))) (tOp (rIx K) (tLst (tCons (tC (V.int 1)) (tCons (tC (V.int 2)) (tCons (tC (V.int 10)) tNil)))) (tCall (spB K P_pull) [] E0 (tCons (tVar 1) (tCons (tC (V.int 3)) tNil))))) (tCall (spB K P_pull) [] E0 (tCons (tVar 1) (tCons (tC (V.int 2)) tNil)))) (gName 11))
  (tSeq (tAsg (tCall (spW0 K P_ldue20) [] E0 (tCons (tLc (iTup K (tOp (rIx K) (tVar 10) (tC (V.int 1)))) (gTup K 2 (gCons (gName 14) (gCons (gName 15) gNil))) tYes (tTup (tCons (tOp rMulI (tVar 14) (tVar 11)) (tCons (tVar 15) tNil))) [14, 15]) tNil)) (gName 8))
  (tSeq (tIfS (tNot (tB (tCall (spP K (P_like 10)) [] E0 (tCons (tCall (spW0 K P_told20) [] E0 (tCons (tC (V.str "scaled")) (tCons (tVar 10) (tCons (tVar 11) tNil)))) (tCons (tVar 8) tNil))))) (tRet (tC (V.bl false))) tNext)
  (tSeq (tAsg (tTup (tCons (tVar 11) (tCons (tC (V.int 1)) tNil))) (gName 12))
  (tSeq (tAsg (tLc (iTup K (tOp (rIx K) (tVar 10) (tC (V.int 1)))) (gTup K 2 (gCons (gName 14) (gCons (gName 15) gNil))) tYes (tTup (tCons (tVar 14) (tCons (tTup (tCons (tTup (tCons (tCall (spP K P_add) [] E0 (tCons (tTup (tCons (tC (V.int 1)) (tCons (tC (V.int 3)) tNil))) (tCons (tCall (spP K P_lmul) [] E0 (tCons (tVar 12) (tCons (tOp (rIx K) (tOp (rIx K) (tVar 15) (tC (V.int 0))) (tC (V.int 0))) tNil))) tNil))) tNil)) tNil)) tNil))) [14, 15]) (gName 13))
  (tRet (tCall (spP K (P_like 10)) [] E0 (tCons (tCall (spW0 K P_told20) [] E0 (tCons (tC (V.str "carried")) (tCons (tVar 10) (tCons (tTup (tCons (tTup (tCons (tVar 12) (tCons (tTup (tCons (tC (V.int 1)) (tCons (tC (V.int 3)) tNil))) tNil))) tNil)) tNil)))) (tCons (tCall (spW0 K P_ldue20) [] E0 (tCons (tVar 13) tNil)) tNil))))))))))))))))))))))))
-- slots of law: 0 _law_script, 1 _law_bag_here, 2 _law_few, 3 _law_many, 4 _law_rows, 5 _law_edge, 6 _law_kind, 7 _law_at, 8 _law_due_here, 9 _law_small, 10 _law_lot, 11 _law_number, 12 _law_step, 13 _law_ends, 14 _law_weight, 15 _law_body
open U.Hull
theorem sw_fgt {tu : TS} {G : Gam} {Φ : Out → Prop} {W : WX} (i : Nat) (h : SW K cs W tu (G.set i .un) Φ) : SW K cs W tu G Φ := fun Wd B ad H0 H σ D S q => by
  by_cases hi : i < σ.length
  · have S2 := S.setU (i := i) (o := σ[i])
    rw [List.set_getElem_self] at S2
    exact h Wd B ad H0 H σ D S2 fun o p => (q o p).mono (less_sub fun a z => Zs.set_of (fun _ z => by cases z) z)
  · rw [List.set_eq_of_length_le (by rw [← S.len]; omega)] at h
    exact h Wd B ad H0 H σ D S q
theorem mneg {n : Int} (h : 0 < n) : val (-1, n) < 0 := by
  have hq : (0 : Rat) < (n : Rat) := by exact_mod_cast h
  have e : val (-1, n) * (n : Rat) = -1 := Rat.div_mul_cancel (by grind)
  rcases tri (val (-1, n)) with k | k | k
  · exact k
  · rw [k] at e; grind
  · have := Rat.mul_pos k hq; grind
theorem okD_due {ps : List (Int × Fr)} (h : ps.length ≤ 100000) : okD 9 (dueD ps) = true := by
  unfold dueD
  split
  · rfl
  · split
    · refine okD_tup (n := 8) (by simp) fun x hx => ?_
      simp at hx
      rcases hx with rfl | rfl
      · exact okD_i _ _
      · refine okD_tup (n := 7) (by simp; omega) fun y hy => ?_
        obtain ⟨r, hr, rfl⟩ := List.mem_map.mp hy
        rfl
    · rfl
theorem rd_law (ns : List Int) (hl : ns.length ≤ 63) : SW K cs W0 (t_law K) (.d (.list (ns.map PyData.int)) :: .bag :: List.replicate (16 - 2) .un) (fun o => o = .rt (.bool true)) := by
  unfold t_law
  refine sw_seq ?_
  walk_at "s"
  refine ⟨by unfold CPow; decide, ?_⟩
  walk_at "s"
  refine cnd_F rfl ?_
  walk_at "s"
  refine cnd_F rfl ?_
  walk_at "s"
  refine sw_seq ?_
  walk_at "s"
  rename_i j j0 j1
  obtain ⟨few, mf, ef⟩ := atI_in (f := PyData.int) (xs := [1, 2, 5]) (j := j) j0 j1
  have hf : few = 1 ∨ few = 2 ∨ few = 5 := by simpa using mf
  refine ⟨_, ef, ?_⟩
  walk_at "s"
  refine sw_seq ?_
  walk_at "s"
  refine ⟨by simp, _, rfl, ?_⟩
  walk_at "s"
  rename_i k k0 k1
  obtain ⟨mn, mm, em⟩ := atI_in (f := PyData.int) (xs := [few, few, few, 1999, 2000, 2001]) (j := k) k0 k1
  have hmn : 1 ≤ mn ∧ mn ≤ 2001 := by
    simp at mm
    omega
  refine ⟨_, em, ?_⟩
  obtain ⟨m, rfl⟩ : ∃ m : Nat, mn = (m : Int) := ⟨mn.toNat, by omega⟩
  have hm1 : 1 ≤ m := by omega
  have hm : m ≤ 2001 := by omega
  walk_at "s"
  refine sw_seq (sw_asgF (ef_lc ?_))
  walk_at "s"
  rw [show ((m : Nat) : Int).toNat = m from rfl, rng_mapZ]
  refine lcM (fun i => rw' (o1 (g0 i))) (by rw [List.length_range]; omega) (unk1 rfl) (fun i mi => ?_) ?_
  · walk_at "s"
    refine ⟨by unfold CNz; decide, ?_⟩
    walk_at "s"
    rfl
  have e0 : (List.range m).map (fun i => rw' (o1 (g0 i))) = ((ps0 m).map o1).map rw' := by
    unfold ps0
    rw [List.map_map, List.map_map]
    rfl
  rw [e0]
  walk_at "s"
  refine sw_seq ?_
  walk_at "s"
  refine ⟨by unfold CPow; decide, ?_⟩
  walk_at "s"
  rename_i ev v0 v1
  rw [show (10 : Int) ^ Int.toNat 18 = 1000000000000000000 from rfl]
  generalize hed : (1000000000000000000 + ev - 1 : Int) = ed
  have hed1 : 999999999999999999 ≤ ed ∧ ed ≤ 1000000000000000001 := by omega
  have bed : Bd 61 ed := by unfold Bd; omega
  have bed' : Bd 61 (-ed) := by unfold Bd; omega
  refine sw_seq ?_
  walk_at "s"
  rename_i kd kd0 kd1
  refine sw_seq ?_
  walk_at "s"
  rename_i at_ at0 at1
  obtain ⟨t, rfl⟩ : ∃ t : Nat, at_ = (t : Int) := ⟨at_.toNat, by omega⟩
  have ht : t < m := by omega
  have lps : (ps0 m).length = m := by simp [ps0]
  have St : ∀ i, i < m → atI (((ps0 m).map o1).map rw') (i : Int) = some (rw' (o1 (g0 i))) := fun i hi => by
    have : (((ps0 m).map o1).map rw')[i]? = some (rw' (o1 (g0 i))) := by
      unfold ps0
      rw [List.map_map, List.map_map, List.getElem?_map, List.getElem?_range hi]
      rfl
    obtain ⟨z, hz, e⟩ := at_nat (ψ := fun z => z = rw' (o1 (g0 i))) this rfl
    rw [hz, e]
  have setE : ∀ (i : Nat) (q : Int × Fr), (((ps0 m).map o1).map rw').set i (rw' (o1 q)) = ((((ps0 m).set i q).map o1).map rw') := fun i q => by rw [List.map_set, List.map_set]
  have ixm : ∀ i : Nat, i < m → ixN (((ps0 m).map o1).map rw').length (i : Int) = some i := fun i hi => by
    rw [List.length_map, List.length_map, lps]
    exact ixN_nat hi
  refine sw_cut (fun G => ∃ ps, ((kd = 0 ∧ FinP m ps) ∨ (kd ≠ 0 ∧ ps = ps0 m)) ∧ G = [.d (.list (ns.map PyData.int)), .bag, .d (.int few), .d (.int m), .ow (ol ((ps.map o1).map rw')), .d (.int ed), .d (.int kd), .d (.int t), .un, .un, .un, .un, .un, .un, .un, .un]) ?_ ?_
  · walk_at "s"
    refine cnd_d (fun h => ?_) (fun h => ?_)
    · refine sw_setI (i := 4) rfl ?_
      walk_at "s"
      rename_i u u0 u1
      obtain ⟨wv, mw, ew⟩ := atI_in (f := PyData.int) (xs := [ed, -ed]) (j := u) u0 u1
      have hw : wv ≠ 0 ∧ Bd 61 wv := by
        simp at mw
        rcases mw with rfl | rfl
        · exact ⟨by omega, bed⟩
        · exact ⟨by omega, bed'⟩
      refine ⟨_, ew, ?_⟩
      refine ew_ix (ew_ixO (i := 4) rfl ?_)
      walk_at "s"
      refine ⟨_, St t ht, ?_⟩
      walk_at "s"
      refine ⟨_, t, rfl, ixm t ht, ?_⟩
      refine ⟨_, rfl, (ps0 m).set t (wv, ((t : Int), 1)), .inl ⟨h, fin_set hm ht (gd_i (by show Bd 61 (t : Int); unfold Bd; omega) (by decide)) hw.1 hw.2 (fun i hi => ?_) fun i hi hi2 => ?_⟩, ?_⟩
      · show (i : Rat) < val ((t : Int), 1)
        rw [val_i]; exact cast_lt hi
      · show val ((t : Int), 1) < (i : Rat)
        rw [val_i]; exact cast_lt hi
      · rw [← setE]
        rfl
    · walk_at "s"
      exact ⟨ps0 m, .inr ⟨h, rfl⟩, rfl⟩
  rintro _ ⟨ps1, hp1, rfl⟩
  have hp1 : (kd ≤ 0 ∧ FinP m ps1) ∨ (0 < kd ∧ ps1 = ps0 m) := hp1.imp (fun z => ⟨by omega, z.2⟩) fun z => ⟨by omega, z.2⟩
  have big : ∀ i : Nat, i < m → (i : Rat) < (ed : Rat) := fun i hi => by exact_mod_cast (show (i : Int) < ed by omega)
  have neg : ∀ i : Nat, ((-ed : Int) : Rat) < (i : Rat) := fun i => by exact_mod_cast (show -ed < (i : Int) by omega)
  refine sw_cut (fun G => ∃ ps, ((kd ≤ 1 ∧ FinP m ps) ∨ (1 < kd ∧ ps = ps0 m)) ∧ G = [.d (.list (ns.map PyData.int)), .bag, .d (.int few), .d (.int m), .ow (ol ((ps.map o1).map rw')), .d (.int ed), .d (.int kd), .d (.int t), .un, .un, .un, .un, .un, .un, .un, .un]) ?_ ?_
  · walk_at "s"
    refine cnd_d (fun h => ?_) (fun h => ?_)
    · obtain ⟨_, rfl⟩ := hp1.resolve_left fun z => by omega
      refine sw_setI (i := 4) rfl ?_
      walk_at "s"
      rw [show ((m : Int) - 1) = ((m - 1 : Nat) : Int) by omega]
      refine ⟨_, m - 1, rfl, ixm (m - 1) (by omega), ?_⟩
      refine ⟨_, rfl, (ps0 m).set (m - 1) (2, (ed, 1)), .inl ⟨by omega, fin_set hm (by omega) (gd_i bed (by decide)) (show (2 : Int) ≠ 0 by decide) (show Bd 61 2 by unfold Bd; decide) (fun i hi => ?_) fun i hi hi2 => ?_⟩, ?_⟩
      · show (i : Rat) < val (ed, 1)
        rw [val_i]; exact big i (by omega)
      · omega
      · rw [← setE]
        rfl
    · walk_at "s"
      rcases hp1 with ⟨z1, z2⟩ | ⟨z1, z2⟩
      · exact ⟨_, .inl ⟨by omega, z2⟩, rfl⟩
      · exact ⟨_, .inr ⟨by omega, z2⟩, rfl⟩
  rintro _ ⟨ps2, hp2, rfl⟩
  refine sw_cut (fun G => ∃ ps, ((kd ≤ 2 ∧ FinP m ps) ∨ (2 < kd ∧ ps = ps0 m)) ∧ G = [.d (.list (ns.map PyData.int)), .bag, .d (.int few), .d (.int m), .ow (ol ((ps.map o1).map rw')), .d (.int ed), .d (.int kd), .d (.int t), .un, .un, .un, .un, .un, .un, .un, .un]) ?_ ?_
  · walk_at "s"
    refine cnd_d (fun h => ?_) (fun h => ?_)
    · obtain ⟨_, rfl⟩ := hp2.resolve_left fun z => by omega
      refine sw_setI (i := 4) rfl ?_
      walk_at "s"
      refine ⟨_, 0, rfl, ixm 0 (by omega), ?_⟩
      refine ⟨_, rfl, (ps0 m).set 0 (2, (-ed, 1)), .inl ⟨by omega, fin_set hm (by omega) (gd_i bed' (by decide)) (show (2 : Int) ≠ 0 by decide) (show Bd 61 2 by unfold Bd; decide) (fun i hi => ?_) fun i hi hi2 => ?_⟩, ?_⟩
      · omega
      · show val (-ed, 1) < (i : Rat)
        rw [val_i]; exact neg i
      · rw [← setE]
        rfl
    · walk_at "s"
      rcases hp2 with ⟨z1, z2⟩ | ⟨z1, z2⟩
      · exact ⟨_, .inl ⟨by omega, z2⟩, rfl⟩
      · exact ⟨_, .inr ⟨by omega, z2⟩, rfl⟩
  rintro _ ⟨ps3, hp3, rfl⟩
  refine sw_cut (fun G => ∃ ps, ((kd ≤ 3 ∧ FinP m ps) ∨ (3 < kd ∧ ps = ps0 m)) ∧ G = [.d (.list (ns.map PyData.int)), .bag, .d (.int few), .d (.int m), .ow (ol ((ps.map o1).map rw')), .d (.int ed), .d (.int kd), .d (.int t), .un, .un, .un, .un, .un, .un, .un, .un]) ?_ ?_
  · walk_at "s"
    refine cnd_d (fun h => ?_) (fun h => ?_)
    · obtain ⟨_, rfl⟩ := hp3.resolve_left fun z => by omega
      refine sw_setI (i := 4) rfl ?_
      walk_at "s"
      refine ⟨_, 0, rfl, ixm 0 (by omega), ?_⟩
      refine ⟨_, rfl, (ps0 m).set 0 (2, (-1, ed)), .inl ⟨by omega, fin_set hm (by omega) (gd_m bed (by omega)) (show (2 : Int) ≠ 0 by decide) (show Bd 61 2 by unfold Bd; decide) (fun i hi => ?_) fun i hi hi2 => ?_⟩, ?_⟩
      · omega
      · show val (-1, ed) < (i : Rat)
        have hi0 : (1 : Rat) ≤ (i : Rat) := by exact_mod_cast hi
        have := mneg (show 0 < ed by omega)
        grind
      · rw [← setE]
        rfl
    · walk_at "s"
      rcases hp3 with ⟨z1, z2⟩ | ⟨z1, z2⟩
      · exact ⟨_, .inl ⟨by omega, z2⟩, rfl⟩
      · exact ⟨_, .inr ⟨by omega, z2⟩, rfl⟩
  rintro _ ⟨ps4, hp4, rfl⟩
  have hF : FinP m ps4 := by
    rcases hp4 with ⟨_, z⟩ | ⟨_, z⟩
    · exact z
    · rw [z]; exact fin_0 hm
  have l4 := hF.len
  refine sw_freeze (i := 4) rfl ?_
  refine sw_seq ?_
  walk_at "s"
  refine ⟨ps4, rfl, by omega, ?_⟩
  walk_at "s"
  refine sw_seq ?_
  walk_at "s"
  refine c_made hF hm ?_ _
  walk_at "s"
  refine c_like rfl (okD_due (by omega)) ?_
  walk_at "s"
  refine sw_fgt 7 ?_
  refine sw_seq ?_
  walk_at "s"
  rw [show Int.toNat 3 = 3 from rfl, rng_mapZ]
  refine lcM (fun i : Nat => rw' (o1 (2 - 3 * (i : Int).fmod 2, ((i : Int) + 1, 2 * (i : Int) + 3)))) (by decide) (unk1 rfl) (fun i mi => ?_) ?_
  · have hi : i < 3 := List.mem_range.mp mi
    walk_at "s"
    refine ⟨by unfold CNz; decide, ?_⟩
    walk_at "s"
    have f2 : 0 ≤ (i : Int).fmod 2 ∧ (i : Int).fmod 2 < 2 := by
      rw [Int.fmod_eq_emod_of_nonneg _ (by decide)]
      omega
    refine ⟨Bd.cm (n := 10) (m := 10) (by unfold Bd; decide) (by unfold Bd; omega) (by decide), ?_⟩
    walk_at "s"
    refine ⟨Bd.cm (n := 10) (m := 10) (by unfold Bd; decide) (by unfold Bd; omega) (by decide), ?_⟩
    walk_at "s"
    rfl
  have eq3 : (List.range 3).map (fun i : Nat => rw' (o1 (2 - 3 * (i : Int).fmod 2, ((i : Int) + 1, 2 * (i : Int) + 3)))) = (qs3.map o1).map rw' := by rfl
  rw [eq3]
  walk_at "s"
  refine sw_seq ?_
  walk_at "s"
  refine sw_seq ?_
  walk_at "s"
  refine ⟨by unfold CPow; decide, ?_⟩
  walk_at "s"
  rename_i a a0 a1 b b0 b1
  obtain ⟨dv, md, edv⟩ := atI_in (f := PyData.int) (xs := [1, 2, 10]) (j := b) b0 b1
  have hd : dv = 1 ∨ dv = 2 ∨ dv = 10 := by simpa using md
  refine ⟨_, edv, ?_⟩
  refine ⟨_, rfl, ⟨by omega, by rcases hd with rfl | rfl | rfl <;> decide⟩, ?_⟩
  walk_at "s"
  rename_i c c0 c1
  rw [show (10 : Int) ^ Int.toNat 18 = 1000000000000000000 from rfl]
  have hq : 90000000000000000 ≤ (1000000000000000000 - a : Int).fdiv dv ∧ (1000000000000000000 - a : Int).fdiv dv ≤ 1000000000000000000 := by
    rw [Int.fdiv_eq_ediv_of_nonneg _ (by omega)]
    rcases hd with rfl | rfl | rfl <;> omega
  generalize (1000000000000000000 - a : Int).fdiv dv = q0 at hq
  generalize hnn : q0 + c = n
  have n1 : 0 < n := by omega
  have bn : Bd 61 n := by unfold Bd; omega
  refine sw_seq ?_
  walk_at "s"
  refine lcM (f := rw') (xs := qs3.map o1) (fun p => rw' (p.1 * n, p.2)) (by decide) (unk2 rfl rfl) (fun p mp => ?_) ?_
  · have bp : Bd 61 p.1 := by
      simp [qs3] at mp
      rcases mp with rfl | rfl | rfl <;> (show Bd 61 _; unfold Bd o1; decide)
    walk_at "s"
    refine ⟨bp.cm bn (by decide), ?_⟩
    walk_at "s"
    rfl
  have es : (qs3.map o1).map (fun p => rw' (p.1 * n, p.2)) = ((qs3.map fun q => (q.1 * n, q.2)).map o1).map rw' := by rfl
  rw [es]
  walk_at "s"
  refine ⟨qs3.map fun q => (q.1 * n, q.2), rfl, by rw [List.length_map]; decide, ?_⟩
  walk_at "s"
  refine sw_seq ?_
  walk_at "s"
  refine c_scaled20 (by omega) bn ?_
  walk_at "s"
  refine c_like rfl (okD_due (by rw [List.length_map]; decide)) ?_
  walk_at "s"
  refine sw_seq ?_
  walk_at "s"
  refine sw_seq ?_
  walk_at "s"
  have g13 : Gd 3 (1, 3) := qs3_gd (2, (1, 3)) (by simp [qs3])
  have gn : Gd 61 (n, 1) := gd_i bn (by decide)
  refine lcM (f := rw') (xs := qs3.map o1) (fun p => rw' (p.1, [[mvF n ((p.2.headD []).headD (0, 1))]])) (by decide) (unk2 rfl rfl) (fun p mp => ?_) ?_
  · obtain ⟨q, hq, rfl⟩ := List.mem_map.mp mp
    have gq := qs3_gd q hq
    walk_at "s"
    refine c_lmul (p := (n, 1)) (q := q.2) gn gq (by decide) fun gm => ?_
    walk_at "s"
    refine c_ladd (p := (1, 3)) (q := mulF (n, 1) q.2) g13 gm (by decide) fun _ => ?_
    walk_at "s"
    rfl
  have es2 : (qs3.map o1).map (fun p => rw' (p.1, [[mvF n ((p.2.headD []).headD (0, 1))]])) = ((qs3.map fun q => (q.1, mvF n q.2)).map o1).map rw' := by rfl
  rw [es2]
  walk_at "s"
  refine c_carried20 n1 bn ?_
  walk_at "s"
  refine ⟨qs3.map fun q => (q.1, mvF n q.2), rfl, by rw [List.length_map]; decide, ?_⟩
  walk_at "s"
  refine c_like rfl (okD_due (by rw [List.length_map]; decide)) ?_
  walk_at "s"
  rfl
theorem ok_law (T : TX K mg) {f : Addr} {fd : FuncData} (F : Fun K "law" "law" s_law f fd) : FnOk Pg w K mg base CX0 12 f fd ["_law_script"] (spP K PLaw) :=
  okLawW T.cs F sc_law rfl (by decide) (fun ns hl cdv A outer sh H E hr => ⟨t_law K, (pss_cons (ps_set (i := 1) sc_law.nd rfl (by first | exact Or.inl rfl | exact Or.inr rfl) (pe_call (ok__law_bag T) (hr.mono (by decide)) (by rfl) T.g__law_bag T.F__law_bag.kp T.b__law_bag .nil pass0 (pa_cons (pv 0) pa_nil)))
      (pss_cons (ps_if (PW.pt (pw_or (pt_cmpR op_ne (pe_glob (v := V.int 1000000000000000000) (by rfl) T.c_LIMIT ⟨_, rfl⟩) (pe_op op_powI pe_int pe_int) (nomark _)) (pw_or1 (pt_cmpR op_ne (pe_glob (v := V.int 2000) (by rfl) T.c_MOST ⟨_, rfl⟩) pe_int (nomark _))))) (pss_one (ps_ret pe_bl)) pss_nil)
      (pss_cons (ps_set (i := 2) sc_law.nd rfl (by first | exact Or.inl rfl | exact Or.inr rfl) (pe_ix ix_seq (pe_lst (pa_cons pe_int (pa_cons pe_int (pa_cons pe_int pa_nil)))) (pe_call (ok__law_pull T) (hr.mono (by decide)) (by rfl) T.g__law_pull T.F__law_pull.kp T.b__law_pull .nil pass0 (pa_cons (pv 1) (pa_cons pe_int pa_nil))) (fun _ _ => rfl)))
      (pss_cons (ps_set (i := 3) sc_law.nd rfl (by first | exact Or.inl rfl | exact Or.inr rfl) (pe_ix ix_seq (pe_lst (pa_cons (pv 2) (pa_cons (pv 2) (pa_cons (pv 2) (pa_cons pe_int (pa_cons pe_int (pa_cons pe_int pa_nil))))))) (pe_call (ok__law_pull T) (hr.mono (by decide)) (by rfl) T.g__law_pull T.F__law_pull.kp T.b__law_pull .nil pass0 (pa_cons (pv 1) (pa_cons pe_int pa_nil))) (fun _ _ => rfl)))
      (pss_cons (ps_setLc (i := 4) (own := [("_law_at", 7)]) (g := (gName 7)) (tt := tYes) rfl sc_law.nd rfl rfl (sw_true rfl rfl rfl (by decide +kernel)) (pi_range1 (by rfl) T.n_range (pa_cons (pv 3) pa_nil)) (blkOk_by (own := [("_law_at", 7)]) (N := ["_law_script", "_law_bag_here", "_law_few", "_law_many", "_law_rows", "_law_edge", "_law_kind", "_law_at", "_law_due_here", "_law_small", "_law_lot", "_law_number", "_law_step", "_law_ends", "_law_weight", "_law_body"]) (sc := defScope s_law) (by decide +kernel)) (fun _ _ _ _ _ => (pg_name (i := 7) sc_law.nd rfl (by first | exact Or.inl rfl | exact Or.inr rfl))) (fun _ _ _ _ _ => pts_nil) (fun _ _ _ _ _ => (pe_tup (pa_cons (pe_op op_addI pe_int (pe_op op_modI (pv 7) pe_int)) (pa_cons (pe_tup (pa_cons (pe_tup (pa_cons (pe_tup (pa_cons (pv 7) (pa_cons pe_int pa_nil))) pa_nil)) pa_nil)) pa_nil)))))
      (pss_cons (ps_set (i := 5) sc_law.nd rfl (by first | exact Or.inl rfl | exact Or.inr rfl) (pe_op op_subI (pe_op op_addI (pe_op op_powI pe_int pe_int) (pe_call (ok__law_pull T) (hr.mono (by decide)) (by rfl) T.g__law_pull T.F__law_pull.kp T.b__law_pull .nil pass0 (pa_cons (pv 1) (pa_cons pe_int pa_nil)))) pe_int))
      (pss_cons (ps_set (i := 6) sc_law.nd rfl (by first | exact Or.inl rfl | exact Or.inr rfl) (pe_call (ok__law_pull T) (hr.mono (by decide)) (by rfl) T.g__law_pull T.F__law_pull.kp T.b__law_pull .nil pass0 (pa_cons (pv 1) (pa_cons pe_int pa_nil))))
      (pss_cons (ps_set (i := 7) sc_law.nd rfl (by first | exact Or.inl rfl | exact Or.inr rfl) (pe_call (ok__law_pull T) (hr.mono (by decide)) (by rfl) T.g__law_pull T.F__law_pull.kp T.b__law_pull .nil pass0 (pa_cons (pv 1) (pa_cons (pv 3) pa_nil))))
      (pss_cons (ps_if (pt_cmpR op_eq (pv 6) pe_int (nomark _)) (pss_one (ps_asg (pe_tup (pa_cons (pe_ix ix_seq (pe_lst (pa_cons (pv 5) (pa_cons (pe_un un_negI (pv 5)) pa_nil))) (pe_call (ok__law_pull T) (hr.mono (by decide)) (by rfl) T.g__law_pull T.F__law_pull.kp T.b__law_pull .nil pass0 (pa_cons (pv 1) (pa_cons pe_int pa_nil))) (fun _ _ => rfl)) (pa_cons (pe_ix ix_seq (pe_ix ix_seq (pv 4) (pv 7) (fun _ _ => rfl)) pe_int (fun _ _ => rfl)) pa_nil))) (pg_sub (pv 4) (pv 7) set_list))) pss_nil)
      (pss_cons (ps_if (pt_cmpR op_eq (pv 6) pe_int (nomark _)) (pss_one (ps_asg (pe_tup (pa_cons pe_int (pa_cons (pe_tup (pa_cons (pe_tup (pa_cons (pe_tup (pa_cons (pv 5) (pa_cons pe_int pa_nil))) pa_nil)) pa_nil)) pa_nil))) (pg_sub (pv 4) (pe_op op_subI (pv 3) pe_int) set_list))) pss_nil)
      (pss_cons (ps_if (pt_cmpR op_eq (pv 6) pe_int (nomark _)) (pss_one (ps_asg (pe_tup (pa_cons pe_int (pa_cons (pe_tup (pa_cons (pe_tup (pa_cons (pe_tup (pa_cons (pe_un un_negI (pv 5)) (pa_cons pe_int pa_nil))) pa_nil)) pa_nil)) pa_nil))) (pg_sub (pv 4) pe_int set_list))) pss_nil)
      (pss_cons (ps_if (pt_cmpR op_eq (pv 6) pe_int (nomark _)) (pss_one (ps_asg (pe_tup (pa_cons pe_int (pa_cons (pe_tup (pa_cons (pe_tup (pa_cons (pe_tup (pa_cons (pe_un un_negI pe_int) (pa_cons (pv 5) pa_nil))) pa_nil)) pa_nil)) pa_nil))) (pg_sub (pv 4) pe_int set_list))) pss_nil)
      (pss_cons (ps_set (i := 8) sc_law.nd rfl (by first | exact Or.inl rfl | exact Or.inr rfl) (pe_call (ok__law_due T) (hr.mono (by decide)) (by rfl) T.g__law_due T.F__law_due.kp T.b__law_due .nil pass0 (pa_cons (pv 4) pa_nil)))
      (pss_cons (ps_if (pt_not (pt_val (pe_call (ok__law_like T 10) (hr.mono (by decide)) (by rfl) T.g__law_like T.F__law_like.kp T.b__law_like .nil pass0 (pa_cons (pe_call (ok__law_told T) (hr.mono (by decide)) (by rfl) T.g__law_told T.F__law_told.kp T.b__law_told .nil pass0 (pa_cons pe_str (pa_cons (pe_callTy c_list (by rfl) T.n_list (by decide +kernel) (pa_cons (pe_revL (pv 4)) pa_nil)) (pa_cons pe_int pa_nil)))) (pa_cons (pv 8) pa_nil))))) (pss_one (ps_ret pe_bl)) pss_nil)
      (pss_cons (ps_setLc (i := 9) (own := [("_law_at", 7)]) (g := (gName 7)) (tt := tYes) rfl sc_law.nd rfl rfl (sw_true rfl rfl rfl (by decide +kernel)) (pi_range1 (by rfl) T.n_range (pa_cons pe_int pa_nil)) (blkOk_by (own := [("_law_at", 7)]) (N := ["_law_script", "_law_bag_here", "_law_few", "_law_many", "_law_rows", "_law_edge", "_law_kind", "_law_at", "_law_due_here", "_law_small", "_law_lot", "_law_number", "_law_step", "_law_ends", "_law_weight", "_law_body"]) (sc := defScope s_law) (by decide +kernel)) (fun _ _ _ _ _ => (pg_name (i := 7) sc_law.nd rfl (by first | exact Or.inl rfl | exact Or.inr rfl))) (fun _ _ _ _ _ => pts_nil) (fun _ _ _ _ _ => (pe_tup (pa_cons (pe_op op_subI pe_int (pe_op op_mulI pe_int (pe_op op_modI (pv 7) pe_int))) (pa_cons (pe_tup (pa_cons (pe_tup (pa_cons (pe_tup (pa_cons (pe_op op_addI (pv 7) pe_int) (pa_cons (pe_op op_addI (pe_op op_mulI pe_int (pv 7)) pe_int) pa_nil))) pa_nil)) pa_nil)) pa_nil)))))
      (pss_cons (ps_set (i := 10) sc_law.nd rfl (by first | exact Or.inl rfl | exact Or.inr rfl) (pe_tup (pa_cons pe_int (pa_cons (pe_callTy c_tuple (by rfl) T.n_tuple (by decide +kernel) (pa_cons (pv 9) pa_nil)) pa_nil))))
      (pss_cons (ps_set (i := 11) sc_law.nd rfl (by first | exact Or.inl rfl | exact Or.inr rfl) (pe_op op_addI (pe_op op_divI (pe_op op_subI (pe_op op_powI pe_int pe_int) (pe_call (ok__law_pull T) (hr.mono (by decide)) (by rfl) T.g__law_pull T.F__law_pull.kp T.b__law_pull .nil pass0 (pa_cons (pv 1) (pa_cons pe_int pa_nil)))) (pe_ix ix_seq (pe_lst (pa_cons pe_int (pa_cons pe_int (pa_cons pe_int pa_nil)))) (pe_call (ok__law_pull T) (hr.mono (by decide)) (by rfl) T.g__law_pull T.F__law_pull.kp T.b__law_pull .nil pass0 (pa_cons (pv 1) (pa_cons pe_int pa_nil))) (fun _ _ => rfl))) (pe_call (ok__law_pull T) (hr.mono (by decide)) (by rfl) T.g__law_pull T.F__law_pull.kp T.b__law_pull .nil pass0 (pa_cons (pv 1) (pa_cons pe_int pa_nil)))))
      (pss_cons (ps_set (i := 8) sc_law.nd rfl (by first | exact Or.inl rfl | exact Or.inr rfl) (pe_call (ok__law_due T) (hr.mono (by decide)) (by rfl) T.g__law_due T.F__law_due.kp T.b__law_due .nil pass0 (pa_cons (pe_lc (own := [("_law_weight", 14), ("_law_body", 15)]) (g := (gTup K 2 (gCons (gName 14) (gCons (gName 15) gNil)))) (tt := tYes) rfl sc_law.nd (pi_tup (pe_ix ix_seq (pv 10) pe_int (fun _ _ => rfl))) (blkOk_by (own := [("_law_weight", 14), ("_law_body", 15)]) (N := ["_law_script", "_law_bag_here", "_law_few", "_law_many", "_law_rows", "_law_edge", "_law_kind", "_law_at", "_law_due_here", "_law_small", "_law_lot", "_law_number", "_law_step", "_law_ends", "_law_weight", "_law_body"]) (sc := defScope s_law) (by decide +kernel)) (fun _ _ _ _ _ => (pg_tup rfl (pgs_cons (pg_name (i := 14) sc_law.nd rfl (by first | exact Or.inl rfl | exact Or.inr rfl)) (pgs_cons (pg_name (i := 15) sc_law.nd rfl (by first | exact Or.inl rfl | exact Or.inr rfl)) pgs_nil)))) (fun _ _ _ _ _ => pts_nil) (fun _ _ _ _ _ => (pe_tup (pa_cons (pe_op op_mulI (pv 14) (pv 11)) (pa_cons (pv 15) pa_nil))))) pa_nil)))
      (pss_cons (ps_if (pt_not (pt_val (pe_call (ok__law_like T 10) (hr.mono (by decide)) (by rfl) T.g__law_like T.F__law_like.kp T.b__law_like .nil pass0 (pa_cons (pe_call (ok__law_told T) (hr.mono (by decide)) (by rfl) T.g__law_told T.F__law_told.kp T.b__law_told .nil pass0 (pa_cons pe_str (pa_cons (pv 10) (pa_cons (pv 11) pa_nil)))) (pa_cons (pv 8) pa_nil))))) (pss_one (ps_ret pe_bl)) pss_nil)
      (pss_cons (ps_set (i := 12) sc_law.nd rfl (by first | exact Or.inl rfl | exact Or.inr rfl) (pe_tup (pa_cons (pv 11) (pa_cons pe_int pa_nil))))
      (pss_cons (ps_setLc (i := 13) (own := [("_law_weight", 14), ("_law_body", 15)]) (g := (gTup K 2 (gCons (gName 14) (gCons (gName 15) gNil)))) (tt := tYes) rfl sc_law.nd rfl rfl (sw_true rfl rfl rfl (by decide +kernel)) (pi_tup (pe_ix ix_seq (pv 10) pe_int (fun _ _ => rfl))) (blkOk_by (own := [("_law_weight", 14), ("_law_body", 15)]) (N := ["_law_script", "_law_bag_here", "_law_few", "_law_many", "_law_rows", "_law_edge", "_law_kind", "_law_at", "_law_due_here", "_law_small", "_law_lot", "_law_number", "_law_step", "_law_ends", "_law_weight", "_law_body"]) (sc := defScope s_law) (by decide +kernel)) (fun _ _ _ _ _ => (pg_tup rfl (pgs_cons (pg_name (i := 14) sc_law.nd rfl (by first | exact Or.inl rfl | exact Or.inr rfl)) (pgs_cons (pg_name (i := 15) sc_law.nd rfl (by first | exact Or.inl rfl | exact Or.inr rfl)) pgs_nil)))) (fun _ _ _ _ _ => pts_nil) (fun _ _ _ _ _ => (pe_tup (pa_cons (pv 14) (pa_cons (pe_tup (pa_cons (pe_tup (pa_cons (pe_call (ok__law_add T) (hr.mono (by decide)) (by rfl) T.g__law_add T.F__law_add.kp T.b__law_add .nil pass0 (pa_cons (pe_tup (pa_cons pe_int (pa_cons pe_int pa_nil))) (pa_cons (pe_call (ok__law_mul T) (hr.mono (by decide)) (by rfl) T.g__law_mul T.F__law_mul.kp T.b__law_mul .nil pass0 (pa_cons (pv 12) (pa_cons (pe_ix ix_seq (pe_ix ix_seq (pv 15) pe_int (fun _ _ => rfl)) pe_int (fun _ _ => rfl)) pa_nil))) pa_nil))) pa_nil)) pa_nil)) pa_nil)))))
      (pss_one (ps_ret (pe_call (ok__law_like T 10) (hr.mono (by decide)) (by rfl) T.g__law_like T.F__law_like.kp T.b__law_like .nil pass0 (pa_cons (pe_call (ok__law_told T) (hr.mono (by decide)) (by rfl) T.g__law_told T.F__law_told.kp T.b__law_told .nil pass0 (pa_cons pe_str (pa_cons (pv 10) (pa_cons (pe_tup (pa_cons (pe_tup (pa_cons (pv 12) (pa_cons (pe_tup (pa_cons pe_int (pa_cons pe_int pa_nil))) pa_nil))) pa_nil)) pa_nil)))) (pa_cons (pe_call (ok__law_due T) (hr.mono (by decide)) (by rfl) T.g__law_due T.F__law_due.kp T.b__law_due .nil pass0 (pa_cons (pv 13) pa_nil)) pa_nil)))))))))))))))))))))))))), rd_law ns hl⟩)
end
theorem all_mk {l : PySem.W.OpenLaw} {w : World} {K : PySem.W.Frag} {h : Heap} {mg : Str → Option Value} {fa f0 f1 f2 f3 f4 f5 f6 f7 f8 f9 f10 f11 f12 f13 f14 f15 f16 f17 f18 f19 f20 f21 f22 f23 f24 f25 f26 f27 f28 f29 f30 f31 f32 f33 f34 f35 f36 f37 f38 : Addr} (X : K.In h) (G : h.Ns mainGlobals mg) (hfa : mg "law" = some (.ref fa))
    {od0 an0 : Option Addr} {sl0 : Array (Option Value)} {oc0 kV0 dc0 pm0 cd0 ct0 : Value}
    {od1 an1 : Option Addr} {sl1 : Array (Option Value)} {oc1 kV1 dc1 pm1 cd1 ct1 : Value}
    {od2 an2 : Option Addr} {sl2 : Array (Option Value)} {oc2 kV2 dc2 pm2 cd2 ct2 : Value}
    {od3 an3 : Option Addr} {sl3 : Array (Option Value)} {oc3 kV3 dc3 pm3 cd3 ct3 : Value}
    {od4 an4 : Option Addr} {sl4 : Array (Option Value)} {oc4 dc4 pm4 cd4 ct4 : Value}
    {kD4 : Addr} {tk4_0 : Tok}
    {od5 an5 : Option Addr} {sl5 : Array (Option Value)} {oc5 kV5 dc5 pm5 cd5 ct5 : Value}
    {od6 an6 : Option Addr} {sl6 : Array (Option Value)} {oc6 kV6 dc6 pm6 cd6 ct6 : Value}
    {od7 an7 : Option Addr} {sl7 : Array (Option Value)} {oc7 kV7 dc7 pm7 cd7 ct7 : Value}
    {od8 an8 : Option Addr} {sl8 : Array (Option Value)} {oc8 kV8 dc8 pm8 cd8 ct8 : Value}
    {od9 an9 : Option Addr} {sl9 : Array (Option Value)} {oc9 kV9 dc9 pm9 cd9 ct9 : Value}
    {od10 an10 : Option Addr} {sl10 : Array (Option Value)} {oc10 kV10 dc10 pm10 cd10 ct10 : Value}
    {od11 an11 : Option Addr} {sl11 : Array (Option Value)} {oc11 kV11 dc11 pm11 cd11 ct11 : Value}
    {od12 an12 : Option Addr} {sl12 : Array (Option Value)} {oc12 kV12 dc12 pm12 cd12 ct12 : Value}
    {od13 an13 : Option Addr} {sl13 : Array (Option Value)} {oc13 kV13 dc13 pm13 cd13 ct13 : Value}
    {od14 an14 : Option Addr} {sl14 : Array (Option Value)} {oc14 kV14 dc14 pm14 cd14 ct14 : Value}
    {dT14 : Addr} {ot14 : Value} {odt14 : Option Addr} {nt14 : Nat} {slt14 : Array (Option Value)} {tk14_0 : Tok}
    {od15 an15 : Option Addr} {sl15 : Array (Option Value)} {oc15 kV15 dc15 pm15 cd15 ct15 : Value}
    {od16 an16 : Option Addr} {sl16 : Array (Option Value)} {oc16 kV16 dc16 pm16 cd16 ct16 : Value}
    {od17 an17 : Option Addr} {sl17 : Array (Option Value)} {oc17 kV17 dc17 pm17 cd17 ct17 : Value}
    {od18 an18 : Option Addr} {sl18 : Array (Option Value)} {oc18 kV18 dc18 pm18 cd18 ct18 : Value}
    {od19 an19 : Option Addr} {sl19 : Array (Option Value)} {oc19 kV19 dc19 pm19 cd19 ct19 : Value}
    {od20 an20 : Option Addr} {sl20 : Array (Option Value)} {oc20 kV20 dc20 pm20 cd20 ct20 : Value}
    {od21 an21 : Option Addr} {sl21 : Array (Option Value)} {oc21 kV21 dc21 pm21 cd21 ct21 : Value}
    {od22 an22 : Option Addr} {sl22 : Array (Option Value)} {oc22 kV22 dc22 pm22 cd22 ct22 : Value}
    {od23 an23 : Option Addr} {sl23 : Array (Option Value)} {oc23 kV23 dc23 pm23 cd23 ct23 : Value}
    {od24 an24 : Option Addr} {sl24 : Array (Option Value)} {oc24 dc24 pm24 cd24 ct24 : Value}
    {kD24 : Addr} {tk24_0 : Tok}
    {od25 an25 : Option Addr} {sl25 : Array (Option Value)} {oc25 kV25 dc25 pm25 cd25 ct25 : Value}
    {od26 an26 : Option Addr} {sl26 : Array (Option Value)} {oc26 dc26 pm26 cd26 ct26 : Value}
    {kD26 : Addr} {tk26_0 : Tok}
    {od27 an27 : Option Addr} {sl27 : Array (Option Value)} {oc27 kV27 dc27 pm27 cd27 ct27 : Value}
    {od28 an28 : Option Addr} {sl28 : Array (Option Value)} {oc28 kV28 dc28 pm28 cd28 ct28 : Value}
    {od29 an29 : Option Addr} {sl29 : Array (Option Value)} {oc29 kV29 dc29 pm29 cd29 ct29 : Value}
    {od30 an30 : Option Addr} {sl30 : Array (Option Value)} {oc30 kV30 dc30 pm30 cd30 ct30 : Value}
    {od31 an31 : Option Addr} {sl31 : Array (Option Value)} {oc31 kV31 dc31 pm31 cd31 ct31 : Value}
    {od32 an32 : Option Addr} {sl32 : Array (Option Value)} {oc32 kV32 dc32 pm32 cd32 ct32 : Value}
    {od33 an33 : Option Addr} {sl33 : Array (Option Value)} {oc33 kV33 dc33 pm33 cd33 ct33 : Value}
    {od34 an34 : Option Addr} {sl34 : Array (Option Value)} {oc34 kV34 dc34 pm34 cd34 ct34 : Value}
    {od35 an35 : Option Addr} {sl35 : Array (Option Value)} {oc35 kV35 dc35 pm35 cd35 ct35 : Value}
    {od36 an36 : Option Addr} {sl36 : Array (Option Value)} {oc36 kV36 dc36 pm36 cd36 ct36 : Value}
    {od37 an37 : Option Addr} {sl37 : Array (Option Value)} {oc37 kV37 dc37 pm37 cd37 ct37 : Value}
    {od38 an38 : Option Addr} {sl38 : Array (Option Value)} {oc38 kV38 dc38 pm38 cd38 ct38 : Value}
    {ca0 ci0 : Addr} {cod0 can0 : Option Addr} {csl0 : Array (Option Value)} {coc0 ckV0 cdc0 cpm0 ccd0 cct0 : Value}
    {cT0 : Addr} {cot0 : Value} {codt0 : Option Addr} {cnt0 : Nat} {cslt0 : Array (Option Value)} {ctk0_0 : Tok}
    {ca1 ci1 : Addr} {cod1 can1 : Option Addr} {csl1 : Array (Option Value)} {coc1 ckV1 cdc1 cpm1 ccd1 cct1 : Value}
    {ca2 ci2 : Addr} {cod2 can2 : Option Addr} {csl2 : Array (Option Value)} {coc2 ckV2 cdc2 cpm2 ccd2 cct2 : Value}
    {ca3 ci3 : Addr} {cod3 can3 : Option Addr} {csl3 : Array (Option Value)} {coc3 ckV3 cdc3 cpm3 ccd3 cct3 : Value}
    {ca4 ci4 : Addr} {cod4 can4 : Option Addr} {csl4 : Array (Option Value)} {coc4 ckV4 cdc4 cpm4 ccd4 cct4 : Value}
    {ca5 ci5 : Addr} {cod5 can5 : Option Addr} {csl5 : Array (Option Value)} {coc5 ckV5 cdc5 cpm5 ccd5 cct5 : Value}
    {ca6 ci6 : Addr} {cod6 can6 : Option Addr} {csl6 : Array (Option Value)} {coc6 ckV6 cdc6 cpm6 ccd6 cct6 : Value}
    {tkc0 : Tok}
    {tkc1 : Tok}
    (a0 : PySem.W.nsIn K mainGlobals "_law_bag" = some (some (.ref f0))) (l0 : K.lookup f0 = some ⟨oc0, od0, .func (PySem.W.fnOf "_law_bag" "_law_bag" (defArgs s__law_bag) (defBody s__law_bag) (defScope s__law_bag) .none kV0 dc0 pm0 an0 cd0 ct0), sl0⟩) (c0 : PySem.W.codeIn K cd0 "_law_bag" = true) (k0 : PySem.W.keepIn K (.ref f0) = true)
    (a1 : PySem.W.nsIn K mainGlobals "_law_pull" = some (some (.ref f1))) (l1 : K.lookup f1 = some ⟨oc1, od1, .func (PySem.W.fnOf "_law_pull" "_law_pull" (defArgs s__law_pull) (defBody s__law_pull) (defScope s__law_pull) .none kV1 dc1 pm1 an1 cd1 ct1), sl1⟩) (c1 : PySem.W.codeIn K cd1 "_law_pull" = true) (k1 : PySem.W.keepIn K (.ref f1) = true)
    (a2 : PySem.W.nsIn K mainGlobals "_law_due" = some (some (.ref f2))) (l2 : K.lookup f2 = some ⟨oc2, od2, .func (PySem.W.fnOf "_law_due" "_law_due" (defArgs s__law_due) (defBody s__law_due) (defScope s__law_due) .none kV2 dc2 pm2 an2 cd2 ct2), sl2⟩) (c2 : PySem.W.codeIn K cd2 "_law_due" = true) (k2 : PySem.W.keepIn K (.ref f2) = true)
    (a3 : PySem.W.nsIn K mainGlobals "_law_like" = some (some (.ref f3))) (l3 : K.lookup f3 = some ⟨oc3, od3, .func (PySem.W.fnOf "_law_like" "_law_like" (defArgs s__law_like) (defBody s__law_like) (defScope s__law_like) .none kV3 dc3 pm3 an3 cd3 ct3), sl3⟩) (c3 : PySem.W.codeIn K cd3 "_law_like" = true) (k3 : PySem.W.keepIn K (.ref f3) = true)
    (a4 : PySem.W.nsIn K mainGlobals "is_small" = some (some (.ref f4))) (l4 : K.lookup f4 = some ⟨oc4, od4, .func (PySem.W.fnOf "is_small" "is_small" (defArgs s_is_small) (defBody s_is_small) (defScope s_is_small) .none (.ref kD4) dc4 pm4 an4 cd4 ct4), sl4⟩) (c4 : PySem.W.codeIn K cd4 "is_small" = true) (k4 : PySem.W.keepIn K (.ref f4) = true)
    (t4_0 : PySem.W.nsIn K kD4 "limit" = some (some (Value.int 1000000000000000000 tk4_0)))
    (a5 : PySem.W.nsIn K mainGlobals "bounded" = some (some (.ref f5))) (l5 : K.lookup f5 = some ⟨oc5, od5, .func (PySem.W.fnOf "bounded" "bounded" (defArgs s_bounded) (defBody s_bounded) (defScope s_bounded) .none kV5 dc5 pm5 an5 cd5 ct5), sl5⟩) (c5 : PySem.W.codeIn K cd5 "bounded" = true) (k5 : PySem.W.keepIn K (.ref f5) = true)
    (a6 : PySem.W.nsIn K mainGlobals "shared" = some (some (.ref f6))) (l6 : K.lookup f6 = some ⟨oc6, od6, .func (PySem.W.fnOf "shared" "shared" (defArgs s_shared) (defBody s_shared) (defScope s_shared) .none kV6 dc6 pm6 an6 cd6 ct6), sl6⟩) (c6 : PySem.W.codeIn K cd6 "shared" = true) (k6 : PySem.W.keepIn K (.ref f6) = true)
    (a7 : PySem.W.nsIn K mainGlobals "common_below" = some (some (.ref f7))) (l7 : K.lookup f7 = some ⟨oc7, od7, .func (PySem.W.fnOf "common_below" "common_below" (defArgs s_common_below) (defBody s_common_below) (defScope s_common_below) .none kV7 dc7 pm7 an7 cd7 ct7), sl7⟩) (c7 : PySem.W.codeIn K cd7 "common_below" = true) (k7 : PySem.W.keepIn K (.ref f7) = true)
    (a8 : PySem.W.nsIn K mainGlobals "whole_row" = some (some (.ref f8))) (l8 : K.lookup f8 = some ⟨oc8, od8, .func (PySem.W.fnOf "whole_row" "whole_row" (defArgs s_whole_row) (defBody s_whole_row) (defScope s_whole_row) .none kV8 dc8 pm8 an8 cd8 ct8), sl8⟩) (c8 : PySem.W.codeIn K cd8 "whole_row" = true) (k8 : PySem.W.keepIn K (.ref f8) = true)
    (a9 : PySem.W.nsIn K mainGlobals "in_order" = some (some (.ref f9))) (l9 : K.lookup f9 = some ⟨oc9, od9, .func (PySem.W.fnOf "in_order" "in_order" (defArgs s_in_order) (defBody s_in_order) (defScope s_in_order) .none kV9 dc9 pm9 an9 cd9 ct9), sl9⟩) (c9 : PySem.W.codeIn K cd9 "in_order" = true) (k9 : PySem.W.keepIn K (.ref f9) = true)
    (a10 : PySem.W.nsIn K mainGlobals "gathered" = some (some (.ref f10))) (l10 : K.lookup f10 = some ⟨oc10, od10, .func (PySem.W.fnOf "gathered" "gathered" (defArgs s_gathered) (defBody s_gathered) (defScope s_gathered) .none kV10 dc10 pm10 an10 cd10 ct10), sl10⟩) (c10 : PySem.W.codeIn K cd10 "gathered" = true) (k10 : PySem.W.keepIn K (.ref f10) = true)
    (a11 : PySem.W.nsIn K mainGlobals "settled_lot" = some (some (.ref f11))) (l11 : K.lookup f11 = some ⟨oc11, od11, .func (PySem.W.fnOf "settled_lot" "settled_lot" (defArgs s_settled_lot) (defBody s_settled_lot) (defScope s_settled_lot) .none kV11 dc11 pm11 an11 cd11 ct11), sl11⟩) (c11 : PySem.W.codeIn K cd11 "settled_lot" = true) (k11 : PySem.W.keepIn K (.ref f11) = true)
    (a12 : PySem.W.nsIn K mainGlobals "rising" = some (some (.ref f12))) (l12 : K.lookup f12 = some ⟨oc12, od12, .func (PySem.W.fnOf "rising" "rising" (defArgs s_rising) (defBody s_rising) (defScope s_rising) .none kV12 dc12 pm12 an12 cd12 ct12), sl12⟩) (c12 : PySem.W.codeIn K cd12 "rising" = true) (k12 : PySem.W.keepIn K (.ref f12) = true)
    (a13 : PySem.W.nsIn K mainGlobals "order" = some (some (.ref f13))) (l13 : K.lookup f13 = some ⟨oc13, od13, .func (PySem.W.fnOf "order" "order" (defArgs s_order) (defBody s_order) (defScope s_order) .none kV13 dc13 pm13 an13 cd13 ct13), sl13⟩) (c13 : PySem.W.codeIn K cd13 "order" = true) (k13 : PySem.W.keepIn K (.ref f13) = true)
    (a14 : PySem.W.nsIn K mainGlobals "part" = some (some (.ref f14))) (l14 : K.lookup f14 = some ⟨oc14, od14, .func (PySem.W.fnOf "part" "part" (defArgs s_part) (defBody s_part) (defScope s_part) (.ref dT14) kV14 dc14 pm14 an14 cd14 ct14), sl14⟩) (c14 : PySem.W.codeIn K cd14 "part" = true) (k14 : PySem.W.keepIn K (.ref f14) = true)
    (t14 : K.lookup dT14 = some ⟨ot14, odt14, .seq [Value.int 1 tk14_0].toArray nt14, slt14⟩)
    (a15 : PySem.W.nsIn K mainGlobals "minus" = some (some (.ref f15))) (l15 : K.lookup f15 = some ⟨oc15, od15, .func (PySem.W.fnOf "minus" "minus" (defArgs s_minus) (defBody s_minus) (defScope s_minus) .none kV15 dc15 pm15 an15 cd15 ct15), sl15⟩) (c15 : PySem.W.codeIn K cd15 "minus" = true) (k15 : PySem.W.keepIn K (.ref f15) = true)
    (a16 : PySem.W.nsIn K mainGlobals "times" = some (some (.ref f16))) (l16 : K.lookup f16 = some ⟨oc16, od16, .func (PySem.W.fnOf "times" "times" (defArgs s_times) (defBody s_times) (defScope s_times) .none kV16 dc16 pm16 an16 cd16 ct16), sl16⟩) (c16 : PySem.W.codeIn K cd16 "times" = true) (k16 : PySem.W.keepIn K (.ref f16) = true)
    (a17 : PySem.W.nsIn K mainGlobals "across" = some (some (.ref f17))) (l17 : K.lookup f17 = some ⟨oc17, od17, .func (PySem.W.fnOf "across" "across" (defArgs s_across) (defBody s_across) (defScope s_across) .none kV17 dc17 pm17 an17 cd17 ct17), sl17⟩) (c17 : PySem.W.codeIn K cd17 "across" = true) (k17 : PySem.W.keepIn K (.ref f17) = true)
    (a18 : PySem.W.nsIn K mainGlobals "step_from" = some (some (.ref f18))) (l18 : K.lookup f18 = some ⟨oc18, od18, .func (PySem.W.fnOf "step_from" "step_from" (defArgs s_step_from) (defBody s_step_from) (defScope s_step_from) .none kV18 dc18 pm18 an18 cd18 ct18), sl18⟩) (c18 : PySem.W.codeIn K cd18 "step_from" = true) (k18 : PySem.W.keepIn K (.ref f18) = true)
    (a19 : PySem.W.nsIn K mainGlobals "side_of" = some (some (.ref f19))) (l19 : K.lookup f19 = some ⟨oc19, od19, .func (PySem.W.fnOf "side_of" "side_of" (defArgs s_side_of) (defBody s_side_of) (defScope s_side_of) .none kV19 dc19 pm19 an19 cd19 ct19), sl19⟩) (c19 : PySem.W.codeIn K cd19 "side_of" = true) (k19 : PySem.W.keepIn K (.ref f19) = true)
    (a20 : PySem.W.nsIn K mainGlobals "hull_side" = some (some (.ref f20))) (l20 : K.lookup f20 = some ⟨oc20, od20, .func (PySem.W.fnOf "hull_side" "hull_side" (defArgs s_hull_side) (defBody s_hull_side) (defScope s_hull_side) .none kV20 dc20 pm20 an20 cd20 ct20), sl20⟩) (c20 : PySem.W.codeIn K cd20 "hull_side" = true) (k20 : PySem.W.keepIn K (.ref f20) = true)
    (a21 : PySem.W.nsIn K mainGlobals "corners_round" = some (some (.ref f21))) (l21 : K.lookup f21 = some ⟨oc21, od21, .func (PySem.W.fnOf "corners_round" "corners_round" (defArgs s_corners_round) (defBody s_corners_round) (defScope s_corners_round) .none kV21 dc21 pm21 an21 cd21 ct21), sl21⟩) (c21 : PySem.W.codeIn K cd21 "corners_round" = true) (k21 : PySem.W.keepIn K (.ref f21) = true)
    (a22 : PySem.W.nsIn K mainGlobals "is_whole" = some (some (.ref f22))) (l22 : K.lookup f22 = some ⟨oc22, od22, .func (PySem.W.fnOf "is_whole" "is_whole" (defArgs s_is_whole) (defBody s_is_whole) (defScope s_is_whole) .none kV22 dc22 pm22 an22 cd22 ct22), sl22⟩) (c22 : PySem.W.codeIn K cd22 "is_whole" = true) (k22 : PySem.W.keepIn K (.ref f22) = true)
    (a23 : PySem.W.nsIn K mainGlobals "is_part" = some (some (.ref f23))) (l23 : K.lookup f23 = some ⟨oc23, od23, .func (PySem.W.fnOf "is_part" "is_part" (defArgs s_is_part) (defBody s_is_part) (defScope s_is_part) .none kV23 dc23 pm23 an23 cd23 ct23), sl23⟩) (c23 : PySem.W.codeIn K cd23 "is_part" = true) (k23 : PySem.W.keepIn K (.ref f23) = true)
    (a24 : PySem.W.nsIn K mainGlobals "is_spot" = some (some (.ref f24))) (l24 : K.lookup f24 = some ⟨oc24, od24, .func (PySem.W.fnOf "is_spot" "is_spot" (defArgs s_is_spot) (defBody s_is_spot) (defScope s_is_spot) .none (.ref kD24) dc24 pm24 an24 cd24 ct24), sl24⟩) (c24 : PySem.W.codeIn K cd24 "is_spot" = true) (k24 : PySem.W.keepIn K (.ref f24) = true)
    (t24_0 : PySem.W.nsIn K kD24 "room" = some (some (Value.int 2 tk24_0)))
    (a25 : PySem.W.nsIn K mainGlobals "body_of" = some (some (.ref f25))) (l25 : K.lookup f25 = some ⟨oc25, od25, .func (PySem.W.fnOf "body_of" "body_of" (defArgs s_body_of) (defBody s_body_of) (defScope s_body_of) .none kV25 dc25 pm25 an25 cd25 ct25), sl25⟩) (c25 : PySem.W.codeIn K cd25 "body_of" = true) (k25 : PySem.W.keepIn K (.ref f25) = true)
    (a26 : PySem.W.nsIn K mainGlobals "lot_of" = some (some (.ref f26))) (l26 : K.lookup f26 = some ⟨oc26, od26, .func (PySem.W.fnOf "lot_of" "lot_of" (defArgs s_lot_of) (defBody s_lot_of) (defScope s_lot_of) .none (.ref kD26) dc26 pm26 an26 cd26 ct26), sl26⟩) (c26 : PySem.W.codeIn K cd26 "lot_of" = true) (k26 : PySem.W.keepIn K (.ref f26) = true)
    (t26_0 : PySem.W.nsIn K kD26 "room" = some (some (Value.int 2 tk26_0)))
    (a27 : PySem.W.nsIn K mainGlobals "scaled" = some (some (.ref f27))) (l27 : K.lookup f27 = some ⟨oc27, od27, .func (PySem.W.fnOf "scaled" "scaled" (defArgs s_scaled) (defBody s_scaled) (defScope s_scaled) .none kV27 dc27 pm27 an27 cd27 ct27), sl27⟩) (c27 : PySem.W.codeIn K cd27 "scaled" = true) (k27 : PySem.W.keepIn K (.ref f27) = true)
    (a28 : PySem.W.nsIn K mainGlobals "room_from" = some (some (.ref f28))) (l28 : K.lookup f28 = some ⟨oc28, od28, .func (PySem.W.fnOf "room_from" "room_from" (defArgs s_room_from) (defBody s_room_from) (defScope s_room_from) .none kV28 dc28 pm28 an28 cd28 ct28), sl28⟩) (c28 : PySem.W.codeIn K cd28 "room_from" = true) (k28 : PySem.W.keepIn K (.ref f28) = true)
    (a29 : PySem.W.nsIn K mainGlobals "plus" = some (some (.ref f29))) (l29 : K.lookup f29 = some ⟨oc29, od29, .func (PySem.W.fnOf "plus" "plus" (defArgs s_plus) (defBody s_plus) (defScope s_plus) .none kV29 dc29 pm29 an29 cd29 ct29), sl29⟩) (c29 : PySem.W.codeIn K cd29 "plus" = true) (k29 : PySem.W.keepIn K (.ref f29) = true)
    (a30 : PySem.W.nsIn K mainGlobals "summed" = some (some (.ref f30))) (l30 : K.lookup f30 = some ⟨oc30, od30, .func (PySem.W.fnOf "summed" "summed" (defArgs s_summed) (defBody s_summed) (defScope s_summed) .none kV30 dc30 pm30 an30 cd30 ct30), sl30⟩) (c30 : PySem.W.codeIn K cd30 "summed" = true) (k30 : PySem.W.keepIn K (.ref f30) = true)
    (a31 : PySem.W.nsIn K mainGlobals "led" = some (some (.ref f31))) (l31 : K.lookup f31 = some ⟨oc31, od31, .func (PySem.W.fnOf "led" "led" (defArgs s_led) (defBody s_led) (defScope s_led) .none kV31 dc31 pm31 an31 cd31 ct31), sl31⟩) (c31 : PySem.W.codeIn K cd31 "led" = true) (k31 : PySem.W.keepIn K (.ref f31) = true)
    (a32 : PySem.W.nsIn K mainGlobals "carried" = some (some (.ref f32))) (l32 : K.lookup f32 = some ⟨oc32, od32, .func (PySem.W.fnOf "carried" "carried" (defArgs s_carried) (defBody s_carried) (defScope s_carried) .none kV32 dc32 pm32 an32 cd32 ct32), sl32⟩) (c32 : PySem.W.codeIn K cd32 "carried" = true) (k32 : PySem.W.keepIn K (.ref f32) = true)
    (a33 : PySem.W.nsIn K mainGlobals "_law_told" = some (some (.ref f33))) (l33 : K.lookup f33 = some ⟨oc33, od33, .func (PySem.W.fnOf "_law_told" "_law_told" (defArgs s__law_told) (defBody s__law_told) (defScope s__law_told) .none kV33 dc33 pm33 an33 cd33 ct33), sl33⟩) (c33 : PySem.W.codeIn K cd33 "_law_told" = true) (k33 : PySem.W.keepIn K (.ref f33) = true)
    (a34 : PySem.W.nsIn K mainGlobals "_law_gcd" = some (some (.ref f34))) (l34 : K.lookup f34 = some ⟨oc34, od34, .func (PySem.W.fnOf "_law_gcd" "_law_gcd" (defArgs s__law_gcd) (defBody s__law_gcd) (defScope s__law_gcd) .none kV34 dc34 pm34 an34 cd34 ct34), sl34⟩) (c34 : PySem.W.codeIn K cd34 "_law_gcd" = true) (k34 : PySem.W.keepIn K (.ref f34) = true)
    (a35 : PySem.W.nsIn K mainGlobals "_law_frac" = some (some (.ref f35))) (l35 : K.lookup f35 = some ⟨oc35, od35, .func (PySem.W.fnOf "_law_frac" "_law_frac" (defArgs s__law_frac) (defBody s__law_frac) (defScope s__law_frac) .none kV35 dc35 pm35 an35 cd35 ct35), sl35⟩) (c35 : PySem.W.codeIn K cd35 "_law_frac" = true) (k35 : PySem.W.keepIn K (.ref f35) = true)
    (a36 : PySem.W.nsIn K mainGlobals "_law_add" = some (some (.ref f36))) (l36 : K.lookup f36 = some ⟨oc36, od36, .func (PySem.W.fnOf "_law_add" "_law_add" (defArgs s__law_add) (defBody s__law_add) (defScope s__law_add) .none kV36 dc36 pm36 an36 cd36 ct36), sl36⟩) (c36 : PySem.W.codeIn K cd36 "_law_add" = true) (k36 : PySem.W.keepIn K (.ref f36) = true)
    (a37 : PySem.W.nsIn K mainGlobals "_law_mul" = some (some (.ref f37))) (l37 : K.lookup f37 = some ⟨oc37, od37, .func (PySem.W.fnOf "_law_mul" "_law_mul" (defArgs s__law_mul) (defBody s__law_mul) (defScope s__law_mul) .none kV37 dc37 pm37 an37 cd37 ct37), sl37⟩) (c37 : PySem.W.codeIn K cd37 "_law_mul" = true) (k37 : PySem.W.keepIn K (.ref f37) = true)
    (a38 : PySem.W.nsIn K mainGlobals "law" = some (some (.ref f38))) (l38 : K.lookup f38 = some ⟨oc38, od38, .func (PySem.W.fnOf "law" "law" (defArgs s_law) (defBody s_law) (defScope s_law) .none kV38 dc38 pm38 an38 cd38 ct38), sl38⟩) (c38 : PySem.W.codeIn K cd38 "law" = true) (k38 : PySem.W.keepIn K (.ref f38) = true)
    (y0g : PySem.W.nsIn K mainGlobals "Unfit" = some (some (.ref ca0)))
    (y0o : PySem.W.excOver K ca0 [.type "ValueError", .type "Exception", .type "BaseException", .type "object"] = true)
    (y0m : PySem.W.excInitIn K ca0 [.type "ValueError", .type "Exception", .type "BaseException", .type "object"] "ValueError.__new__" = true)
    (y0h : PySem.W.hasDictIn K ca0 = true)
    (y0s : PySem.W.findIn K (.ref ca0) "__setattr__" = some (some (.builtin "object.__setattr__")))
    (y0x : PySem.W.subIn K (.ref ca0) (.type "BaseException") = some true)
    (y0t : PySem.W.typeIn K (.ref ca0) = some (.type "type"))
    (y0k : PySem.W.keepIn K (.ref ca0) = true)
    (y0i : PySem.W.findIn K (.ref ca0) "__init__" = some (some (.ref ci0)))
    (y0f : PySem.W.typeIn K (.ref ci0) = some (.type "function"))
    (y0l : K.lookup ci0 = some ⟨coc0, cod0, .func (PySem.W.fnOf "__init__" "Unfit.__init__" (defArgs si_Unfit) (defBody si_Unfit) (defScope si_Unfit) (.ref cT0) ckV0 cdc0 cpm0 can0 ccd0 cct0), csl0⟩)
    (y0c : PySem.W.codeIn K ccd0 "Unfit.__init__" = true)
    (y0p : PySem.W.keepIn K (.ref ci0) = true)
    (y0a : PySem.W.findIn K (.ref ca0) "__getattribute__" = some (some (.builtin "BaseException.__getattribute__")))
    (y0b : PySem.W.findIn K (.ref ca0) "__getattr__" = some none)
    (y0n_word : PySem.W.findIn K (.ref ca0) "word" = some none)
    (y0r : PySem.W.readsIn K ca0 (.type "type") = true)
    (y0q : PySem.W.specialIn K (.ref ca0) "__getattribute__" = some (some (.builtin "type.__getattribute__")))
    (y0v : PySem.W.findCls K (.ref ca0) (.type "type") "__init__" = some (.val (.ref ci0)))
    (y0d : K.lookup cT0 = some ⟨cot0, codt0, .seq [Value.str "Unfit" ctk0_0].toArray cnt0, cslt0⟩)
    (y1g : PySem.W.nsIn K mainGlobals "TooGreat" = some (some (.ref ca1)))
    (y1o : PySem.W.excOver K ca1 [.type "ValueError", .type "Exception", .type "BaseException", .type "object"] = true)
    (y1m : PySem.W.excInitIn K ca1 [.type "ValueError", .type "Exception", .type "BaseException", .type "object"] "ValueError.__new__" = true)
    (y1h : PySem.W.hasDictIn K ca1 = true)
    (y1s : PySem.W.findIn K (.ref ca1) "__setattr__" = some (some (.builtin "object.__setattr__")))
    (y1x : PySem.W.subIn K (.ref ca1) (.type "BaseException") = some true)
    (y1t : PySem.W.typeIn K (.ref ca1) = some (.type "type"))
    (y1k : PySem.W.keepIn K (.ref ca1) = true)
    (y1i : PySem.W.findIn K (.ref ca1) "__init__" = some (some (.ref ci1)))
    (y1f : PySem.W.typeIn K (.ref ci1) = some (.type "function"))
    (y1l : K.lookup ci1 = some ⟨coc1, cod1, .func (PySem.W.fnOf "__init__" "TooGreat.__init__" (defArgs si_TooGreat) (defBody si_TooGreat) (defScope si_TooGreat) .none ckV1 cdc1 cpm1 can1 ccd1 cct1), csl1⟩)
    (y1c : PySem.W.codeIn K ccd1 "TooGreat.__init__" = true)
    (y1p : PySem.W.keepIn K (.ref ci1) = true)
    (y1a : PySem.W.findIn K (.ref ca1) "__getattribute__" = some (some (.builtin "BaseException.__getattribute__")))
    (y1b : PySem.W.findIn K (.ref ca1) "__getattr__" = some none)
    (y1n_word : PySem.W.findIn K (.ref ca1) "word" = some none)
    (y2g : PySem.W.nsIn K mainGlobals "TooMany" = some (some (.ref ca2)))
    (y2o : PySem.W.excOver K ca2 [.type "ValueError", .type "Exception", .type "BaseException", .type "object"] = true)
    (y2m : PySem.W.excInitIn K ca2 [.type "ValueError", .type "Exception", .type "BaseException", .type "object"] "ValueError.__new__" = true)
    (y2h : PySem.W.hasDictIn K ca2 = true)
    (y2s : PySem.W.findIn K (.ref ca2) "__setattr__" = some (some (.builtin "object.__setattr__")))
    (y2x : PySem.W.subIn K (.ref ca2) (.type "BaseException") = some true)
    (y2t : PySem.W.typeIn K (.ref ca2) = some (.type "type"))
    (y2k : PySem.W.keepIn K (.ref ca2) = true)
    (y2i : PySem.W.findIn K (.ref ca2) "__init__" = some (some (.ref ci2)))
    (y2f : PySem.W.typeIn K (.ref ci2) = some (.type "function"))
    (y2l : K.lookup ci2 = some ⟨coc2, cod2, .func (PySem.W.fnOf "__init__" "TooMany.__init__" (defArgs si_TooMany) (defBody si_TooMany) (defScope si_TooMany) .none ckV2 cdc2 cpm2 can2 ccd2 cct2), csl2⟩)
    (y2c : PySem.W.codeIn K ccd2 "TooMany.__init__" = true)
    (y2p : PySem.W.keepIn K (.ref ci2) = true)
    (y2a : PySem.W.findIn K (.ref ca2) "__getattribute__" = some (some (.builtin "BaseException.__getattribute__")))
    (y2b : PySem.W.findIn K (.ref ca2) "__getattr__" = some none)
    (y2n_word : PySem.W.findIn K (.ref ca2) "word" = some none)
    (y3g : PySem.W.nsIn K mainGlobals "OtherRoom" = some (some (.ref ca3)))
    (y3o : PySem.W.excOver K ca3 [.type "ValueError", .type "Exception", .type "BaseException", .type "object"] = true)
    (y3m : PySem.W.excInitIn K ca3 [.type "ValueError", .type "Exception", .type "BaseException", .type "object"] "ValueError.__new__" = true)
    (y3h : PySem.W.hasDictIn K ca3 = true)
    (y3s : PySem.W.findIn K (.ref ca3) "__setattr__" = some (some (.builtin "object.__setattr__")))
    (y3x : PySem.W.subIn K (.ref ca3) (.type "BaseException") = some true)
    (y3t : PySem.W.typeIn K (.ref ca3) = some (.type "type"))
    (y3k : PySem.W.keepIn K (.ref ca3) = true)
    (y3i : PySem.W.findIn K (.ref ca3) "__init__" = some (some (.ref ci3)))
    (y3f : PySem.W.typeIn K (.ref ci3) = some (.type "function"))
    (y3l : K.lookup ci3 = some ⟨coc3, cod3, .func (PySem.W.fnOf "__init__" "OtherRoom.__init__" (defArgs si_OtherRoom) (defBody si_OtherRoom) (defScope si_OtherRoom) .none ckV3 cdc3 cpm3 can3 ccd3 cct3), csl3⟩)
    (y3c : PySem.W.codeIn K ccd3 "OtherRoom.__init__" = true)
    (y3p : PySem.W.keepIn K (.ref ci3) = true)
    (y3a : PySem.W.findIn K (.ref ca3) "__getattribute__" = some (some (.builtin "BaseException.__getattribute__")))
    (y3b : PySem.W.findIn K (.ref ca3) "__getattr__" = some none)
    (y3n_word : PySem.W.findIn K (.ref ca3) "word" = some none)
    (y4g : PySem.W.nsIn K mainGlobals "BadLot" = some (some (.ref ca4)))
    (y4o : PySem.W.excOver K ca4 [.type "ValueError", .type "Exception", .type "BaseException", .type "object"] = true)
    (y4m : PySem.W.excInitIn K ca4 [.type "ValueError", .type "Exception", .type "BaseException", .type "object"] "ValueError.__new__" = true)
    (y4h : PySem.W.hasDictIn K ca4 = true)
    (y4s : PySem.W.findIn K (.ref ca4) "__setattr__" = some (some (.builtin "object.__setattr__")))
    (y4x : PySem.W.subIn K (.ref ca4) (.type "BaseException") = some true)
    (y4t : PySem.W.typeIn K (.ref ca4) = some (.type "type"))
    (y4k : PySem.W.keepIn K (.ref ca4) = true)
    (y4i : PySem.W.findIn K (.ref ca4) "__init__" = some (some (.ref ci4)))
    (y4f : PySem.W.typeIn K (.ref ci4) = some (.type "function"))
    (y4l : K.lookup ci4 = some ⟨coc4, cod4, .func (PySem.W.fnOf "__init__" "BadLot.__init__" (defArgs si_BadLot) (defBody si_BadLot) (defScope si_BadLot) .none ckV4 cdc4 cpm4 can4 ccd4 cct4), csl4⟩)
    (y4c : PySem.W.codeIn K ccd4 "BadLot.__init__" = true)
    (y4p : PySem.W.keepIn K (.ref ci4) = true)
    (y4a : PySem.W.findIn K (.ref ca4) "__getattribute__" = some (some (.builtin "BaseException.__getattribute__")))
    (y4b : PySem.W.findIn K (.ref ca4) "__getattr__" = some none)
    (y4n_word : PySem.W.findIn K (.ref ca4) "word" = some none)
    (y5g : PySem.W.nsIn K mainGlobals "Flat" = some (some (.ref ca5)))
    (y5o : PySem.W.excOver K ca5 [.type "ZeroDivisionError", .type "ArithmeticError", .type "Exception", .type "BaseException", .type "object"] = true)
    (y5m : PySem.W.excInitIn K ca5 [.type "ZeroDivisionError", .type "ArithmeticError", .type "Exception", .type "BaseException", .type "object"] "ZeroDivisionError.__new__" = true)
    (y5h : PySem.W.hasDictIn K ca5 = true)
    (y5s : PySem.W.findIn K (.ref ca5) "__setattr__" = some (some (.builtin "object.__setattr__")))
    (y5x : PySem.W.subIn K (.ref ca5) (.type "BaseException") = some true)
    (y5t : PySem.W.typeIn K (.ref ca5) = some (.type "type"))
    (y5k : PySem.W.keepIn K (.ref ca5) = true)
    (y5i : PySem.W.findIn K (.ref ca5) "__init__" = some (some (.ref ci5)))
    (y5f : PySem.W.typeIn K (.ref ci5) = some (.type "function"))
    (y5l : K.lookup ci5 = some ⟨coc5, cod5, .func (PySem.W.fnOf "__init__" "Flat.__init__" (defArgs si_Flat) (defBody si_Flat) (defScope si_Flat) .none ckV5 cdc5 cpm5 can5 ccd5 cct5), csl5⟩)
    (y5c : PySem.W.codeIn K ccd5 "Flat.__init__" = true)
    (y5p : PySem.W.keepIn K (.ref ci5) = true)
    (y5a : PySem.W.findIn K (.ref ca5) "__getattribute__" = some (some (.builtin "BaseException.__getattribute__")))
    (y5b : PySem.W.findIn K (.ref ca5) "__getattr__" = some none)
    (y5n_word : PySem.W.findIn K (.ref ca5) "word" = some none)
    (y6g : PySem.W.nsIn K mainGlobals "BadSpot" = some (some (.ref ca6)))
    (y6o : PySem.W.excOver K ca6 [.type "ValueError", .type "Exception", .type "BaseException", .type "object"] = true)
    (y6m : PySem.W.excInitIn K ca6 [.type "ValueError", .type "Exception", .type "BaseException", .type "object"] "ValueError.__new__" = true)
    (y6h : PySem.W.hasDictIn K ca6 = true)
    (y6s : PySem.W.findIn K (.ref ca6) "__setattr__" = some (some (.builtin "object.__setattr__")))
    (y6x : PySem.W.subIn K (.ref ca6) (.type "BaseException") = some true)
    (y6t : PySem.W.typeIn K (.ref ca6) = some (.type "type"))
    (y6k : PySem.W.keepIn K (.ref ca6) = true)
    (y6i : PySem.W.findIn K (.ref ca6) "__init__" = some (some (.ref ci6)))
    (y6f : PySem.W.typeIn K (.ref ci6) = some (.type "function"))
    (y6l : K.lookup ci6 = some ⟨coc6, cod6, .func (PySem.W.fnOf "__init__" "BadSpot.__init__" (defArgs si_BadSpot) (defBody si_BadSpot) (defScope si_BadSpot) .none ckV6 cdc6 cpm6 can6 ccd6 cct6), csl6⟩)
    (y6c : PySem.W.codeIn K ccd6 "BadSpot.__init__" = true)
    (y6p : PySem.W.keepIn K (.ref ci6) = true)
    (y6a : PySem.W.findIn K (.ref ca6) "__getattribute__" = some (some (.builtin "BaseException.__getattribute__")))
    (y6b : PySem.W.findIn K (.ref ca6) "__getattr__" = some none)
    (y6n_word : PySem.W.findIn K (.ref ca6) "word" = some none)
    (e0 : PySem.W.subIn K (.ref ca1) (.ref ca1) = some true)
    (e1 : PySem.W.subIn K (.ref ca2) (.ref ca1) = some false)
    (e2 : PySem.W.subIn K (.ref ca2) (.ref ca2) = some true)
    (y1w1 : PySem.W.findIn K (.ref ca1) "__class__" = some (some (.builtin "object.__class__")))
    (y1w2 : PySem.W.specialIn K (.builtin "object.__class__") "__get__" = some (some (.builtin "getset_descriptor.__get__")))
    (y1w3 : PySem.W.takesIn K (.builtin "object.__class__") = some true)
    (y1w4 : PySem.W.mroIn K ca1 (.type "object") = some true)
    (ko0 : PySem.W.kitOne K (.ref ca1) (.ref ca2) = some false)
    (ko1 : PySem.W.kitOne K (.ref ca1) (.ref ca0) = some true)
    (z0 : PySem.W.nsIn K mainGlobals "abs" = some none)
    (z1 : PySem.W.nsIn K mainGlobals "all" = some none)
    (z2 : PySem.W.nsIn K mainGlobals "any" = some none)
    (z3 : PySem.W.nsIn K mainGlobals "bool" = some none)
    (z4 : PySem.W.nsIn K mainGlobals "int" = some none)
    (z5 : PySem.W.nsIn K mainGlobals "isinstance" = some none)
    (z6 : PySem.W.nsIn K mainGlobals "len" = some none)
    (z7 : PySem.W.nsIn K mainGlobals "list" = some none)
    (z8 : PySem.W.nsIn K mainGlobals "max" = some none)
    (z9 : PySem.W.nsIn K mainGlobals "range" = some none)
    (z10 : PySem.W.nsIn K mainGlobals "sorted" = some none)
    (z11 : PySem.W.nsIn K mainGlobals "str" = some none)
    (z12 : PySem.W.nsIn K mainGlobals "tuple" = some none)
    (z13 : PySem.W.nsIn K mainGlobals "zip" = some none)
    (kc0 : PySem.W.nsIn K mainGlobals "LIMIT" = some (some (Value.int 1000000000000000000 tkc0)))
    (kc1 : PySem.W.nsIn K mainGlobals "MOST" = some (some (Value.int 2000 tkc1)))
    : ∃ fd : FuncData, (∀ (s : Shared) (v : Value), BindsTo s fd ⟨[v], []⟩ [("_law_script", v)]) ∧ ∀ base : Heap, K.In base → base.Ns mainGlobals mg → FnOk l.prog w K mg base CX0 12 fa fd ["_law_script"] (spP K PLaw) := by
  have e := hfa.symm.trans (PySem.W.mg_of X G a38)
  cases e
  obtain ⟨cs, hc0, hc1, hc2, hc3, hc4, hc5, hc6⟩ : ∃ cs : Cs, cs "Unfit" = ca0 ∧ cs "TooGreat" = ca1 ∧ cs "TooMany" = ca2 ∧ cs "OtherRoom" = ca3 ∧ cs "BadLot" = ca4 ∧ cs "Flat" = ca5 ∧ cs "BadSpot" = ca6 := ⟨fun x => if x = "Unfit" then ca0 else if x = "TooGreat" then ca1 else if x = "TooMany" then ca2 else if x = "OtherRoom" then ca3 else if x = "BadLot" then ca4 else if x = "Flat" then ca5 else if x = "BadSpot" then ca6 else 0, by dsimp only; rw [if_pos rfl], by dsimp only; rw [if_neg (by decide), if_pos rfl], by dsimp only; rw [if_neg (by decide), if_neg (by decide), if_pos rfl], by dsimp only; rw [if_neg (by decide), if_neg (by decide), if_neg (by decide), if_pos rfl], by dsimp only; rw [if_neg (by decide), if_neg (by decide), if_neg (by decide), if_neg (by decide), if_pos rfl], by dsimp only; rw [if_neg (by decide), if_neg (by decide), if_neg (by decide), if_neg (by decide), if_neg (by decide), if_pos rfl], by dsimp only; rw [if_neg (by decide), if_neg (by decide), if_neg (by decide), if_neg (by decide), if_neg (by decide), if_neg (by decide), if_pos rfl]⟩
  subst hc0
  subst hc1
  subst hc2
  subst hc3
  subst hc4
  subst hc5
  subst hc6
  have FI0 := fund_mk (st := si_Unfit) (dvs := [V.str "Unfit"]) y0l y0c y0p y0d (.cons ⟨_, rfl⟩ .nil) (by simp)
  have ox0 : OxK K (cs "Unfit") := ⟨⟨_, _, _, _, PySem.F.excBase_ValueError, PySem.F.store_ValueError, y0o, y0m, y0h, y0s, y0x, y0t, y0k⟩⟩
  have bi0 := binds_all (ps := ["self", "word"]) FI0 (by simp) fun _ _ _ _ _ _ _ us its hl hl2 => match us, its, hl, hl2 with | [_, _], [_], _, _ => ⟨_, rfl, rfl⟩
  have cf0 : ClsF K cs "Unfit" ["word"] := ⟨ox0, fun n hn => by rw [List.mem_singleton.mp hn]; exact y0n_word⟩
  have FI1 := fun_mk (st := si_TooGreat) y1l y1c y1p
  have ox1 : OxK K (cs "TooGreat") := ⟨⟨_, _, _, _, PySem.F.excBase_ValueError, PySem.F.store_ValueError, y1o, y1m, y1h, y1s, y1x, y1t, y1k⟩⟩
  have bi1 := FI1.binds (ps := ["self"]) fun _ _ _ _ _ _ us hl => match us, hl with | [_], _ => rfl
  have cf1 : ClsF K cs "TooGreat" ["word"] := ⟨ox1, fun n hn => by rw [List.mem_singleton.mp hn]; exact y1n_word⟩
  have FI2 := fun_mk (st := si_TooMany) y2l y2c y2p
  have ox2 : OxK K (cs "TooMany") := ⟨⟨_, _, _, _, PySem.F.excBase_ValueError, PySem.F.store_ValueError, y2o, y2m, y2h, y2s, y2x, y2t, y2k⟩⟩
  have bi2 := FI2.binds (ps := ["self"]) fun _ _ _ _ _ _ us hl => match us, hl with | [_], _ => rfl
  have cf2 : ClsF K cs "TooMany" ["word"] := ⟨ox2, fun n hn => by rw [List.mem_singleton.mp hn]; exact y2n_word⟩
  have FI3 := fun_mk (st := si_OtherRoom) y3l y3c y3p
  have ox3 : OxK K (cs "OtherRoom") := ⟨⟨_, _, _, _, PySem.F.excBase_ValueError, PySem.F.store_ValueError, y3o, y3m, y3h, y3s, y3x, y3t, y3k⟩⟩
  have bi3 := FI3.binds (ps := ["self"]) fun _ _ _ _ _ _ us hl => match us, hl with | [_], _ => rfl
  have cf3 : ClsF K cs "OtherRoom" ["word"] := ⟨ox3, fun n hn => by rw [List.mem_singleton.mp hn]; exact y3n_word⟩
  have FI4 := fun_mk (st := si_BadLot) y4l y4c y4p
  have ox4 : OxK K (cs "BadLot") := ⟨⟨_, _, _, _, PySem.F.excBase_ValueError, PySem.F.store_ValueError, y4o, y4m, y4h, y4s, y4x, y4t, y4k⟩⟩
  have bi4 := FI4.binds (ps := ["self"]) fun _ _ _ _ _ _ us hl => match us, hl with | [_], _ => rfl
  have cf4 : ClsF K cs "BadLot" ["word"] := ⟨ox4, fun n hn => by rw [List.mem_singleton.mp hn]; exact y4n_word⟩
  have FI5 := fun_mk (st := si_Flat) y5l y5c y5p
  have ox5 : OxK K (cs "Flat") := ⟨⟨_, _, _, _, PySem.F.excBase_ZeroDivisionError, PySem.F.store_ZeroDivisionError, y5o, y5m, y5h, y5s, y5x, y5t, y5k⟩⟩
  have bi5 := FI5.binds (ps := ["self"]) fun _ _ _ _ _ _ us hl => match us, hl with | [_], _ => rfl
  have cf5 : ClsF K cs "Flat" ["word"] := ⟨ox5, fun n hn => by rw [List.mem_singleton.mp hn]; exact y5n_word⟩
  have FI6 := fun_mk (st := si_BadSpot) y6l y6c y6p
  have ox6 : OxK K (cs "BadSpot") := ⟨⟨_, _, _, _, PySem.F.excBase_ValueError, PySem.F.store_ValueError, y6o, y6m, y6h, y6s, y6x, y6t, y6k⟩⟩
  have bi6 := FI6.binds (ps := ["self"]) fun _ _ _ _ _ _ us hl => match us, hl with | [_], _ => rfl
  have cf6 : ClsF K cs "BadSpot" ["word"] := ⟨ox6, fun n hn => by rw [List.mem_singleton.mp hn]; exact y6n_word⟩
  have F0 := fun_mk (st := s__law_bag) l0 c0 k0
  have b0 := F0.binds (ps := ["_law_script"]) fun _ _ _ _ _ _ us hl => match us, hl with | [_], _ => rfl
  have F1 := fun_mk (st := s__law_pull) l1 c1 k1
  have b1 := F1.binds (ps := ["_law_bag_here", "_law_size"]) fun _ _ _ _ _ _ us hl => match us, hl with | [_, _], _ => rfl
  have F2 := fun_mk (st := s__law_due) l2 c2 k2
  have b2 := F2.binds (ps := ["_law_rows"]) fun _ _ _ _ _ _ us hl => match us, hl with | [_], _ => rfl
  have F3 := fun_mk (st := s__law_like) l3 c3 k3
  have b3 := F3.binds (ps := ["_law_found", "_law_due_here"]) fun _ _ _ _ _ _ us hl => match us, hl with | [_, _], _ => rfl
  have F4 := fundk_mk (st := s_is_small) (kws := [("limit", V.int 1000000000000000000)]) l4 c4 k4 (fun q hq => (List.mem_cons.mp hq).elim (fun e => by subst e; exact ⟨_, t4_0, ⟨_, rfl⟩⟩) (fun hq => by cases hq))
  obtain ⟨q4, w4, u4⟩ := F4.binds0 (ps := ["number", "limit"]) 1 (by simp) rfl fun _ _ _ _ _ _ us ks hl hl2 => match us, ks, hl, hl2 with | [_], [_], _, _ => ⟨_, _, _, _, _, _, rfl, rfl, rfl⟩
  have kb4 := kbinds_all (ps := ["number", "limit"]) (ks := ["limit"]) (n := 1) F4 fun _ _ _ _ _ _ us ws hl hl2 => match us, ws, hl, hl2 with | [_], [_], _, _ => rfl
  have F5 := fun_mk (st := s_bounded) l5 c5 k5
  have b5 := F5.binds (ps := ["lot"]) fun _ _ _ _ _ _ us hl => match us, hl with | [_], _ => rfl
  have F6 := fun_mk (st := s_shared) l6 c6 k6
  have b6 := F6.binds (ps := ["one", "other"]) fun _ _ _ _ _ _ us hl => match us, hl with | [_, _], _ => rfl
  have F7 := fun_mk (st := s_common_below) l7 c7 k7
  have b7 := F7.binds (ps := ["spots"]) fun _ _ _ _ _ _ us hl => match us, hl with | [_], _ => rfl
  have F8 := fun_mk (st := s_whole_row) l8 c8 k8
  have b8 := F8.binds (ps := ["spot", "common"]) fun _ _ _ _ _ _ us hl => match us, hl with | [_, _], _ => rfl
  have F9 := fun_mk (st := s_in_order) l9 c9 k9
  have b9 := F9.binds (ps := ["bodies"]) fun _ _ _ _ _ _ us hl => match us, hl with | [_], _ => rfl
  have F10 := fun_mk (st := s_gathered) l10 c10 k10
  have b10 := F10.binds (ps := ["rows", "room"]) fun _ _ _ _ _ _ us hl => match us, hl with | [_, _], _ => rfl
  have F11 := fun_mk (st := s_settled_lot) l11 c11 k11
  have b11 := F11.binds (ps := ["rows", "room"]) fun _ _ _ _ _ _ us hl => match us, hl with | [_, _], _ => rfl
  have F12 := fun_mk (st := s_rising) l12 c12 k12
  have b12 := F12.binds (ps := ["spots"]) fun _ _ _ _ _ _ us hl => match us, hl with | [_], _ => rfl
  have F13 := fun_mk (st := s_order) l13 c13 k13
  have b13 := F13.binds (ps := ["one", "other"]) fun _ _ _ _ _ _ us hl => match us, hl with | [_, _], _ => rfl
  have F14 := fund_mk (st := s_part) (dvs := [V.int 1]) l14 c14 k14 t14 (.cons ⟨_, rfl⟩ .nil) (by simp)
  have b14 := binds_all (ps := ["above", "below"]) F14 (by simp) fun _ _ _ _ _ _ _ us its hl hl2 => match us, its, hl, hl2 with | [_, _], [_], _, _ => ⟨_, rfl, rfl⟩
  obtain ⟨q14_1, w14_1, u14_1⟩ := F14.binds1 (ps := ["above", "below"]) 1 0 (by simp) rfl fun _ _ _ _ _ _ _ us its hl hl2 => match us, its, hl, hl2 with | [_], [_], _, _ => ⟨_, rfl, rfl⟩
  have F15 := fun_mk (st := s_minus) l15 c15 k15
  have b15 := F15.binds (ps := ["one", "other"]) fun _ _ _ _ _ _ us hl => match us, hl with | [_, _], _ => rfl
  have F16 := fun_mk (st := s_times) l16 c16 k16
  have b16 := F16.binds (ps := ["one", "other"]) fun _ _ _ _ _ _ us hl => match us, hl with | [_, _], _ => rfl
  have F17 := fun_mk (st := s_across) l17 c17 k17
  have b17 := F17.binds (ps := ["one", "other"]) fun _ _ _ _ _ _ us hl => match us, hl with | [_, _], _ => rfl
  have F18 := fun_mk (st := s_step_from) l18 c18 k18
  have b18 := F18.binds (ps := ["one", "other"]) fun _ _ _ _ _ _ us hl => match us, hl with | [_, _], _ => rfl
  have F19 := fun_mk (st := s_side_of) l19 c19 k19
  have b19 := F19.binds (ps := ["start", "end", "spot"]) fun _ _ _ _ _ _ us hl => match us, hl with | [_, _, _], _ => rfl
  have F20 := fun_mk (st := s_hull_side) l20 c20 k20
  have b20 := F20.binds (ps := ["spots"]) fun _ _ _ _ _ _ us hl => match us, hl with | [_], _ => rfl
  have F21 := fun_mk (st := s_corners_round) l21 c21 k21
  have b21 := F21.binds (ps := ["spots"]) fun _ _ _ _ _ _ us hl => match us, hl with | [_], _ => rfl
  have F22 := fun_mk (st := s_is_whole) l22 c22 k22
  have b22 := F22.binds (ps := ["thing"]) fun _ _ _ _ _ _ us hl => match us, hl with | [_], _ => rfl
  have F23 := fun_mk (st := s_is_part) l23 c23 k23
  have b23 := F23.binds (ps := ["thing"]) fun _ _ _ _ _ _ us hl => match us, hl with | [_], _ => rfl
  have F24 := fundk_mk (st := s_is_spot) (kws := [("room", V.int 2)]) l24 c24 k24 (fun q hq => (List.mem_cons.mp hq).elim (fun e => by subst e; exact ⟨_, t24_0, ⟨_, rfl⟩⟩) (fun hq => by cases hq))
  obtain ⟨q24, w24, u24⟩ := F24.binds0 (ps := ["thing", "room"]) 1 (by simp) rfl fun _ _ _ _ _ _ us ks hl hl2 => match us, ks, hl, hl2 with | [_], [_], _, _ => ⟨_, _, _, _, _, _, rfl, rfl, rfl⟩
  have kb24 := kbinds_all (ps := ["thing", "room"]) (ks := ["room"]) (n := 1) F24 fun _ _ _ _ _ _ us ws hl hl2 => match us, ws, hl, hl2 with | [_], [_], _, _ => rfl
  have F25 := fun_mk (st := s_body_of) l25 c25 k25
  have b25 := F25.binds (ps := ["spots"]) fun _ _ _ _ _ _ us hl => match us, hl with | [_], _ => rfl
  have F26 := fundk_mk (st := s_lot_of) (kws := [("room", V.int 2)]) l26 c26 k26 (fun q hq => (List.mem_cons.mp hq).elim (fun e => by subst e; exact ⟨_, t26_0, ⟨_, rfl⟩⟩) (fun hq => by cases hq))
  obtain ⟨q26, w26, u26⟩ := F26.binds0 (ps := ["rows", "room"]) 1 (by simp) rfl fun _ _ _ _ _ _ us ks hl hl2 => match us, ks, hl, hl2 with | [_], [_], _, _ => ⟨_, _, _, _, _, _, rfl, rfl, rfl⟩
  have kb26 := kbinds_all (ps := ["rows", "room"]) (ks := ["room"]) (n := 1) F26 fun _ _ _ _ _ _ us ws hl hl2 => match us, ws, hl, hl2 with | [_], [_], _, _ => rfl
  have F27 := fun_mk (st := s_scaled) l27 c27 k27
  have b27 := F27.binds (ps := ["lot", "number"]) fun _ _ _ _ _ _ us hl => match us, hl with | [_, _], _ => rfl
  have F28 := fun_mk (st := s_room_from) l28 c28 k28
  have b28 := F28.binds (ps := ["way"]) fun _ _ _ _ _ _ us hl => match us, hl with | [_], _ => rfl
  have F29 := fun_mk (st := s_plus) l29 c29 k29
  have b29 := F29.binds (ps := ["one", "other"]) fun _ _ _ _ _ _ us hl => match us, hl with | [_, _], _ => rfl
  have F30 := fun_mk (st := s_summed) l30 c30 k30
  have b30 := F30.binds (ps := ["row", "spot"]) fun _ _ _ _ _ _ us hl => match us, hl with | [_, _], _ => rfl
  have F31 := fun_mk (st := s_led) l31 c31 k31
  have b31 := F31.binds (ps := ["way", "spot"]) fun _ _ _ _ _ _ us hl => match us, hl with | [_, _], _ => rfl
  have F32 := fun_mk (st := s_carried) l32 c32 k32
  have b32 := F32.binds (ps := ["lot", "way"]) fun _ _ _ _ _ _ us hl => match us, hl with | [_, _], _ => rfl
  have F33 := fun_mk (st := s__law_told) l33 c33 k33
  have b33 := F33.binds (ps := ["_law_deed", "_law_thing", "_law_other"]) fun _ _ _ _ _ _ us hl => match us, hl with | [_, _, _], _ => rfl
  have F34 := fun_mk (st := s__law_gcd) l34 c34 k34
  have b34 := F34.binds (ps := ["_law_one", "_law_other"]) fun _ _ _ _ _ _ us hl => match us, hl with | [_, _], _ => rfl
  have F35 := fun_mk (st := s__law_frac) l35 c35 k35
  have b35 := F35.binds (ps := ["_law_above", "_law_below"]) fun _ _ _ _ _ _ us hl => match us, hl with | [_, _], _ => rfl
  have F36 := fun_mk (st := s__law_add) l36 c36 k36
  have b36 := F36.binds (ps := ["_law_one", "_law_other"]) fun _ _ _ _ _ _ us hl => match us, hl with | [_, _], _ => rfl
  have F37 := fun_mk (st := s__law_mul) l37 c37 k37
  have b37 := F37.binds (ps := ["_law_one", "_law_other"]) fun _ _ _ _ _ _ us hl => match us, hl with | [_, _], _ => rfl
  have F38 := fun_mk (st := s_law) l38 c38 k38
  have T : TX K mg := { cs := cs, ox_Unfit := ox0, kC_Unfit := y0k, fI_Unfit := _, dI_Unfit := _, FI_Unfit := FI0, i_Unfit := y0i, ti_Unfit := y0f, bi_Unfit := bi0, g_Unfit := PySem.W.mg_of X G y0g, xf_Unfit := ⟨y0a, y0b, y0x, y0h⟩, nw_Unfit_word := y0n_word, cf_Unfit := cf0, rd_Unfit := y0r, ga_Unfit := y0q, fc_Unfit := y0v, ox_TooGreat := ox1, kC_TooGreat := y1k, fI_TooGreat := _, dI_TooGreat := _, FI_TooGreat := FI1, i_TooGreat := y1i, ti_TooGreat := y1f, bi_TooGreat := bi1, g_TooGreat := PySem.W.mg_of X G y1g, xf_TooGreat := ⟨y1a, y1b, y1x, y1h⟩, nw_TooGreat_word := y1n_word, cf_TooGreat := cf1, ox_TooMany := ox2, kC_TooMany := y2k, fI_TooMany := _, dI_TooMany := _, FI_TooMany := FI2, i_TooMany := y2i, ti_TooMany := y2f, bi_TooMany := bi2, g_TooMany := PySem.W.mg_of X G y2g, xf_TooMany := ⟨y2a, y2b, y2x, y2h⟩, nw_TooMany_word := y2n_word, cf_TooMany := cf2, ox_OtherRoom := ox3, kC_OtherRoom := y3k, fI_OtherRoom := _, dI_OtherRoom := _, FI_OtherRoom := FI3, i_OtherRoom := y3i, ti_OtherRoom := y3f, bi_OtherRoom := bi3, g_OtherRoom := PySem.W.mg_of X G y3g, xf_OtherRoom := ⟨y3a, y3b, y3x, y3h⟩, nw_OtherRoom_word := y3n_word, cf_OtherRoom := cf3, ox_BadLot := ox4, kC_BadLot := y4k, fI_BadLot := _, dI_BadLot := _, FI_BadLot := FI4, i_BadLot := y4i, ti_BadLot := y4f, bi_BadLot := bi4, g_BadLot := PySem.W.mg_of X G y4g, xf_BadLot := ⟨y4a, y4b, y4x, y4h⟩, nw_BadLot_word := y4n_word, cf_BadLot := cf4, ox_Flat := ox5, kC_Flat := y5k, fI_Flat := _, dI_Flat := _, FI_Flat := FI5, i_Flat := y5i, ti_Flat := y5f, bi_Flat := bi5, g_Flat := PySem.W.mg_of X G y5g, xf_Flat := ⟨y5a, y5b, y5x, y5h⟩, nw_Flat_word := y5n_word, cf_Flat := cf5, ox_BadSpot := ox6, kC_BadSpot := y6k, fI_BadSpot := _, dI_BadSpot := _, FI_BadSpot := FI6, i_BadSpot := y6i, ti_BadSpot := y6f, bi_BadSpot := bi6, g_BadSpot := PySem.W.mg_of X G y6g, xf_BadSpot := ⟨y6a, y6b, y6x, y6h⟩, nw_BadSpot_word := y6n_word, cf_BadSpot := cf6, is_TooGreat := ⟨y1w1, y1w2, y1w3, y1w4⟩, ko_TooGreat_TooMany := ko0, ko_TooGreat_Unfit := ko1, em_TooGreat_TooGreat := em_of y1x y1h y1t e0, em_TooMany_TooGreat := em_of y1x y1h y1t e1, em_TooMany_TooMany := em_of y2x y2h y2t e2, a__law_bag := f0, d__law_bag := _, F__law_bag := F0, g__law_bag := PySem.W.mg_of X G a0, b__law_bag := b0, a__law_pull := f1, d__law_pull := _, F__law_pull := F1, g__law_pull := PySem.W.mg_of X G a1, b__law_pull := b1, a__law_due := f2, d__law_due := _, F__law_due := F2, g__law_due := PySem.W.mg_of X G a2, b__law_due := b2, a__law_like := f3, d__law_like := _, F__law_like := F3, g__law_like := PySem.W.mg_of X G a3, b__law_like := b3, a_is_small := f4, d_is_small := _, F_is_small := F4, g_is_small := PySem.W.mg_of X G a4, kb_is_small := kb4, e1_is_small := q4, v1_is_small := w4, b1_is_small := u4, a_bounded := f5, d_bounded := _, F_bounded := F5, g_bounded := PySem.W.mg_of X G a5, b_bounded := b5, a_shared := f6, d_shared := _, F_shared := F6, g_shared := PySem.W.mg_of X G a6, b_shared := b6, a_common_below := f7, d_common_below := _, F_common_below := F7, g_common_below := PySem.W.mg_of X G a7, b_common_below := b7, a_whole_row := f8, d_whole_row := _, F_whole_row := F8, g_whole_row := PySem.W.mg_of X G a8, b_whole_row := b8, a_in_order := f9, d_in_order := _, F_in_order := F9, g_in_order := PySem.W.mg_of X G a9, b_in_order := b9, a_gathered := f10, d_gathered := _, F_gathered := F10, g_gathered := PySem.W.mg_of X G a10, b_gathered := b10, a_settled_lot := f11, d_settled_lot := _, F_settled_lot := F11, g_settled_lot := PySem.W.mg_of X G a11, b_settled_lot := b11, a_rising := f12, d_rising := _, F_rising := F12, g_rising := PySem.W.mg_of X G a12, b_rising := b12, a_order := f13, d_order := _, F_order := F13, g_order := PySem.W.mg_of X G a13, b_order := b13, a_part := f14, d_part := _, F_part := F14, g_part := PySem.W.mg_of X G a14, b_part := b14, e1_part := q14_1, v1_part := w14_1, b1_part := u14_1, a_minus := f15, d_minus := _, F_minus := F15, g_minus := PySem.W.mg_of X G a15, b_minus := b15, a_times := f16, d_times := _, F_times := F16, g_times := PySem.W.mg_of X G a16, b_times := b16, a_across := f17, d_across := _, F_across := F17, g_across := PySem.W.mg_of X G a17, b_across := b17, a_step_from := f18, d_step_from := _, F_step_from := F18, g_step_from := PySem.W.mg_of X G a18, b_step_from := b18, a_side_of := f19, d_side_of := _, F_side_of := F19, g_side_of := PySem.W.mg_of X G a19, b_side_of := b19, a_hull_side := f20, d_hull_side := _, F_hull_side := F20, g_hull_side := PySem.W.mg_of X G a20, b_hull_side := b20, a_corners_round := f21, d_corners_round := _, F_corners_round := F21, g_corners_round := PySem.W.mg_of X G a21, b_corners_round := b21, a_is_whole := f22, d_is_whole := _, F_is_whole := F22, g_is_whole := PySem.W.mg_of X G a22, b_is_whole := b22, a_is_part := f23, d_is_part := _, F_is_part := F23, g_is_part := PySem.W.mg_of X G a23, b_is_part := b23, a_is_spot := f24, d_is_spot := _, F_is_spot := F24, g_is_spot := PySem.W.mg_of X G a24, kb_is_spot := kb24, e1_is_spot := q24, v1_is_spot := w24, b1_is_spot := u24, a_body_of := f25, d_body_of := _, F_body_of := F25, g_body_of := PySem.W.mg_of X G a25, b_body_of := b25, a_lot_of := f26, d_lot_of := _, F_lot_of := F26, g_lot_of := PySem.W.mg_of X G a26, kb_lot_of := kb26, e1_lot_of := q26, v1_lot_of := w26, b1_lot_of := u26, a_scaled := f27, d_scaled := _, F_scaled := F27, g_scaled := PySem.W.mg_of X G a27, b_scaled := b27, a_room_from := f28, d_room_from := _, F_room_from := F28, g_room_from := PySem.W.mg_of X G a28, b_room_from := b28, a_plus := f29, d_plus := _, F_plus := F29, g_plus := PySem.W.mg_of X G a29, b_plus := b29, a_summed := f30, d_summed := _, F_summed := F30, g_summed := PySem.W.mg_of X G a30, b_summed := b30, a_led := f31, d_led := _, F_led := F31, g_led := PySem.W.mg_of X G a31, b_led := b31, a_carried := f32, d_carried := _, F_carried := F32, g_carried := PySem.W.mg_of X G a32, b_carried := b32, a__law_told := f33, d__law_told := _, F__law_told := F33, g__law_told := PySem.W.mg_of X G a33, b__law_told := b33, a__law_gcd := f34, d__law_gcd := _, F__law_gcd := F34, g__law_gcd := PySem.W.mg_of X G a34, b__law_gcd := b34, a__law_frac := f35, d__law_frac := _, F__law_frac := F35, g__law_frac := PySem.W.mg_of X G a35, b__law_frac := b35, a__law_add := f36, d__law_add := _, F__law_add := F36, g__law_add := PySem.W.mg_of X G a36, b__law_add := b36, a__law_mul := f37, d__law_mul := _, F__law_mul := F37, g__law_mul := PySem.W.mg_of X G a37, b__law_mul := b37, tk_LIMIT := _, c_LIMIT := PySem.W.mg_of X G kc0, tk_MOST := _, c_MOST := PySem.W.mg_of X G kc1, n_abs := PySem.W.mg_none_of X G z0, n_all := PySem.W.mg_none_of X G z1, n_any := PySem.W.mg_none_of X G z2, n_bool := PySem.W.mg_none_of X G z3, n_int := PySem.W.mg_none_of X G z4, n_isinstance := PySem.W.mg_none_of X G z5, n_len := PySem.W.mg_none_of X G z6, n_list := PySem.W.mg_none_of X G z7, n_max := PySem.W.mg_none_of X G z8, n_range := PySem.W.mg_none_of X G z9, n_sorted := PySem.W.mg_none_of X G z10, n_str := PySem.W.mg_none_of X G z11, n_tuple := PySem.W.mg_none_of X G z12, n_zip := PySem.W.mg_none_of X G z13 }
  exact ⟨_, fun s v => .of_eq rfl, fun base _ _ => ok_law T F38⟩
end Law
end U.N
open PySem PySem.W PyProof.Rows
set_option maxHeartbeats 0 in
theorem PySem.Challenge.cw_umbrage_k20_bounds_of_lots_holds : PySem.Challenge.rw_umbrage_k20_bounds_of_lots.Holds := by
  w_on; o_law; k_head; (case hw => w_witness2)
  k_fill
  refine L2.walk_of (l := PySem.Challenge.rw_umbrage_k20_bounds_of_lots) (n := 63) (k := 12) (x := "_law_script") (CX := fun _ => L2.CX0) (sp := fun w => U.spP _ U.PLaw) rfl (by decide) rfl ⟨rfl, by decide, by decide⟩ (fun w h Y => PySem.W.kIn_of Y) ?F (fun _ _ a ns hl _ hS => ⟨fun _ => False, [.list (ns.map PyData.int)], .bool true, fun _ z => z.elim, .cons (.lst (U.less_none hS) (U.dpa_of_ints _)) .nil, ⟨ns, rfl, hl, rfl⟩, fun v H' _ d => by cases d; rfl⟩) (fun _ _ _ _ _ h => h)
  case F =>
    intro w mg fa h KX G hmg
    refine' U.N.Law.all_mk KX G hmg ?a0 ?l0 ?c0 ?k0 ?a1 ?l1 ?c1 ?k1 ?a2 ?l2 ?c2 ?k2 ?a3 ?l3 ?c3 ?k3 ?a4 ?l4 ?c4 ?k4 ?t4_0 ?a5 ?l5 ?c5 ?k5 ?a6 ?l6 ?c6 ?k6 ?a7 ?l7 ?c7 ?k7 ?a8 ?l8 ?c8 ?k8 ?a9 ?l9 ?c9 ?k9 ?a10 ?l10 ?c10 ?k10 ?a11 ?l11 ?c11 ?k11 ?a12 ?l12 ?c12 ?k12 ?a13 ?l13 ?c13 ?k13 ?a14 ?l14 ?c14 ?k14 ?t14 ?a15 ?l15 ?c15 ?k15 ?a16 ?l16 ?c16 ?k16 ?a17 ?l17 ?c17 ?k17 ?a18 ?l18 ?c18 ?k18 ?a19 ?l19 ?c19 ?k19 ?a20 ?l20 ?c20 ?k20 ?a21 ?l21 ?c21 ?k21 ?a22 ?l22 ?c22 ?k22 ?a23 ?l23 ?c23 ?k23 ?a24 ?l24 ?c24 ?k24 ?t24_0 ?a25 ?l25 ?c25 ?k25 ?a26 ?l26 ?c26 ?k26 ?t26_0 ?a27 ?l27 ?c27 ?k27 ?a28 ?l28 ?c28 ?k28 ?a29 ?l29 ?c29 ?k29 ?a30 ?l30 ?c30 ?k30 ?a31 ?l31 ?c31 ?k31 ?a32 ?l32 ?c32 ?k32 ?a33 ?l33 ?c33 ?k33 ?a34 ?l34 ?c34 ?k34 ?a35 ?l35 ?c35 ?k35 ?a36 ?l36 ?c36 ?k36 ?a37 ?l37 ?c37 ?k37 ?a38 ?l38 ?c38 ?k38 ?y0g ?y0o ?y0m ?y0h ?y0s ?y0x ?y0t ?y0k ?y0i ?y0f ?y0l ?y0c ?y0p ?y0a ?y0b ?y0n_word ?y0r ?y0q ?y0v ?y0d ?y1g ?y1o ?y1m ?y1h ?y1s ?y1x ?y1t ?y1k ?y1i ?y1f ?y1l ?y1c ?y1p ?y1a ?y1b ?y1n_word ?y2g ?y2o ?y2m ?y2h ?y2s ?y2x ?y2t ?y2k ?y2i ?y2f ?y2l ?y2c ?y2p ?y2a ?y2b ?y2n_word ?y3g ?y3o ?y3m ?y3h ?y3s ?y3x ?y3t ?y3k ?y3i ?y3f ?y3l ?y3c ?y3p ?y3a ?y3b ?y3n_word ?y4g ?y4o ?y4m ?y4h ?y4s ?y4x ?y4t ?y4k ?y4i ?y4f ?y4l ?y4c ?y4p ?y4a ?y4b ?y4n_word ?y5g ?y5o ?y5m ?y5h ?y5s ?y5x ?y5t ?y5k ?y5i ?y5f ?y5l ?y5c ?y5p ?y5a ?y5b ?y5n_word ?y6g ?y6o ?y6m ?y6h ?y6s ?y6x ?y6t ?y6k ?y6i ?y6f ?y6l ?y6c ?y6p ?y6a ?y6b ?y6n_word ?e0 ?e1 ?e2 ?y1w1 ?y1w2 ?y1w3 ?y1w4 ?ko0 ?ko1 ?z0 ?z1 ?z2 ?z3 ?z4 ?z5 ?z6 ?z7 ?z8 ?z9 ?z10 ?z11 ?z12 ?z13 ?kc0 ?kc1
    (case a0 => k_is); (case l0 => k_is); (case c0 => k_is); (case k0 => k_is); (case a1 => k_is); (case l1 => k_is); (case c1 => k_is); (case k1 => k_is); (case a2 => k_is); (case l2 => k_is); (case c2 => k_is); (case k2 => k_is); (case a3 => k_is); (case l3 => k_is); (case c3 => k_is); (case k3 => k_is); (case a4 => k_is); (case l4 => k_is); (case c4 => k_is); (case k4 => k_is); (case t4_0 => k_is); (case a5 => k_is); (case l5 => k_is); (case c5 => k_is); (case k5 => k_is); (case a6 => k_is); (case l6 => k_is); (case c6 => k_is); (case k6 => k_is); (case a7 => k_is); (case l7 => k_is); (case c7 => k_is); (case k7 => k_is); (case a8 => k_is); (case l8 => k_is); (case c8 => k_is); (case k8 => k_is); (case a9 => k_is); (case l9 => k_is); (case c9 => k_is); (case k9 => k_is); (case a10 => k_is); (case l10 => k_is); (case c10 => k_is); (case k10 => k_is); (case a11 => k_is); (case l11 => k_is); (case c11 => k_is); (case k11 => k_is); (case a12 => k_is); (case l12 => k_is); (case c12 => k_is); (case k12 => k_is); (case a13 => k_is); (case l13 => k_is); (case c13 => k_is); (case k13 => k_is); (case a14 => k_is); (case l14 => k_is); (case c14 => k_is); (case k14 => k_is); (case t14 => k_is); (case a15 => k_is); (case l15 => k_is); (case c15 => k_is); (case k15 => k_is); (case a16 => k_is); (case l16 => k_is); (case c16 => k_is); (case k16 => k_is); (case a17 => k_is); (case l17 => k_is); (case c17 => k_is); (case k17 => k_is); (case a18 => k_is); (case l18 => k_is); (case c18 => k_is); (case k18 => k_is); (case a19 => k_is); (case l19 => k_is); (case c19 => k_is); (case k19 => k_is); (case a20 => k_is); (case l20 => k_is); (case c20 => k_is); (case k20 => k_is); (case a21 => k_is); (case l21 => k_is); (case c21 => k_is); (case k21 => k_is); (case a22 => k_is); (case l22 => k_is); (case c22 => k_is); (case k22 => k_is); (case a23 => k_is); (case l23 => k_is); (case c23 => k_is); (case k23 => k_is); (case a24 => k_is); (case l24 => k_is); (case c24 => k_is); (case k24 => k_is); (case t24_0 => k_is); (case a25 => k_is); (case l25 => k_is); (case c25 => k_is); (case k25 => k_is); (case a26 => k_is); (case l26 => k_is); (case c26 => k_is); (case k26 => k_is); (case t26_0 => k_is); (case a27 => k_is); (case l27 => k_is); (case c27 => k_is); (case k27 => k_is); (case a28 => k_is); (case l28 => k_is); (case c28 => k_is); (case k28 => k_is); (case a29 => k_is); (case l29 => k_is); (case c29 => k_is); (case k29 => k_is); (case a30 => k_is); (case l30 => k_is); (case c30 => k_is); (case k30 => k_is); (case a31 => k_is); (case l31 => k_is); (case c31 => k_is); (case k31 => k_is); (case a32 => k_is); (case l32 => k_is); (case c32 => k_is); (case k32 => k_is); (case a33 => k_is); (case l33 => k_is); (case c33 => k_is); (case k33 => k_is); (case a34 => k_is); (case l34 => k_is); (case c34 => k_is); (case k34 => k_is); (case a35 => k_is); (case l35 => k_is); (case c35 => k_is); (case k35 => k_is); (case a36 => k_is); (case l36 => k_is); (case c36 => k_is); (case k36 => k_is); (case a37 => k_is); (case l37 => k_is); (case c37 => k_is); (case k37 => k_is); (case a38 => k_is); (case l38 => k_is); (case c38 => k_is); (case k38 => k_is); (case y0g => k_is); (case y0o => kx_is); (case y0m => kx_is); (case y0h => k_is); (case y0s => k_is); (case y0x => k_is); (case y0t => k_is); (case y0k => k_is); (case y0i => k_is); (case y0f => k_is); (case y0l => k_is); (case y0c => k_is); (case y0p => k_is); (case y0a => k_is); (case y0b => k_is); (case y0n_word => k_is); (case y0r => k_is); (case y0q => k_is); (case y0v => k_is); (case y0d => k_is); (case y1g => k_is); (case y1o => kx_is); (case y1m => kx_is); (case y1h => k_is); (case y1s => k_is); (case y1x => k_is); (case y1t => k_is); (case y1k => k_is); (case y1i => k_is); (case y1f => k_is); (case y1l => k_is); (case y1c => k_is); (case y1p => k_is); (case y1a => k_is); (case y1b => k_is); (case y1n_word => k_is); (case y2g => k_is); (case y2o => kx_is); (case y2m => kx_is); (case y2h => k_is); (case y2s => k_is); (case y2x => k_is); (case y2t => k_is); (case y2k => k_is); (case y2i => k_is); (case y2f => k_is); (case y2l => k_is); (case y2c => k_is); (case y2p => k_is); (case y2a => k_is); (case y2b => k_is); (case y2n_word => k_is); (case y3g => k_is); (case y3o => kx_is); (case y3m => kx_is); (case y3h => k_is); (case y3s => k_is); (case y3x => k_is); (case y3t => k_is); (case y3k => k_is); (case y3i => k_is); (case y3f => k_is); (case y3l => k_is); (case y3c => k_is); (case y3p => k_is); (case y3a => k_is); (case y3b => k_is); (case y3n_word => k_is); (case y4g => k_is); (case y4o => kx_is); (case y4m => kx_is); (case y4h => k_is); (case y4s => k_is); (case y4x => k_is); (case y4t => k_is); (case y4k => k_is); (case y4i => k_is); (case y4f => k_is); (case y4l => k_is); (case y4c => k_is); (case y4p => k_is); (case y4a => k_is); (case y4b => k_is); (case y4n_word => k_is); (case y5g => k_is); (case y5o => kx_is); (case y5m => kx_is); (case y5h => k_is); (case y5s => k_is); (case y5x => k_is); (case y5t => k_is); (case y5k => k_is); (case y5i => k_is); (case y5f => k_is); (case y5l => k_is); (case y5c => k_is); (case y5p => k_is); (case y5a => k_is); (case y5b => k_is); (case y5n_word => k_is); (case y6g => k_is); (case y6o => kx_is); (case y6m => kx_is); (case y6h => k_is); (case y6s => k_is); (case y6x => k_is); (case y6t => k_is); (case y6k => k_is); (case y6i => k_is); (case y6f => k_is); (case y6l => k_is); (case y6c => k_is); (case y6p => k_is); (case y6a => k_is); (case y6b => k_is); (case y6n_word => k_is); (case e0 => k_is); (case e1 => k_is); (case e2 => k_is); (case y1w1 => k_is); (case y1w2 => k_is); (case y1w3 => k_is); (case y1w4 => k_is); (case ko0 => kit_is); (case ko1 => kit_is); (case z0 => k_is); (case z1 => k_is); (case z2 => k_is); (case z3 => k_is); (case z4 => k_is); (case z5 => k_is); (case z6 => k_is); (case z7 => k_is); (case z8 => k_is); (case z9 => k_is); (case z10 => k_is); (case z11 => k_is); (case z12 => k_is); (case z13 => k_is); (case kc0 => k_is); (case kc1 => k_is)
