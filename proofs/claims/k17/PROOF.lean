import PyProof.Rows.All
import Wide.All
import OpenK.AllK
import Wide.FinOn
import HandS.ForMost
import HandS.ForExc
import HandS.Wide
import HandS.IsInst
import HandS.Evl
import HandS.Defaults
import HandS.TupAny
import HandS.Zip
import HandS.Style
import HandS.ExcInit
import HandS.ExcField
import KE.KExcInit
import HandS.CallSlots
import HandS.ExcIs
import KE.KExcLine
import KE.KUnpackStar
import HandS.SortKw
import KE.KDictKeyed
import KE.KDictWalk
import HandS.DictComp
import KE.SortData
import KE.KDictSum
import HandS.Conv
import PyProof.Transfer
import HandS.Deep
import KE.GoesEnum
import KE.KExcIs
import KE.KIsAll
import KE.KUnpack
import PySem.Challenge.RW_umbrage_k17_maps_behind_maps
set_option Elab.async false
set_option linter.all false
set_option maxRecDepth 100000
set_option maxHeartbeats 4000000
namespace U
open PySem PySem.W PyProof.Rows
set_option maxHeartbeats 0 in
open_top head_top for PySem.Challenge.rw_umbrage_k17_maps_behind_maps
end U
section
/-! The data layer: slots hold data, lists of one's own, or the bag of draws; readings evaluate to data. -/
namespace U
open PySem L2 Evl
abbrev Fg := PySem.W.Frag
abbrev Hp := L2.Hp
abbrev St := L2.St
open Classical in
noncomputable def less (H : Hp) (Z : Addr → Prop) : Hp := fun a => if Z a then none else H a
theorem less_no {H : Hp} {Z : Addr → Prop} {a : Addr} (h : ¬ Z a) : less H Z a = H a := if_neg h
theorem less_yes {H : Hp} {Z : Addr → Prop} {a : Addr} (h : Z a) : less H Z a = none := if_pos h
theorem less_some {H : Hp} {Z : Addr → Prop} {a : Addr} {o : HO} (h : less H Z a = some o) : ¬ Z a ∧ H a = some o := by
  by_cases z : Z a
  · rw [less_yes z] at h; cases h
  · rw [less_no z] at h; exact ⟨z, h⟩
theorem less_of {H : Hp} {Z : Addr → Prop} {a : Addr} {o : HO} (z : ¬ Z a) (h : H a = some o) : less H Z a = some o := (less_no z).trans h
theorem less_ex {H : Hp} {Z : Addr → Prop} : Ex (less H Z) H := fun _ _ h => (less_some h).2
theorem less_mono {H H' : Hp} {Z : Addr → Prop} (e : Ex H H') : Ex (less H Z) (less H' Z) := fun a o h => less_of (less_some h).1 (e a o (less_some h).2)
theorem less_sub {H : Hp} {Z Z' : Addr → Prop} (e : ∀ a, Z' a → Z a) : Ex (less H Z) (less H Z') := fun a o h => less_of (fun z => (less_some h).1 (e a z)) (less_some h).2
theorem less_but {H H' : Hp} {Z : Addr → Prop} (e : ∀ a o, H a = some o → ¬ Z a → H' a = some o) : Ex (less H Z) (less H' Z) := fun a o h => less_of (less_some h).1 (e a o (less_some h).2 (less_some h).1)

mutual
theorem dp_mono {K : Fg} {H H' : Hp} (e : Ex H H') : ∀ {d : PyData} {v : V}, Dp K H v d → Dp K H' v d
  | _, _, .non => .non
  | _, _, .bl b => .bl b
  | _, _, .int i => .int i
  | _, _, .str x => .str x
  | _, _, .lst h t => .lst (ex_l e h) (dpa_mono e t)
  | _, _, .tup h t => .tup (ex_t e h) (dpa_mono e t)
theorem dpa_mono {K : Fg} {H H' : Hp} (e : Ex H H') : ∀ {ds : List PyData} {vs : List V}, DpAll K H vs ds → DpAll K H' vs ds
  | _, _, .nil => .nil
  | _, _, .cons h t => .cons (dp_mono e h) (dpa_mono e t)
end
theorem dpa_len {K : Fg} {H : Hp} : ∀ {ds : List PyData} {vs : List V}, DpAll K H vs ds → vs.length = ds.length
  | _, _, .nil => rfl
  | _, _, .cons _ t => congrArg (· + 1) (dpa_len t)
theorem dpa_get {K : Fg} {H : Hp} : ∀ {ds : List PyData} {vs : List V} {i : Nat} {d : PyData}, DpAll K H vs ds → ds[i]? = some d → ∃ v, vs[i]? = some v ∧ Dp K H v d
  | _, _, _, _, .nil, e => by simp at e
  | _, _, 0, _, .cons h _, e => by
    have e := Option.some.inj e
    subst e
    exact ⟨_, rfl, h⟩
  | _, _, i + 1, _, .cons _ t, e => dpa_get (i := i) t e
theorem dpa_at {K : Fg} {H : Hp} : ∀ {ds : List PyData} {vs : List V} {i : Nat} {v : V}, DpAll K H vs ds → vs[i]? = some v → ∃ d, ds[i]? = some d ∧ Dp K H v d
  | _, _, _, _, .nil, e => by simp at e
  | _, _, 0, _, .cons h _, e => by
    have e := Option.some.inj e
    subst e
    exact ⟨_, rfl, h⟩
  | _, _, i + 1, _, .cons _ t, e => dpa_at (i := i) t e
theorem dpa_app {K : Fg} {H : Hp} : ∀ {ds es : List PyData} {vs us : List V}, DpAll K H vs ds → DpAll K H us es → DpAll K H (vs ++ us) (ds ++ es)
  | _, _, _, _, .nil, h => h
  | _, _, _, _, .cons h t, u => .cons h (dpa_app t u)

/-- the bag of draws: its cells, how often it was drawn, its number -/
structure Bag where
  cs : List Int
  i : Int
  j : Int
def Bag.ok (s : Bag) : Prop := s.cs.length ≤ 63 ∧ 0 ≤ s.j ∧ s.j < 2147483647
def BagAt (H : Hp) (B : Option (Addr × Addr)) (s : Bag) : Prop := match B with
  | some (b, c) => H b = some (.lst [.ref c, .int s.i, .int s.j]) ∧ H c = some (.lst (s.cs.map V.int)) ∧ s.ok
  | none => True
def InB (B : Option (Addr × Addr)) (a : Addr) : Prop := ∃ b c, B = some (b, c) ∧ (a = b ∨ a = c)
inductive En where
  | un
  | d (x : PyData)
  | own (xs : List PyData)
  | bag
abbrev Gam := List En
def Zs (W : Addr → Prop) (B : Option (Addr × Addr)) (ad : Nat → Addr) (G : Gam) : Addr → Prop := fun a => W a ∨ (∃ i xs, G[i]? = some (.own xs) ∧ a = ad i) ∨ InB B a
def Slot (K : Fg) (B : Option (Addr × Addr)) (ad : Nat → Addr) (H : Hp) (Z : Addr → Prop) (i : Nat) (o : Option V) : En → Prop
  | .un => True
  | .d x => ∃ v, o = some v ∧ Dp K (less H Z) v x
  | .own xs => o = some (.ref (ad i)) ∧ ∃ vs, H (ad i) = some (.lst vs) ∧ DpAll K (less H Z) vs xs
  | .bag => ∃ b c, B = some (b, c) ∧ o = some (.ref b)
/-- the state of a def's frame: slots, heap, bag, against the heap H0 at its entry -/
structure Sta (K : Fg) (W : Addr → Prop) (B : Option (Addr × Addr)) (ad : Nat → Addr) (H0 H : Hp) (σ : St) (G : Gam) (s : Bag) : Prop where
  len : σ.length = G.length
  at_ : ∀ i e, G[i]? = some e → ∃ o, σ[i]? = some o ∧ Slot K B ad H (Zs W B ad G) i o e
  inj : ∀ i j xs ys, G[i]? = some (.own xs) → G[j]? = some (.own ys) → ad i = ad j → i = j
  sep : ∀ i xs, G[i]? = some (.own xs) → H0 (ad i) = none ∧ ¬ InB B (ad i) ∧ ¬ W (ad i)
  base : ∀ a o, H0 a = some o → ¬ InB B a → H a = some o
  bag : BagAt H B s
  wd : ∀ a, W a → ∃ o, H a = some o
def swp (ad : Nat → Addr) (i : Nat) (p : Addr) : Nat → Addr := fun j => if j = i then p else ad j
theorem swp_same {ad : Nat → Addr} {i : Nat} {p : Addr} : swp ad i p i = p := if_pos rfl
theorem swp_ne {ad : Nat → Addr} {i j : Nat} {p : Addr} (h : i ≠ j) : swp ad i p j = ad j := if_neg fun z => h z.symm
section
variable {K : Fg} {W : Addr → Prop} {B : Option (Addr × Addr)} {ad : Nat → Addr} {H0 H H2 : Hp} {σ : St} {G G' : Gam} {s s' : Bag}
theorem Slot.mono {Z Z' : Addr → Prop} {i : Nat} {o : Option V} {e : En} (h : Slot K B ad H Z i o e) (x : Ex (less H Z) (less H2 Z')) (y : ∀ xs vs, e = .own xs → H (ad i) = some (.lst vs) → H2 (ad i) = some (.lst vs)) : Slot K B ad H2 Z' i o e := by
  cases e with
  | un => trivial
  | d d => obtain ⟨v, e, h⟩ := h; exact ⟨v, e, dp_mono x h⟩
  | own xs => obtain ⟨e, vs, h1, h2⟩ := h; exact ⟨e, vs, y xs vs rfl h1, dpa_mono x h2⟩
  | bag => exact h
theorem upd_there {H : Hp} {p a : Addr} {o u : HO} (h : H a = some o) : ∃ o', upd H p u a = some o' := by
  by_cases z : a = p
  · exact ⟨u, by rw [z]; exact upd_same⟩
  · exact ⟨o, by rw [upd_ne z]; exact h⟩
/-- everything stays -/
theorem Sta.ext (S : Sta K W B ad H0 H σ G s) (e : Ex H H2) : Sta K W B ad H0 H2 σ G s where
  len := S.len
  at_ := fun i en h => by
    obtain ⟨o, h1, h2⟩ := S.at_ i en h
    exact ⟨o, h1, h2.mono (less_mono e) fun _ _ _ q => e _ _ q⟩
  inj := S.inj
  sep := S.sep
  base := fun a o h n => e _ _ (S.base a o h n)
  bag := by
    have h := S.bag
    unfold BagAt at h ⊢
    split
    · exact ⟨e _ _ h.1, e _ _ h.2.1, h.2.2⟩
    · trivial
  wd := fun a z => by
    obtain ⟨o, h⟩ := S.wd a z
    exact ⟨o, e _ _ h⟩
/-- all but the bag stays -/
theorem Sta.drawn (S : Sta K W B ad H0 H σ G s) (e : ∀ a o, H a = some o → ¬ InB B a → H2 a = some o) (b : BagAt H2 B s') : Sta K W B ad H0 H2 σ G s' where
  len := S.len
  at_ := fun i en h => by
    obtain ⟨o, h1, h2⟩ := S.at_ i en h
    refine ⟨o, h1, h2.mono (less_but fun a o q z => e a o q fun y => z (.inr (.inr y))) fun xs vs q q2 => ?_⟩
    subst q
    exact e _ _ q2 (S.sep i xs h).2.1
  inj := S.inj
  sep := S.sep
  base := fun a o h n => e a o (S.base a o h n) n
  bag := b
  wd := fun a z => by
    by_cases hb : InB B a
    · obtain ⟨b1, c1, rfl, hb⟩ := hb
      rcases hb with rfl | rfl
      · exact ⟨_, b.1⟩
      · exact ⟨_, b.2.1⟩
    · obtain ⟨o, h⟩ := S.wd a z
      exact ⟨o, e _ _ h hb⟩
theorem Zs.set_of {i : Nat} {e : En} (he : ∀ xs, e ≠ .own xs) {a : Addr} (h : Zs W B ad (G.set i e) a) : Zs W B ad G a := by
  rcases h with h | ⟨j, xs, h, r⟩ | h
  · exact .inl h
  · by_cases z : i = j
    · subst z
      by_cases l : i < G.length
      · rw [List.getElem?_set_self l] at h
        exact absurd (Option.some.inj h) (he xs)
      · rw [List.getElem?_eq_none (by rw [List.length_set]; omega)] at h; cases h
    · rw [List.getElem?_set_ne z] at h
      exact .inr (.inl ⟨j, xs, h, r⟩)
  · exact .inr (.inr h)
theorem get_set {α : Type} {l : List α} {i j : Nat} {x y : α} (h : (l.set i x)[j]? = some y) : (i = j ∧ i < l.length ∧ x = y) ∨ (i ≠ j ∧ l[j]? = some y) := by
  by_cases z : i = j
  · subst z
    by_cases q : i < l.length
    · rw [List.getElem?_set_self q] at h
      exact .inl ⟨rfl, q, Option.some.inj h⟩
    · rw [List.getElem?_eq_none (by rw [List.length_set]; omega)] at h; cases h
  · rw [List.getElem?_set_ne z] at h
    exact .inr ⟨z, h⟩
/-- a slot gets a thing that is no list of one's own -/
theorem Sta.set (S : Sta K W B ad H0 H σ G s) {i : Nat} {e : En} {o : Option V} (he : ∀ xs, e ≠ .own xs) (h : Slot K B ad H (Zs W B ad G) i o e) : Sta K W B ad H0 H (σ.set i o) (G.set i e) s where
  len := by rw [List.length_set, List.length_set]; exact S.len
  at_ := fun j en g => by
    rcases get_set g with ⟨rfl, l, rfl⟩ | ⟨z, g⟩
    · refine ⟨o, List.getElem?_set_self (by rw [S.len]; exact l), h.mono (less_sub fun a q => Zs.set_of he q) fun _ _ _ q => q⟩
    · obtain ⟨o', h1, h2⟩ := S.at_ j en g
      exact ⟨o', by rw [List.getElem?_set_ne z]; exact h1, h2.mono (less_sub fun a q => Zs.set_of he q) fun _ _ _ q => q⟩
  inj := fun j k xs ys g g' q => by
    rcases get_set g with ⟨rfl, l, e⟩ | ⟨z, g⟩
    · exact absurd e (he xs)
    · rcases get_set g' with ⟨rfl, l, e⟩ | ⟨z', g'⟩
      · exact absurd e (he ys)
      · exact S.inj j k xs ys g g' q
  sep := fun j xs g => by
    rcases get_set g with ⟨rfl, l, e⟩ | ⟨z, g⟩
    · exact absurd e (he xs)
    · exact S.sep j xs g
  base := S.base
  bag := S.bag
  wd := S.wd
theorem Sta.setD (S : Sta K W B ad H0 H σ G s) {i : Nat} {v : V} {x : PyData} (h : Dp K (less H (Zs W B ad G)) v x) : Sta K W B ad H0 H (σ.set i (some v)) (G.set i (.d x)) s :=
  S.set (fun _ z => by cases z) ⟨v, rfl, h⟩
theorem Sta.fresh (S : Sta K W B ad H0 H σ G s) {p : Addr} (h : H p = none) : H0 p = none ∧ ¬ InB B p := by
  have hB : ¬ InB B p := by
    rintro ⟨b, c, rfl, z⟩
    have q := S.bag
    unfold BagAt at q
    rcases z with rfl | rfl
    · rw [q.1] at h; cases h
    · rw [q.2.1] at h; cases h
  refine ⟨?_, hB⟩
  cases e : H0 p with
  | none => rfl
  | some o => rw [S.base p o e hB] at h; cases h
/-- a thing of another's, which is new to this def, is changed -/
theorem Sta.foreign (S : Sta K W B ad H0 H σ G s) {p : Addr} {o : HO} (hw : W p) (h0 : H0 p = none) (hB : ¬ InB B p) : Sta K W B ad H0 (upd H p o) σ G s ∧ less (upd H p o) (Zs W B ad G) = less H (Zs W B ad G) := by
  have el : less (upd H p o) (Zs W B ad G) = less H (Zs W B ad G) := by
    funext a
    by_cases z : Zs W B ad G a
    · rw [less_yes z, less_yes z]
    · rw [less_no z, less_no z, upd_ne (fun e => z (.inl (by rw [e]; exact hw)))]
  refine ⟨⟨S.len, fun i e h => ?_, S.inj, S.sep, fun a u q n => ?_, ?_, fun a z => (S.wd a z).elim fun o q => upd_there q⟩, el⟩
  · obtain ⟨u, g1, g2⟩ := S.at_ i e h
    refine ⟨u, g1, g2.mono (by rw [el]; exact Ex.refl _) fun xs vs q q2 => ?_⟩
    subst q
    rw [upd_ne (fun z => (S.sep i xs h).2.2 (by rw [z]; exact hw))]; exact q2
  · rw [upd_ne (fun z => by rw [z, h0] at q; cases q)]; exact S.base a u q n
  · have hg := S.bag
    rcases B with _ | ⟨b, c⟩
    · trivial
    · have h : H b = _ ∧ _ := hg
      refine ⟨?_, ?_, h.2.2⟩
      · rw [upd_ne (fun z => hB ⟨b, c, rfl, .inl z.symm⟩)]; exact h.1
      · rw [upd_ne (fun z => hB ⟨b, c, rfl, .inr z.symm⟩)]; exact h.2.1
/-- a new thing is for a while another's -/
theorem Sta.lend (S : Sta K W B ad H0 H σ G s) {p : Addr} {o : HO} (hp : H p = none) : Sta K (fun a => W a ∨ a = p) B ad H0 (upd H p o) σ G s ∧ less (upd H p o) (Zs (fun a => W a ∨ a = p) B ad G) = less H (Zs W B ad G) := by
  have np : ¬ Zs W B ad G p := by
    rintro (z | ⟨i, xs, g, r⟩ | z)
    · obtain ⟨o, z⟩ := S.wd _ z
      rw [hp] at z; cases z
    · obtain ⟨_, _, _, vs, h1, _⟩ := S.at_ i _ g
      rw [← r, hp] at h1; cases h1
    · obtain ⟨b, c, rfl, z⟩ := z
      rcases z with rfl | rfl
      · rw [S.bag.1] at hp; cases hp
      · rw [S.bag.2.1] at hp; cases hp
  have zz : ∀ a, Zs (fun a => W a ∨ a = p) B ad G a ↔ Zs W B ad G a ∨ a = p := fun a => by
    constructor
    · rintro ((z | z) | z | z)
      · exact .inl (.inl z)
      · exact .inr z
      · exact .inl (.inr (.inl z))
      · exact .inl (.inr (.inr z))
    · rintro ((z | z | z) | z)
      · exact .inl (.inl z)
      · exact .inr (.inl z)
      · exact .inr (.inr z)
      · exact .inl (.inr z)
  have el : less (upd H p o) (Zs (fun a => W a ∨ a = p) B ad G) = less H (Zs W B ad G) := by
    funext a
    by_cases e : a = p
    · rw [less_yes ((zz a).mpr (.inr e)), e, less_no np, hp]
    · by_cases z : Zs W B ad G a
      · rw [less_yes z, less_yes ((zz a).mpr (.inl z))]
      · rw [less_no z, less_no (fun y => ((zz a).mp y).elim z e), upd_ne e]
  have ex : Ex H (upd H p o) := Ex.new hp
  have S' := S.ext ex
  refine ⟨⟨S.len, fun i e h => ?_, S.inj, fun i xs h => ⟨(S.sep i xs h).1, (S.sep i xs h).2.1, fun z => z.elim (S.sep i xs h).2.2 fun z => np (by rw [← z]; exact .inr (.inl ⟨i, xs, h, rfl⟩))⟩, S'.base, S'.bag, fun a z => z.elim (fun z => S'.wd a z) fun z => ⟨o, by rw [z]; exact upd_same⟩⟩, el⟩
  obtain ⟨u, g1, g2⟩ := S.at_ i e h
  exact ⟨u, g1, g2.mono (by rw [el]; exact Ex.refl _) fun xs vs q q2 => ex _ _ q2⟩
/-- .. and is given back -/
theorem Sta.back {p : Addr} (S : Sta K (fun a => W a ∨ a = p) B ad H0 H σ G s) : Sta K W B ad H0 H σ G s ∧ Ex (less H (Zs (fun a => W a ∨ a = p) B ad G)) (less H (Zs W B ad G)) := by
  have ex : Ex (less H (Zs (fun a => W a ∨ a = p) B ad G)) (less H (Zs W B ad G)) := less_sub fun a z => z.elim (fun z => .inl (.inl z)) .inr
  refine ⟨⟨S.len, fun i e h => ?_, S.inj, fun i xs h => ⟨(S.sep i xs h).1, (S.sep i xs h).2.1, fun z => (S.sep i xs h).2.2 (.inl z)⟩, S.base, S.bag, fun a z => S.wd a (.inl z)⟩, ex⟩
  obtain ⟨u, g1, g2⟩ := S.at_ i e h
  exact ⟨u, g1, g2.mono ex fun _ _ _ q => q⟩
end
end U

end
section
namespace U
open PySem L2 Evl
/-- all but the bag stays -/
def Xb (B : Option (Addr × Addr)) (H H2 : Hp) : Prop := ∀ a o, H a = some o → ¬ InB B a → H2 a = some o
theorem Xb.refl {B : Option (Addr × Addr)} {H : Hp} : Xb B H H := fun _ _ h _ => h
theorem Xb.trans {B : Option (Addr × Addr)} {H H1 H2 : Hp} (a : Xb B H H1) (b : Xb B H1 H2) : Xb B H H2 := fun p o h n => b p o (a p o h n) n
theorem Xb.l {B : Option (Addr × Addr)} {H H2 : Hp} (a : Xb B H H2) {W : Addr → Prop} {ad : Nat → Addr} {G : Gam} : Ex (less H (Zs W B ad G)) (less H2 (Zs W B ad G)) := less_but fun p o h n => a p o h fun z => n (.inr (.inr z))
theorem Xb.of {B : Option (Addr × Addr)} {H H2 : Hp} (e : Ex H H2) : Xb B H H2 := fun p o h _ => e p o h
/-! ### what a reading evaluates to -/
def EvG (K : Fg) (te : TE) (G : Gam) (s : Bag) (x : PyData) (s' : Bag) : Prop :=
  ∀ W B ad H0 H σ, Sta K W B ad H0 H σ G s → ∀ Q : VK, (∀ v H2, Sta K W B ad H0 H2 σ G s' → Xb B H H2 → Dp K (less H2 (Zs W B ad G)) v x → Q v H2) → te σ H Q
def EvT (K : Fg) (tt : TT) (G : Gam) (s : Bag) (b : Bool) (s' : Bag) : Prop :=
  ∀ W B ad H0 H σ, Sta K W B ad H0 H σ G s → ∀ Q : Bool → Hp → Prop, (∀ H2, Sta K W B ad H0 H2 σ G s' → Xb B H H2 → Q b H2) → tt σ H Q
def EvA (K : Fg) (ta : TA) (G : Gam) (s : Bag) (xs : List PyData) (s' : Bag) : Prop :=
  ∀ W B ad H0 H σ, Sta K W B ad H0 H σ G s → ∀ Q : List V → Hp → Prop, (∀ vs H2, Sta K W B ad H0 H2 σ G s' → Xb B H H2 → DpAll K (less H2 (Zs W B ad G)) vs xs → Q vs H2) → ta σ H Q
/-- a new list as a value of its own (not yet data) is not spoken of: lists are data once made -/
inductive Out where
  | nx (G : Gam) (s : Bag)
  | rt (x : PyData) (s : Bag)
  | bk (G : Gam) (s : Bag)
  | ct (G : Gam) (s : Bag)
def Post (K : Fg) (W : Addr → Prop) (B : Option (Addr × Addr)) (H0 M : Hp) (D : Ends) : Out → Prop
  | .nx G s => ∀ ad H σ, Sta K W B ad H0 H σ G s → Ex M (less H (Zs W B ad G)) → D.nx σ H
  | .rt x s => ∀ v H, (∀ a o, H0 a = some o → ¬ InB B a → H a = some o) → BagAt H B s → Dp K (less H fun a => W a ∨ InB B a) v x → D.rt v H
  | .bk G s => ∀ ad H σ, Sta K W B ad H0 H σ G s → Ex M (less H (Zs W B ad G)) → D.bk σ H
  | .ct G s => ∀ ad H σ, Sta K W B ad H0 H σ G s → Ex M (less H (Zs W B ad G)) → D.ct σ H
def SG (K : Fg) (ts : TS) (G : Gam) (s : Bag) (o : Out) : Prop :=
  ∀ W B ad H0 H σ (D : Ends), Sta K W B ad H0 H σ G s → Post K W B H0 (less H (Zs W B ad G)) D o → ts D σ H

section
variable {K : Fg} {G G1 G2 : Gam} {s s1 s2 s3 s' : Bag} {ta tb tc te : TE} {t u : TT} {x y z : PyData}
/-! ### values -/
theorem ev_is {x'} (h : EvG K te G s x s') (e : x = x') : EvG K te G s x' s' := e ▸ h
theorem et_is {b b' : Bool} (h : EvT K t G s b s') (e : b = b') : EvT K t G s b' s' := e ▸ h
theorem ev_var {i : Nat} (h : G[i]? = some (.d x)) : EvG K (tVar i) G s x s := fun W B ad H0 H σ S Q q => by
  obtain ⟨o, h1, v, rfl, h2⟩ := S.at_ i _ h
  exact ⟨v, h1, q v H S (Xb.refl) h2⟩
theorem ev_int {i : Int} : EvG K (tC (.int i)) G s (.int i) s := fun W B ad H0 H σ S Q q => q _ H S (Xb.refl) (.int i)
/-! ### argument lists and displays -/
theorem ea_nil : EvA K tNil G s [] s := fun W B ad H0 H σ S Q q => q _ H S (Xb.refl) .nil
theorem ea_cons {tr : TA} {xs : List PyData} (h : EvG K ta G s x s1) (hr : EvA K tr G s1 xs s2) : EvA K (tCons ta tr) G s (x :: xs) s2 := fun W B ad H0 H σ S Q q =>
  h W B ad H0 H σ S _ fun v H1 S1 e1 d1 => hr W B ad H0 H1 σ S1 _ fun vs H2 S2 e2 d2 => q _ H2 S2 (e1.trans e2) (.cons (dp_mono e2.l d1) d2)
theorem new_ex {W : Addr → Prop} {B : Option (Addr × Addr)} {ad : Nat → Addr} {H0 H : Hp} {σ : St} (S : Sta K W B ad H0 H σ G s) {p : Addr} {o : HO} (h : H p = none) :
    Sta K W B ad H0 (upd H p o) σ G s ∧ Xb B H (upd H p o) ∧ less (upd H p o) (Zs W B ad G) p = some o := by
  have e : Ex H (upd H p o) := Ex.new h
  refine ⟨S.ext e, .of e, less_of ?_ upd_same⟩
  rintro (z | ⟨i, xs, g, r⟩ | z)
  · obtain ⟨o, z⟩ := S.wd _ z
    rw [h] at z; cases z
  · obtain ⟨_, _, _, vs, h1, _⟩ := S.at_ i _ g
    rw [← r, h] at h1; cases h1
  · exact (S.fresh h).2 z
theorem sz_line {n : Nat} (h : n ≤ 16000000) : n ≤ sizeLine := Nat.le_trans h (by decide)
theorem ev_tup {ta : TA} {xs : List PyData} (h : EvA K ta G s xs s') (hl : xs.length ≤ 16000000) : EvG K (tTup ta) G s (.tuple xs) s' := fun W B ad H0 H σ S Q q =>
  h W B ad H0 H σ S _ fun vs H1 S1 e1 d1 => ⟨by rw [dpa_len d1]; exact sz_line hl, fun p hp => by
    obtain ⟨S2, e2, g⟩ := new_ex (o := .tup vs) S1 hp
    exact q _ _ S2 (e1.trans e2) (.tup (st_of g) (dpa_mono e2.l d1))⟩
theorem ev_lst {ta : TA} {xs : List PyData} (h : EvA K ta G s xs s') (hl : xs.length ≤ 16000000) : EvG K (tLst ta) G s (.list xs) s' := fun W B ad H0 H σ S Q q =>
  h W B ad H0 H σ S _ fun vs H1 S1 e1 d1 => ⟨by rw [dpa_len d1]; exact sz_line hl, fun p hp => by
    obtain ⟨S2, e2, g⟩ := new_ex (o := .lst vs) S1 hp
    exact q _ _ S2 (e1.trans e2) (.lst (sq_of g) (dpa_mono e2.l d1))⟩
/-! ### operators -/
theorem ev_I0 {g : Int → Int → V} {f : Int → Int → PyData} {i j : Int} (ha : EvG K ta G s (.int i) s1) (hb : EvG K tb G s1 (.int j) s2) (hg : ∀ H, Dp K H (g i j) (f i j)) : EvG K (tOp (rI0 g) ta tb) G s (f i j) s2 := fun W B ad H0 H σ S Q q =>
  ha W B ad H0 H σ S _ fun v H1 S1 e1 d1 => hb W B ad H0 H1 σ S1 _ fun w H2 S2 e2 d2 => by
    cases d1; cases d2
    exact ⟨i, j, rfl, rfl, q _ H2 S2 (e1.trans e2) (hg _)⟩
theorem ev_I {C : Int → Int → Prop} {g : Int → Int → V} {f : Int → Int → PyData} {i j : Int} (ha : EvG K ta G s (.int i) s1) (hb : EvG K tb G s1 (.int j) s2) (hc : C i j) (hg : ∀ H, Dp K H (g i j) (f i j)) : EvG K (tOp (rI C g) ta tb) G s (f i j) s2 := fun W B ad H0 H σ S Q q =>
  ha W B ad H0 H σ S _ fun v H1 S1 e1 d1 => hb W B ad H0 H1 σ S1 _ fun w H2 S2 e2 d2 => by
    cases d1; cases d2
    exact ⟨i, j, rfl, rfl, hc, q _ H2 S2 (e1.trans e2) (hg _)⟩
theorem ev_add {i j : Int} (ha : EvG K ta G s (.int i) s1) (hb : EvG K tb G s1 (.int j) s2) : EvG K (tOp (rI0 fun i j => .int (i + j)) ta tb) G s (.int (i + j)) s2 := ev_I0 (f := fun i j => .int (i + j)) ha hb fun _ => .int _
theorem ev_sub {i j : Int} (ha : EvG K ta G s (.int i) s1) (hb : EvG K tb G s1 (.int j) s2) : EvG K (tOp (rI0 fun i j => .int (i - j)) ta tb) G s (.int (i - j)) s2 := ev_I0 (f := fun i j => .int (i - j)) ha hb fun _ => .int _
theorem ev_mul {i j : Int} (ha : EvG K ta G s (.int i) s1) (hb : EvG K tb G s1 (.int j) s2) (hc : CMulW i j) : EvG K (tOp (rI CMulW fun i j => .int (i * j)) ta tb) G s (.int (i * j)) s2 := ev_I (f := fun i j => .int (i * j)) ha hb hc fun _ => .int _
/-- // by any divisor but 0, of less than 9000 bits -/
def CDvX (_ j : Int) : Prop := j ≠ 0 ∧ j.natAbs.log2 < 9000
theorem op_fdivX {X : Cx} : OpR X (binaryOp .FloorDiv) (rI CDvX fun i j => .int (i.fdiv j)) := opI fun i j _ _ _ _ _ hc q => PyProof.Rows.floordiv_int hc.1 q (.inl (PyProof.noPylong_of_log2 hc.2))
theorem ev_fdiv {i j : Int} (ha : EvG K ta G s (.int i) s1) (hb : EvG K tb G s1 (.int j) s2) (hc : CDvX i j) : EvG K (tOp (rI CDvX fun i j => .int (i.fdiv j)) ta tb) G s (.int (i.fdiv j)) s2 := ev_I (f := fun i j => .int (i.fdiv j)) ha hb hc fun _ => .int _
def CNz (_ j : Int) : Prop := j ≠ 0
theorem op_modX {X : Cx} : OpR X (binaryOp .Mod) (rI CNz fun i j => .int (i.fmod j)) := op_modN
theorem ev_mod {i j : Int} (ha : EvG K ta G s (.int i) s1) (hb : EvG K tb G s1 (.int j) s2) (hc : CNz i j) : EvG K (tOp (rI CNz fun i j => .int (i.fmod j)) ta tb) G s (.int (i.fmod j)) s2 := ev_I (f := fun i j => .int (i.fmod j)) ha hb hc fun _ => .int _
theorem ev_lt {i j : Int} (ha : EvG K ta G s (.int i) s1) (hb : EvG K tb G s1 (.int j) s2) : EvG K (tOp (rI0 fun i j => .bl (decide (i < j))) ta tb) G s (.bool (decide (i < j))) s2 := ev_I0 (f := fun i j => .bool (decide (i < j))) ha hb fun _ => .bl _
theorem ev_gt {i j : Int} (ha : EvG K ta G s (.int i) s1) (hb : EvG K tb G s1 (.int j) s2) : EvG K (tOp (rI0 fun i j => .bl (decide (j < i))) ta tb) G s (.bool (decide (j < i))) s2 := ev_I0 (f := fun i j => .bool (decide (j < i))) ha hb fun _ => .bl _
theorem ev_eqI {i j : Int} (ha : EvG K ta G s (.int i) s1) (hb : EvG K tb G s1 (.int j) s2) : EvG K (tOp rEq ta tb) G s (.bool (decide (i = j))) s2 := fun W B ad H0 H σ S Q q =>
  ha W B ad H0 H σ S _ fun v H1 S1 e1 d1 => hb W B ad H0 H1 σ S1 _ fun w H2 S2 e2 d2 => by
    cases d1; cases d2
    have e : decide (V.int i = V.int j) = decide (i = j) := by simp
    exact ⟨rfl, by rw [e]; exact q _ H2 S2 (e1.trans e2) (.bl _)⟩
theorem ev_neI {i j : Int} (ha : EvG K ta G s (.int i) s1) (hb : EvG K tb G s1 (.int j) s2) : EvG K (tOp rNe ta tb) G s (.bool (!decide (i = j))) s2 := fun W B ad H0 H σ S Q q =>
  ha W B ad H0 H σ S _ fun v H1 S1 e1 d1 => hb W B ad H0 H1 σ S1 _ fun w H2 S2 e2 d2 => by
    cases d1; cases d2
    have e : decide (V.int i = V.int j) = decide (i = j) := by simp
    exact ⟨rfl, by rw [e]; exact q _ H2 S2 (e1.trans e2) (.bl _)⟩
theorem ev_eqS {i j : Str} (ha : EvG K ta G s (.str i) s1) (hb : EvG K tb G s1 (.str j) s2) : EvG K (tOp rEq ta tb) G s (.bool (decide (i = j))) s2 := fun W B ad H0 H σ S Q q =>
  ha W B ad H0 H σ S _ fun v H1 S1 e1 d1 => hb W B ad H0 H1 σ S1 _ fun w H2 S2 e2 d2 => by
    cases d1; cases d2
    have e : decide (V.str i = V.str j) = decide (i = j) := by simp
    exact ⟨rfl, by rw [e]; exact q _ H2 S2 (e1.trans e2) (.bl _)⟩
theorem ev_eqB {i j : Bool} (ha : EvG K ta G s (.bool i) s1) (hb : EvG K tb G s1 (.bool j) s2) : EvG K (tOp rEq ta tb) G s (.bool (decide (i = j))) s2 := fun W B ad H0 H σ S Q q =>
  ha W B ad H0 H σ S _ fun v H1 S1 e1 d1 => hb W B ad H0 H1 σ S1 _ fun w H2 S2 e2 d2 => by
    cases d1; cases d2
    have e : decide (V.bl i = V.bl j) = decide (i = j) := by simp
    exact ⟨rfl, by rw [e]; exact q _ H2 S2 (e1.trans e2) (.bl _)⟩
theorem ev_neB {i j : Bool} (ha : EvG K ta G s (.bool i) s1) (hb : EvG K tb G s1 (.bool j) s2) : EvG K (tOp rNe ta tb) G s (.bool (!decide (i = j))) s2 := fun W B ad H0 H σ S Q q =>
  ha W B ad H0 H σ S _ fun v H1 S1 e1 d1 => hb W B ad H0 H1 σ S1 _ fun w H2 S2 e2 d2 => by
    cases d1; cases d2
    have e : decide (V.bl i = V.bl j) = decide (i = j) := by simp
    exact ⟨rfl, by rw [e]; exact q _ H2 S2 (e1.trans e2) (.bl _)⟩
theorem ev_neg {i : Int} (ha : EvG K ta G s (.int i) s') : EvG K (tUn (rU fun i => .int (-i)) ta) G s (.int (-i)) s' := fun W B ad H0 H σ S Q q =>
  ha W B ad H0 H σ S _ fun v H1 S1 e1 d1 => by
    cases d1
    exact ⟨i, rfl, q _ H1 S1 e1 (.int _)⟩
def isNoneD : PyData → Bool
  | .none => true
  | _ => false
theorem dp_none {K : Fg} {H : Hp} {v : V} {x : PyData} (h : Dp K H v x) : decide (v = V.non) = isNoneD x := by
  cases h <;> simp [isNoneD]
theorem ev_isN (ha : EvG K ta G s x s') : EvG K (tOp (fun x y H Q => y = .non ∧ Q (.bl (decide (x = .non))) H) ta (tC .non)) G s (.bool (isNoneD x)) s' := fun W B ad H0 H σ S Q q =>
  ha W B ad H0 H σ S _ fun v H1 S1 e1 d1 => ⟨rfl, by rw [dp_none d1]; exact q _ H1 S1 e1 (.bl _)⟩
/-! ### items -/
theorem dpa_atI {K : Fg} {H : Hp} {ds : List PyData} {vs : List V} {i : Int} {d : PyData} (h : DpAll K H vs ds) (e : atI ds i = some d) : ∃ v, atI vs i = some v ∧ Dp K H v d := by
  unfold atI at e ⊢
  rw [dpa_len h]
  cases q : ixN ds.length i with
  | none => rw [q] at e; cases e
  | some j =>
    rw [q] at e
    exact dpa_get h e
theorem ev_ixT {xs : List PyData} {i : Int} (ha : EvG K ta G s (.tuple xs) s1) (hb : EvG K tb G s1 (.int i) s2) (he : atI xs i = some x) : EvG K (tOp (rIx K) ta tb) G s x s2 := fun W B ad H0 H σ S Q q =>
  ha W B ad H0 H σ S _ fun v H1 S1 e1 d1 => hb W B ad H0 H1 σ S1 _ fun w H2 S2 e2 d2 => by
    cases d2
    cases dp_mono e2.l d1 with
    | tup h t =>
      obtain ⟨v, g1, g2⟩ := dpa_atI t he
      exact .inr (.inl ⟨_, _, i, v, rfl, rfl, ex_t less_ex h, g1, q _ H2 S2 (e1.trans e2) g2⟩)
theorem ev_ixL {xs : List PyData} {i : Int} (ha : EvG K ta G s (.list xs) s1) (hb : EvG K tb G s1 (.int i) s2) (he : atI xs i = some x) : EvG K (tOp (rIx K) ta tb) G s x s2 := fun W B ad H0 H σ S Q q =>
  ha W B ad H0 H σ S _ fun v H1 S1 e1 d1 => hb W B ad H0 H1 σ S1 _ fun w H2 S2 e2 d2 => by
    cases d2
    cases dp_mono e2.l d1 with
    | lst h t =>
      obtain ⟨v, g1, g2⟩ := dpa_atI t he
      exact .inl ⟨_, _, i, v, rfl, rfl, ex_l less_ex h, g1, q _ H2 S2 (e1.trans e2) g2⟩
/-! ### tests -/
theorem et_test {b : Bool} (h : EvG K te G s (.bool b) s') : EvT K (tTest te) G s b s' := fun W B ad H0 H σ S Q q => h W B ad H0 H σ S _ fun v H1 S1 e1 d1 => by
  cases d1
  exact ⟨b, rfl, q H1 S1 e1⟩
theorem et_B {b : Bool} (h : EvG K te G s (.bool b) s') : EvT K (tB te) G s b s' := fun W B ad H0 H σ S Q q => h W B ad H0 H σ S _ fun v H1 S1 e1 d1 => by
  cases d1
  exact ⟨b, rfl, q H1 S1 e1⟩
theorem et_not {b : Bool} (h : EvT K t G s b s') : EvT K (tNot t) G s (!b) s' := fun W B ad H0 H σ S Q q => h W B ad H0 H σ S _ q
theorem et_orF {b : Bool} (h : EvT K t G s false s1) (h2 : EvT K u G s1 b s2) : EvT K (tOr t u) G s b s2 := fun W B ad H0 H σ S Q q => h W B ad H0 H σ S _ fun H1 S1 e1 => iteF (h2 W B ad H0 H1 σ S1 _ fun H2 S2 e2 => q H2 S2 (e1.trans e2))
theorem ev_andT (h : EvG K ta G s (.bool true) s1) (h2 : EvG K tb G s1 x s2) : EvG K (tAndV ta tb) G s x s2 := fun W B ad H0 H σ S Q q => h W B ad H0 H σ S _ fun v H1 S1 e1 d1 => by
  cases d1
  exact ⟨true, rfl, iteT (h2 W B ad H0 H1 σ S1 _ fun v H2 S2 e2 d2 => q v H2 S2 (e1.trans e2) d2)⟩
theorem ev_not {a : Bool} (h : EvG K ta G s (.bool a) s') : EvG K (tNotV ta) G s (.bool (!a)) s' := fun W B ad H0 H σ S Q q => h W B ad H0 H σ S _ fun v H1 S1 e1 d1 => by
  cases d1
  exact ⟨a, rfl, q _ H1 S1 e1 (.bl _)⟩
theorem ev_ifT (h : EvT K t G s true s1) (h1 : EvG K ta G s1 x s2) : EvG K (tIf t ta tb) G s x s2 := fun W B ad H0 H σ S Q q => h W B ad H0 H σ S _ fun H1 S1 e1 => iteT (h1 W B ad H0 H1 σ S1 _ fun v H2 S2 e2 d2 => q v H2 S2 (e1.trans e2) d2)
theorem ev_ifF (h : EvT K t G s false s1) (h1 : EvG K tb G s1 x s2) : EvG K (tIf t ta tb) G s x s2 := fun W B ad H0 H σ S Q q => h W B ad H0 H σ S _ fun H1 S1 e1 => iteF (h1 W B ad H0 H1 σ S1 _ fun v H2 S2 e2 d2 => q v H2 S2 (e1.trans e2) d2)
/-! ### what a def promises: of data; of the bag and data -/
def spP (K : Fg) (P : List PyData → PyData → Prop) : Sp := fun vs H Q _ => ∃ (W : Addr → Prop) (ds : List PyData) (r : PyData), (∀ a, W a → ∃ o, H a = some o) ∧ DpAll K (less H W) vs ds ∧ P ds r ∧ ∀ v H', Ex H H' → Dp K (less H' W) v r → Q v H'
def spB (K : Fg) (P : Bag → List PyData → PyData → Bag → Prop) : Sp := fun vs H Q _ => ∃ (W : Addr → Prop) (b c : Addr) (us : List V) (s : Bag) (ds : List PyData) (r : PyData) (s' : Bag), (∀ a, W a → ∃ o, H a = some o) ∧ vs = .ref b :: us ∧ BagAt H (some (b, c)) s ∧
  DpAll K (less H fun a => W a ∨ InB (some (b, c)) a) us ds ∧ P s ds r s' ∧ ∀ v H', (∀ a o, H a = some o → ¬ InB (some (b, c)) a → H' a = some o) → BagAt H' (some (b, c)) s' → Dp K (less H' fun a => W a ∨ InB (some (b, c)) a) v r → Q v H'
theorem bag_there {H : Hp} {B : Option (Addr × Addr)} {a : Addr} (h : BagAt H B s) (z : InB B a) : ∃ o, H a = some o := by
  obtain ⟨b, c, rfl, z⟩ := z
  rcases z with rfl | rfl
  · exact ⟨_, h.1⟩
  · exact ⟨_, h.2.1⟩
theorem Sta.there {W : Addr → Prop} {B : Option (Addr × Addr)} {ad : Nat → Addr} {H0 H : Hp} {σ : St} (S : Sta K W B ad H0 H σ G s) (a : Addr) (z : Zs W B ad G a) : ∃ o, H a = some o := by
  by_cases hb : InB B a
  · exact bag_there S.bag hb
  rcases z with z | ⟨i, xs, g, rfl⟩ | z
  · exact S.wd _ z
  · obtain ⟨_, _, _, vs, h1, _⟩ := S.at_ i _ g
    exact ⟨_, h1⟩
  · exact absurd z hb
theorem ev_call {P : List PyData → PyData → Prop} {ta : TA} {ds : List PyData} {dvs : List V} {des : List PyData} {E : XK} (h : EvA K ta G s ds s') (hd : ∀ H, DpAll K H dvs des) (hp : P (ds ++ des) x) : EvG K (tCall (spP K P) dvs E ta) G s x s' := fun W B ad H0 H σ S Q q =>
  h W B ad H0 H σ S _ fun vs H1 S1 e1 d1 => ⟨Zs W B ad G, ds ++ des, x, S1.there, dpa_app d1 (hd _), hp, fun v H' e d => q v H' (S1.ext e) (e1.trans (.of e)) d⟩
theorem ev_callB {P : Bag → List PyData → PyData → Bag → Prop} {tr : TA} {i : Nat} {ds : List PyData} {E : XK} (hi : G[i]? = some .bag) (h : EvA K tr G s ds s1) (hp : P s1 ds x s') : EvG K (tCall (spB K P) [] E (tCons (tVar i) tr)) G s x s' := fun W B ad H0 H σ S Q q => by
  obtain ⟨o, g1, b, c, rfl, rfl⟩ := S.at_ i _ hi
  refine ⟨_, g1, h W _ ad H0 H σ S _ fun vs H1 S1 e1 d1 => ?_⟩
  have zz : ∀ a, (((fun a => W a ∨ ∃ i xs, G[i]? = some (En.own xs) ∧ a = ad i) a) ∨ InB (some (b, c)) a) ↔ Zs W (some (b, c)) ad G a := fun a => or_assoc
  have zl : ∀ H : Hp, (less H fun a => (W a ∨ ∃ i xs, G[i]? = some (En.own xs) ∧ a = ad i) ∨ InB (some (b, c)) a) = less H (Zs W (some (b, c)) ad G) := fun H => congrArg (less H) (funext fun a => propext (zz a))
  refine ⟨fun a => W a ∨ ∃ i xs, G[i]? = some (En.own xs) ∧ a = ad i, b, c, vs, s1, ds, x, s', fun a z => S1.there a ((zz a).mp (.inl z)), ?_, S1.bag, ?_, hp, fun v H' e hb d => ?_⟩
  · rw [List.append_nil]
  · rw [zl]; exact d1
  · rw [zl] at d
    exact q v H' (S1.drawn e hb) (e1.trans e) d
end
end U

end
section
namespace U
open PySem L2 Evl
/-! ### built-ins, by name -/
def rAbs : List V → Hp → VK → Prop := fun xs H Q => ∃ i, xs = [.int i] ∧ Q (.int (if i < 0 then -i else i)) H
def rMx : List V → Hp → VK → Prop := fun xs H Q => ∃ i j, xs = [.int i, .int j] ∧ Q (.int (if j > i then j else i)) H
def rLenQ (K : Fg) : List V → Hp → VK → Prop := fun xs H Q => ∃ p ys, xs = [.ref p] ∧ (SqL K H p ys ∨ SqT K H p ys) ∧ Q (.int ys.length) H
def rListQ (K : Fg) : List V → Hp → VK → Prop := fun xs H Q => ∃ p ys, xs = [.ref p] ∧ (SqL K H p ys ∨ SqT K H p ys) ∧ ∀ l, H l = none → Q (.ref l) (upd H l (.lst ys))
def rTupQ (K : Fg) : List V → Hp → VK → Prop := fun xs H Q => ∃ p ys, xs = [.ref p] ∧ ((SqL K H p ys ∧ ∀ l, H l = none → Q (.ref l) (upd H l (.tup ys))) ∨ (SqT K H p ys ∧ Q (.ref p) H))
def rIsNo : R2 := fun x y H Q => y = .non ∧ Q (.bl (decide (x = .non))) H
section
variable {X : Cx}
theorem c_abs : CallR X (.builtin "abs") rAbs := call_abs
theorem c_max2 (hc : X.calm = true) : CallR X (.builtin "max") rMx := call_max2 hc
theorem c_len : CallR X (.builtin "len") (rLenQ X.K) := call_len_seq
theorem c_list : CallR X (.type "list") (rListQ X.K) := call_list_of
theorem c_tuple : CallR X (.type "tuple") (rTupQ X.K) := call_tuple_of
theorem o_isN : OpR X (compareOp .Is) rIsNo := op_isN
end
section
variable {K : Fg} {G G1 G2 : Gam} {s s1 s2 s3 s' : Bag} {ta tb tc te : TE} {t u : TT} {x y z : PyData}
theorem ev_isNo (ha : EvG K ta G s x s') : EvG K (tOp rIsNo ta (tC .non)) G s (.bool (isNoneD x)) s' := ev_isN ha
/-- a call of a built-in upon data -/
theorem ev_cb {r : List V → Hp → VK → Prop} {ta : TA} {xs : List PyData} (h : EvA K ta G s xs s')
    (hr : ∀ W B ad H0 H σ vs, Sta K W B ad H0 H σ G s' → DpAll K (less H (Zs W B ad G)) vs xs → ∀ Q : VK, (∀ v H2, Sta K W B ad H0 H2 σ G s' → Xb B H H2 → Dp K (less H2 (Zs W B ad G)) v x → Q v H2) → r vs H Q) : EvG K (tCB r ta) G s x s' := fun W B ad H0 H σ S Q q =>
  h W B ad H0 H σ S _ fun vs H1 S1 e1 d1 => hr W B ad H0 H1 σ vs S1 d1 Q fun v H2 S2 e2 d2 => q v H2 S2 (e1.trans e2) d2
theorem dp1 {H : Hp} {vs : List V} {x : PyData} (h : DpAll K H vs [x]) : ∃ v, vs = [v] ∧ Dp K H v x := by
  cases h with
  | cons a b => cases b; exact ⟨_, rfl, a⟩
theorem dp2 {H : Hp} {vs : List V} {x y : PyData} (h : DpAll K H vs [x, y]) : ∃ v w, vs = [v, w] ∧ Dp K H v x ∧ Dp K H w y := by
  cases h with
  | cons a b => obtain ⟨w, rfl, c⟩ := dp1 b; exact ⟨_, w, rfl, a, c⟩
def absI (i : Int) : Int := if i < 0 then -i else i
def maxI (i j : Int) : Int := if j > i then j else i
theorem ev_abs {i : Int} (h : EvG K ta G s (.int i) s') : EvG K (tCB rAbs (tCons ta tNil)) G s (.int (absI i)) s' := ev_cb (ea_cons h ea_nil) fun W B ad H0 H σ vs S d Q q => by
  obtain ⟨v, rfl, d1⟩ := dp1 d
  cases d1
  exact ⟨i, rfl, q _ H S (Xb.refl) (.int _)⟩
theorem ev_max {i j : Int} (h : EvG K ta G s (.int i) s1) (h2 : EvG K tb G s1 (.int j) s') : EvG K (tCB rMx (tCons ta (tCons tb tNil))) G s (.int (maxI i j)) s' := ev_cb (ea_cons h (ea_cons h2 ea_nil)) fun W B ad H0 H σ vs S d Q q => by
  obtain ⟨v, w, rfl, d, d2⟩ := dp2 d
  cases d; cases d2
  exact ⟨i, j, rfl, q _ H S (Xb.refl) (.int _)⟩
theorem ev_lenT {xs : List PyData} (h : EvG K ta G s (.tuple xs) s') : EvG K (tCB (rLenQ K) (tCons ta tNil)) G s (.int xs.length) s' := ev_cb (ea_cons h ea_nil) fun W B ad H0 H σ vs S d Q q => by
  obtain ⟨v, rfl, d1⟩ := dp1 d
  cases d1 with
  | tup g t => exact ⟨_, _, rfl, .inr (ex_t less_ex g), by rw [dpa_len t]; exact q _ H S (Xb.refl) (.int _)⟩
theorem ev_lenL {xs : List PyData} (h : EvG K ta G s (.list xs) s') : EvG K (tCB (rLenQ K) (tCons ta tNil)) G s (.int xs.length) s' := ev_cb (ea_cons h ea_nil) fun W B ad H0 H σ vs S d Q q => by
  obtain ⟨v, rfl, d1⟩ := dp1 d
  cases d1 with
  | lst g t => exact ⟨_, _, rfl, .inl (ex_l less_ex g), by rw [dpa_len t]; exact q _ H S (Xb.refl) (.int _)⟩
theorem new_tup {W : Addr → Prop} {B : Option (Addr × Addr)} {ad : Nat → Addr} {H0 H : Hp} {σ : St} {vs : List V} {xs : List PyData} (S : Sta K W B ad H0 H σ G s) (d : DpAll K (less H (Zs W B ad G)) vs xs) {l : Addr} (hl : H l = none) {Q : VK}
    (q : ∀ v H2, Sta K W B ad H0 H2 σ G s → Xb B H H2 → Dp K (less H2 (Zs W B ad G)) v (.tuple xs) → Q v H2) : Q (.ref l) (upd H l (.tup vs)) := by
  obtain ⟨S2, e2, g⟩ := new_ex (o := .tup vs) S hl
  exact q _ _ S2 e2 (.tup (st_of g) (dpa_mono e2.l d))
theorem ev_tupL {xs : List PyData} (h : EvG K ta G s (.list xs) s') : EvG K (tCB (rTupQ K) (tCons ta tNil)) G s (.tuple xs) s' := ev_cb (ea_cons h ea_nil) fun W B ad H0 H σ vs S d Q q => by
  obtain ⟨v, rfl, d1⟩ := dp1 d
  cases d1 with
  | lst g t => exact ⟨_, _, rfl, .inl ⟨ex_l less_ex g, fun l hl => new_tup S t hl q⟩⟩
theorem dpa_bools {H : Hp} : ∀ {bs : List Bool} {vs : List V}, DpAll K H vs (bs.map PyData.bool) → vs = bs.map V.bl
  | [], _, .nil => rfl
  | b :: r, _, .cons h t => by cases h; rw [dpa_bools t]; rfl
theorem dpa_ints {H : Hp} : ∀ {bs : List Int} {vs : List V}, DpAll K H vs (bs.map PyData.int) → vs = bs.map V.int
  | [], _, .nil => rfl
  | b :: r, _, .cons h t => by cases h; rw [dpa_ints t]; rfl
theorem dpa_of_ints {H : Hp} : ∀ (bs : List Int), DpAll K H (bs.map V.int) (bs.map PyData.int)
  | [] => .nil
  | b :: r => .cons (.int b) (dpa_of_ints r)
theorem ev_all {bs : List Bool} (h : EvG K ta G s (.list (bs.map PyData.bool)) s') : EvG K (tCB (rAll K) (tCons ta tNil)) G s (.bool (bs.all id)) s' := ev_cb (ea_cons h ea_nil) fun W B ad H0 H σ vs S d Q q => by
  obtain ⟨v, rfl, d1⟩ := dp1 d
  cases d1 with
  | lst g t =>
    have e := dpa_bools t
    subst e
    exact ⟨_, bs, rfl, ex_l less_ex g, q _ H S (Xb.refl) (.bl _)⟩
/-! ### isinstance -/
def tyN : PyData → String
  | .none => "NoneType"
  | .bool _ => "bool"
  | .int _ => "int"
  | .str _ => "str"
  | .list _ => "list"
  | .tuple _ => "tuple"
  | .dict _ => "dict"
theorem dp_ty {H : Hp} {Z : Addr → Prop} {v : V} {x : PyData} (h : Dp K (less H Z) v x) : TyX K H v (.type (tyN x)) := by
  cases h with
  | non => exact .base .non
  | bl b => exact .base (.bl b)
  | int i => exact .base (.int i)
  | str i => exact .base (.str i)
  | lst g _ =>
    rcases ex_l less_ex g with (g | ⟨o, g⟩) | ⟨o, its, n, k, c, _⟩
    · exact .base (.lst g)
    · exact .base (.frz g)
    · exact .kList k c
  | tup g _ =>
    rcases ex_t less_ex g with (g | ⟨o, g⟩) | ⟨o, its, n, k, c, _⟩
    · exact .base (.tup g)
    · exact .fTuple g
    · exact .kTuple k c
/-- isinstance(x, T), T a built-in class -/
theorem ev_isi {n : String} {b : Bool} (h : EvG K ta G s x s') (hb : kitB (tyN x) n = some b) : EvG K (tCB (rIsi K) (tCons ta (tCons (tC (.ty n)) tNil))) G s (.bool b) s' := fun W B ad H0 H σ S Q q =>
  h W B ad H0 H σ S _ fun v H1 S1 e1 d1 => ⟨v, .ty n, _, _, b, rfl, .ty n, dp_ty d1, kit_ty hb, q _ H1 S1 e1 (.bl _)⟩
/-- isinstance(x, (S, T)) -/
theorem ev_isi2 {n m : String} {b c : Bool} (h : EvG K ta G s x s') (hb : kitB (tyN x) n = some b) (hc : kitB (tyN x) m = some c) : EvG K (tCB (rIsiT K) (tCons ta (tCons (tTup (tCons (tC (.ty n)) (tCons (tC (.ty m)) tNil))) tNil))) G s (.bool (b || c)) s' := fun W B ad H0 H σ S Q q =>
  h W B ad H0 H σ S _ fun v H1 S1 e1 d1 => ⟨by show 2 ≤ sizeLine; decide, fun p hp => by
    obtain ⟨S2, e2, g⟩ := new_ex (o := .tup [V.ty n, V.ty m]) S1 hp
    refine ⟨v, p, [.ty n, .ty m], _, [.type n, .type m], b || c, rfl, (less_some g).2, .cons (.ty n) (.cons (.ty m) .nil), dp_ty (dp_mono e2.l d1), kitAny_cons (kit_ty hb) (fun e => kitAny_cons (kit_ty hc) (fun e2 => ?_) fun e2 => ?_) (fun e => ?_), q _ _ S2 (e1.trans e2) (.bl _)⟩
    · rw [e, e2]; rfl
    · rw [e, e2]; rfl
    · rw [e]; rfl⟩
/-! ### slices -/
def cutD (xs : List PyData) (lo hi : Option Int) : List PyData := (xs.drop (HT.sIx xs.length 0 lo)).take (HT.sIx xs.length xs.length hi - HT.sIx xs.length 0 lo)
theorem dpa_drop {H : Hp} : ∀ (n : Nat) {ds : List PyData} {vs : List V}, DpAll K H vs ds → DpAll K H (vs.drop n) (ds.drop n)
  | 0, _, _, h => h
  | n + 1, _, _, .nil => .nil
  | n + 1, _, _, .cons _ t => dpa_drop n t
theorem dpa_take {H : Hp} : ∀ (n : Nat) {ds : List PyData} {vs : List V}, DpAll K H vs ds → DpAll K H (vs.take n) (ds.take n)
  | 0, _, _, _ => .nil
  | n + 1, _, _, .nil => .nil
  | n + 1, _, _, .cons h t => .cons h (dpa_take n t)
theorem dpa_cut {H : Hp} {ds : List PyData} {vs : List V} (h : DpAll K H vs ds) (lo hi : Option Int) : DpAll K H (cutV vs lo hi) (cutD ds lo hi) := by
  unfold cutV cutD
  rw [dpa_len h]
  exact dpa_take _ (dpa_drop _ h)
end
end U

end
section
namespace U
open PySem L2 Evl
section
variable {K : Fg} {G G1 G2 : Gam} {s s1 s2 s3 s' : Bag} {ta tb tc te : TE} {t u : TT} {x y z : PyData} {tu tw tz : TS} {o : Out}
theorem Post.mono {W : Addr → Prop} {B : Option (Addr × Addr)} {H0 M M' : Hp} {D : Ends} (e : Ex M M') (h : Post K W B H0 M D o) : Post K W B H0 M' D o := by
  cases o with
  | nx G s => exact fun ad H σ S x => h ad H σ S (e.trans x)
  | rt x s => exact h
  | bk G s => exact fun ad H σ S x => h ad H σ S (e.trans x)
  | ct G s => exact fun ad H σ S x => h ad H σ S (e.trans x)
theorem sg_seq (h : SG K tu G s (.nx G1 s1)) (k : SG K tz G1 s1 o) : SG K (tSeq tu tz) G s o := fun W B ad H0 H σ D S p =>
  h W B ad H0 H σ { D with nx := tz D } S fun ad' H' σ' S' e => k W B ad' H0 H' σ' D S' (p.mono e)
theorem sg_seqR (h : SG K tu G s (.rt x s1)) : SG K (tSeq tu tz) G s (.rt x s1) := fun W B ad H0 H σ D S p => h W B ad H0 H σ { D with nx := tz D } S p
theorem sg_next : SG K tNext G s (.nx G s) := fun W B ad H0 H σ D S p => p ad H σ S (Ex.refl _)
theorem sg_asg {i : Nat} (h : EvG K te G s x s1) : SG K (tAsg te (gName i)) G s (.nx (G.set i (.d x)) s1) := fun W B ad H0 H σ D S p =>
  h W B ad H0 H σ S _ fun v H1 S1 e1 d1 => p ad H1 _ (S1.setD d1) (e1.l.trans (less_sub fun a q => Zs.set_of (fun _ z => by cases z) q))
theorem sg_ret (h : EvG K te G s x s1) : SG K (tRet te) G s (.rt x s1) := fun W B ad H0 H σ D S p =>
  h W B ad H0 H σ S _ fun v H1 S1 e1 d1 => p v H1 S1.base S1.bag (dp_mono (less_sub fun a q => q.elim .inl fun z => .inr (.inr z)) d1)
theorem sg_ifT (h : EvT K t G s true s1) (k : SG K tu G s1 o) : SG K (tIfS t tu tw) G s o := fun W B ad H0 H σ D S p =>
  h W B ad H0 H σ S _ fun H1 S1 e1 => iteT (k W B ad H0 H1 σ D S1 (p.mono e1.l))
theorem sg_ifF (h : EvT K t G s false s1) (k : SG K tw G s1 o) : SG K (tIfS t tu tw) G s o := fun W B ad H0 H σ D S p =>
  h W B ad H0 H σ S _ fun H1 S1 e1 => iteF (k W B ad H0 H1 σ D S1 (p.mono e1.l))
/-- if c: return .. else on -/
theorem sg_when {b : Bool} (h : EvT K t G s b s1) (k1 : b = true → SG K (tSeq tu tz) G s1 o) (k2 : b = false → SG K tz G s1 o) : SG K (tSeq (tIfS t tu tNext) tz) G s o := fun W B ad H0 H σ D S p =>
  h W B ad H0 H σ S _ fun H1 S1 e1 => by
    cases b with
    | true => exact iteT (k1 rfl W B ad H0 H1 σ D S1 (p.mono e1.l))
    | false => exact iteF (k2 rfl W B ad H0 H1 σ D S1 (p.mono e1.l))
/-- x, y = a, b -/
theorem sg_par {i j : Nat} {ta : TA} (h : EvA K ta G s [x, y] s1) : SG K (tPar i j ta) G s (.nx ((G.set i (.d x)).set j (.d y)) s1) := fun W B ad H0 H σ D S p =>
  h W B ad H0 H σ S _ fun vs H1 S1 e1 d1 => by
    obtain ⟨v, w, rfl, d, d2⟩ := dp2 d1
    have e2 : Ex (less H1 (Zs W B ad G)) (less H1 (Zs W B ad (G.set i (.d x)))) := less_sub fun a q => Zs.set_of (fun _ z => by cases z) q
    have S2 := S1.setD (i := i) d
    exact ⟨v, w, rfl, p ad H1 _ (S2.setD (i := j) (dp_mono e2 d2)) (e1.l.trans (e2.trans (less_sub fun a q => Zs.set_of (fun _ z => by cases z) q)))⟩
/-! ### targets that are tuples of names -/
/-! ### lists of one's own -/
/-- what is no longer needed is forgotten -/
inductive Wk : Gam → Gam → Prop
  | nil : Wk [] []
  | cons {e : En} {G G' : Gam} : Wk G G' → Wk (e :: G) (e :: G')
  | drop {e : En} {G G' : Gam} : Wk G G' → Wk (e :: G) (.un :: G')
theorem Wk.refl : ∀ G : Gam, Wk G G
  | [] => .nil
  | _ :: G => .cons (Wk.refl G)
theorem Wk.length : ∀ {G G' : Gam}, Wk G G' → G.length = G'.length
  | _, _, .nil => rfl
  | _, _, .cons h => congrArg (· + 1) h.length
  | _, _, .drop h => congrArg (· + 1) h.length
theorem Wk.get : ∀ {G G' : Gam} {i : Nat} {e : En}, Wk G G' → G'[i]? = some e → G[i]? = some e ∨ e = .un
  | _, _, _, _, .nil, h => by simp at h
  | _, _, 0, _, .cons _, h => .inl h
  | _, _, 0, _, .drop _, h => .inr (Option.some.inj h).symm
  | _, _, i + 1, _, .cons w, h => Wk.get (i := i) w h
  | _, _, i + 1, _, .drop w, h => Wk.get (i := i) w h
theorem Wk.own {G G' : Gam} {i : Nat} {xs : List PyData} (w : Wk G G') (h : G'[i]? = some (.own xs)) : G[i]? = some (.own xs) := (w.get h).resolve_right fun z => by cases z
theorem Wk.ex {W : Addr → Prop} {B : Option (Addr × Addr)} {ad : Nat → Addr} {H : Hp} {G G' : Gam} (w : Wk G G') : Ex (less H (Zs W B ad G)) (less H (Zs W B ad G')) := less_sub fun a q => by
  rcases q with q | ⟨i, xs, g, r⟩ | q
  · exact .inl q
  · exact .inr (.inl ⟨i, xs, w.own g, r⟩)
  · exact .inr (.inr q)
theorem Sta.wk {W : Addr → Prop} {B : Option (Addr × Addr)} {ad : Nat → Addr} {H0 H : Hp} {σ : St} {G G' : Gam} (w : Wk G G') (S : Sta K W B ad H0 H σ G s) : Sta K W B ad H0 H σ G' s where
  len := S.len.trans w.length
  at_ := fun i e h => by
    rcases w.get h with g | rfl
    · obtain ⟨o, g1, g2⟩ := S.at_ i e g
      exact ⟨o, g1, g2.mono w.ex fun _ _ _ q => q⟩
    · have il : i < σ.length := by rw [S.len, w.length]; exact (List.getElem?_eq_some_iff.mp h).1
      exact ⟨σ[i], List.getElem?_eq_getElem il, trivial⟩
  inj := fun i j xs ys g g' q => S.inj i j xs ys (w.own g) (w.own g') q
  sep := fun i xs g => S.sep i xs (w.own g)
  base := S.base
  bag := S.bag
  wd := S.wd
theorem sg_wk (h : SG K tu G s (.nx G1 s1)) (w : Wk G1 G2) : SG K tu G s (.nx G2 s1) := fun W B ad H0 H σ D S p =>
  h W B ad H0 H σ D S fun ad' H' σ' S' e => p ad' H' σ' (S'.wk w) (e.trans w.ex)
theorem sg_is {o'} (h : SG K tu G s o) (e : o = o') : SG K tu G s o' := e ▸ h
/-! ### loops -/
/-- what a turn of a loop may end with: going on -/
def Turn (K : Fg) (tb : TS) (G : Gam) (s : Bag) (G' : Gam) (s' : Bag) : Prop := SG K tb G s (.nx G' s') ∨ SG K tb G s (.ct G' s')
theorem Turn.run {tb : TS} {G' : Gam} (h : Turn K tb G s G' s') {W : Addr → Prop} {B : Option (Addr × Addr)} {ad : Nat → Addr} {H0 H : Hp} {σ : St} {D : Ends} {N : St → Hp → Prop} (S : Sta K W B ad H0 H σ G s) (hn : D.nx = N) (hc : D.ct = N)
    (q : ∀ ad' H' σ', Sta K W B ad' H0 H' σ' G' s' → Ex (less H (Zs W B ad G)) (less H' (Zs W B ad' G')) → N σ' H') : tb D σ H := by
  rcases h with h | h
  · exact h W B ad H0 H σ D S fun ad' H' σ' S' e => by rw [hn]; exact q ad' H' σ' S' e
  · exact h W B ad H0 H σ D S fun ad' H' σ' S' e => by rw [hc]; exact q ad' H' σ' S' e
/-- while, by its states one behind the other -/
theorem sg_while {tb : TS} (GG : Nat → Gam) (SS TS' : Nat → Bag) (n : Nat) (w0 : Wk G (GG 0)) (h0 : SS 0 = s) (ht : ∀ i, i < n → EvT K t (GG i) (SS i) true (TS' i)) (hs : ∀ i, i < n → Turn K tb (GG i) (TS' i) (GG (i + 1)) (SS (i + 1)))
    (he : EvT K t (GG n) (SS n) false s') : SG K (tWhile t tb) G s (.nx (GG n) s') := fun W B ad H0 H σ D S p => by
  refine ⟨fun m σ' H' => ∃ i ad', m = n - i ∧ i ≤ n ∧ Sta K W B ad' H0 H' σ' (GG i) (SS i) ∧ Ex (less H (Zs W B ad G)) (less H' (Zs W B ad' (GG i))), ⟨n, 0, ad, rfl, Nat.zero_le _, by rw [h0]; exact S.wk w0, w0.ex⟩, ?_⟩
  rintro m σ' H' ⟨i, ad', rfl, hi, S', e'⟩
  by_cases hlt : i < n
  · refine ht i hlt W B ad' H0 H' σ' S' _ fun H2 S2 e2 => iteT ⟨fun σ3 H3 => ∃ ad3, Sta K W B ad3 H0 H3 σ3 (GG (i + 1)) (SS (i + 1)) ∧ Ex (less H (Zs W B ad G)) (less H3 (Zs W B ad3 (GG (i + 1)))), ?_, ?_⟩
    · rintro σ3 H3 ⟨ad3, S3, e3⟩
      exact ⟨n - (i + 1), by omega, i + 1, ad3, rfl, hlt, S3, e3⟩
    · exact (hs i hlt).run S2 rfl rfl fun ad3 H3 σ3 S3 e3 => ⟨ad3, S3, (e'.trans e2.l).trans e3⟩
  · have en : i = n := by omega
    subst en
    exact he W B ad' H0 H' σ' S' _ fun H2 S2 e2 => iteF (p ad' H2 σ' S2 (e'.trans e2.l))
end
end U

end
section
namespace U
open PySem L2 Evl
/-! ### what is walked, and into which names -/
def ItOk (K : Fg) (J : It) (ds : List PyData) (M : Hp) : Prop := ∀ (H' : Hp) (Z : Addr → Prop), (∀ a, Z a → ∃ o, H' a = some o) → Ex M (less H' Z) → ∀ i,
  (∀ d, ds[i]? = some d → J.go i H') ∧ (ds.length ≤ i → J.stop i H') ∧ ∀ x H'', J.yld i H' x H'' → Ex H' H'' ∧ ∀ d, ds[i]? = some d → Dp K (less H'' Z) x d
def Src (K : Fg) (wi : TI) (G : Gam) (s : Bag) (ds : List PyData) (s1 : Bag) : Prop :=
  ∀ W B ad H0 H σ, Sta K W B ad H0 H σ G s → ∀ R : It → Hp → Prop, (∀ J H1, Sta K W B ad H0 H1 σ G s1 → Xb B H H1 → ItOk K J ds (less H1 (Zs W B ad G)) → R J H1) → wi σ H R
def Off (vs : List Nat) (G G' : Gam) : Prop := G.length = G'.length ∧ (∀ i, i ∉ vs → G'[i]? = G[i]?) ∧ ∀ i xs, i ∈ vs → G'[i]? ≠ some (.own xs)
def Tgt (K : Fg) (g : TG) (vs : List Nat) (G : Gam) (x : PyData) (G' : Gam) : Prop := Off vs G G' ∧ ∀ W B ad H0 H σ s v, Sta K W B ad H0 H σ G s → Dp K (less H (Zs W B ad G)) v x → ∀ Q : St → Hp → Prop,
  (∀ σ', Sta K W B ad H0 H σ' G' s → Ex (less H (Zs W B ad G)) (less H (Zs W B ad G')) → wipe σ' vs = wipe σ vs → Q σ' H) → g v σ H Q
section
variable {K : Fg} {G G' G1 G2 : Gam} {s s1 s2 s3 s' : Bag} {ta tb tc te : TE} {t u : TT} {x y z : PyData} {tu tw tz : TS} {o : Out}
def rngD (lo : Int) (n : Nat) : List PyData := (List.range n).map fun i : Nat => .int (lo + (i : Int))
theorem rngD_len (lo : Int) (n : Nat) : (rngD lo n).length = n := by simp [rngD]
theorem rngD_get {lo : Int} {n i : Nat} (h : i < n) : (rngD lo n)[i]? = some (.int (lo + (i : Int))) := by
  unfold rngD
  rw [List.getElem?_map, List.getElem?_range h]
  rfl
theorem it_rng {lo : Int} {n : Nat} {M : Hp} : ItOk K (Itr lo n) (rngD lo n) M := fun H' Z hz e i => by
  refine ⟨fun d hd => ?_, fun hl => ?_, fun x H'' hy => ?_⟩
  · have := (List.getElem?_eq_some_iff.mp hd).1
    rw [rngD_len] at this
    exact this
  · rw [rngD_len] at hl
    exact hl
  · obtain ⟨rfl, rfl⟩ := hy
    refine ⟨Ex.refl _, fun d hd => ?_⟩
    have hl := (List.getElem?_eq_some_iff.mp hd).1
    rw [rngD_len] at hl
    rw [rngD_get hl] at hd
    cases hd
    exact .int _
theorem src_rng1 {ta : TA} {n : Int} (h : EvA K ta G s [.int n] s1) (hn : -1000000 ≤ n ∧ n ≤ 1000000) : Src K (iRng1 ta) G s (rngD 0 n.toNat) s1 := fun W B ad H0 H σ S R q => h W B ad H0 H σ S _ fun vs H1 S1 e1 d1 => by
  obtain ⟨v, rfl, d⟩ := dp1 d1
  cases d
  exact ⟨n, rfl, by omega, by omega, q _ H1 S1 e1 it_rng⟩
/-! ### targets -/
theorem tgt_name {j : Nat} : Tgt K (gName j) [j] G x (G.set j (.d x)) := by
  refine ⟨⟨by rw [List.length_set], fun i hi => ?_, fun i xs hi h => ?_⟩, fun W B ad H0 H σ s v S d Q q => q _ (S.setD d) (less_sub fun a q => Zs.set_of (fun _ z => by cases z) q) ?_⟩
  · rw [List.getElem?_set_ne (fun z => hi (by rw [z]; exact List.mem_singleton.mpr rfl))]
  · rcases get_set h with ⟨rfl, l, e⟩ | ⟨z, g⟩
    · cases e
    · exact z (List.mem_singleton.mp hi).symm
  · show (List.set (List.set σ j (some v)) j none) = List.set σ j none
    rw [List.set_set]
theorem wipe_set : ∀ {vs : List Nat} {σ : St} {i : Nat} {o : Option V}, i ∈ vs → wipe (σ.set i o) vs = wipe σ vs
  | v :: vs, σ, i, o, h => by
    show (wipe (σ.set i o) vs).set v none = (wipe σ vs).set v none
    by_cases hv : i ∈ vs
    · rw [wipe_set hv]
    · have e : i = v := (List.mem_cons.mp h).resolve_right hv
      subst e
      have c : ∀ (vs : List Nat) (σ : St), i ∉ vs → wipe (σ.set i o) vs = (wipe σ vs).set i o := fun vs => by
        induction vs with
        | nil => exact fun _ _ => rfl
        | cons w vs ih =>
          intro σ hn
          show (wipe (σ.set i o) vs).set w none = ((wipe σ vs).set w none).set i o
          rw [ih σ (fun z => hn (List.mem_cons_of_mem _ z)), List.set_comm _ _ (fun z => hn (by rw [z]; exact List.mem_cons_self))]
      rw [c vs σ hv, List.set_set]
/-! ### for, over anything -/
/-! ### comprehensions -/
theorem wipe_get : ∀ {vs : List Nat} {σ : St} {i : Nat}, i ∉ vs → (wipe σ vs)[i]? = σ[i]?
  | [], _, _, _ => rfl
  | v :: vs, σ, i, h => by
    show ((wipe σ vs).set v none)[i]? = _
    rw [List.getElem?_set_ne (fun z => h (by rw [z]; exact List.mem_cons_self)), wipe_get (fun z => h (List.mem_cons_of_mem _ z))]
theorem wipe_wipe {vs : List Nat} {σ : St} : wipe (wipe σ vs) vs = wipe σ vs := by
  have key : ∀ us : List Nat, (∀ i ∈ us, i ∈ vs) → wipe (wipe σ us) vs = wipe σ vs := fun us => by
    induction us with
    | nil => exact fun _ => rfl
    | cons u us ih =>
      intro h
      show wipe ((wipe σ us).set u none) vs = wipe σ vs
      rw [wipe_set (h u List.mem_cons_self), ih fun i hi => h i (List.mem_cons_of_mem _ hi)]
  exact key vs fun _ h => h
theorem Sta.slots {W : Addr → Prop} {B : Option (Addr × Addr)} {ad : Nat → Addr} {H0 H : Hp} {σ σ' : St} {vs : List Nat} (S : Sta K W B ad H0 H σ G s) (ho : Off vs G G') (hu : ∀ i e, i ∈ vs → G'[i]? = some e → e = .un) (hg : ∀ i xs, i ∈ vs → G[i]? ≠ some (.own xs)) (hw : wipe σ vs = wipe σ' vs) : Sta K W B ad H0 H σ' G' s := by
  have hl : σ.length = σ'.length := by
    have := congrArg List.length hw
    rw [wipe_length, wipe_length] at this
    exact this
  have zz : ∀ a, Zs W B ad G' a ↔ Zs W B ad G a := fun a => by
    constructor
    · rintro (z | ⟨i, xs, g, r⟩ | z)
      · exact .inl z
      · by_cases hi : i ∈ vs
        · exact absurd (hu i _ hi g) (fun e => by cases e)
        · rw [ho.2.1 i hi] at g; exact .inr (.inl ⟨i, xs, g, r⟩)
      · exact .inr (.inr z)
    · rintro (z | ⟨i, xs, g, r⟩ | z)
      · exact .inl z
      · by_cases hi : i ∈ vs
        · exact absurd g (hg i xs hi)
        · exact .inr (.inl ⟨i, xs, by rw [ho.2.1 i hi]; exact g, r⟩)
      · exact .inr (.inr z)
  have zl : Zs W B ad G' = Zs W B ad G := funext fun a => propext (zz a)
  have own : ∀ (i : Nat) (xs : List PyData), G'[i]? = some (En.own xs) → G[i]? = some (En.own xs) := fun i xs g => by
    by_cases hi : i ∈ vs
    · exact absurd (hu i _ hi g) (fun e => by cases e)
    · rw [ho.2.1 i hi] at g; exact g
  refine ⟨hl ▸ (S.len.trans ho.1), fun i e g => ?_, fun i j xs ys g g' q => S.inj i j xs ys (own i xs g) (own j ys g') q, fun i xs g => S.sep i xs (own i xs g), S.base, S.bag, S.wd⟩
  by_cases hi : i ∈ vs
  · have e := hu i e hi g
    subst e
    have il : i < σ'.length := by rw [← hl, S.len, ho.1]; exact (List.getElem?_eq_some_iff.mp g).1
    exact ⟨σ'[i], List.getElem?_eq_getElem il, trivial⟩
  · rw [ho.2.1 i hi] at g
    obtain ⟨o, g1, g2⟩ := S.at_ i e g
    refine ⟨o, ?_, by rw [zl]; exact g2⟩
    rw [← wipe_get hi, ← hw, wipe_get hi]
    exact g1
theorem range_fm_succ (f : Nat → Option PyData) (i : Nat) : (List.range (i + 1)).filterMap f = (List.range i).filterMap f ++ (f i).toList := by
  rw [List.range_succ, List.filterMap_append]
  cases h : f i <;> simp [h]
/-- [elt for target in .. if ..]: f tells what each turn gives -/
theorem ev_lc {wi : TI} {g : TG} {vs : List Nat} {tt : TT} {ds : List PyData} (h : Src K wi G s ds s1) (f : Nat → Option PyData) (SS : Nat → Bag) (h0 : SS 0 = s1) (hu : ∀ i e, i ∈ vs → G[i]? = some e → e = .un) (hz : ds.length ≤ 16000000)
    (hs : ∀ i x, ds[i]? = some x → ∃ Gt s2, Tgt K g vs G x Gt ∧ EvT K tt Gt (SS i) (f i).isSome s2 ∧ (∀ y, f i = some y → EvG K te Gt s2 y (SS (i + 1))) ∧ (f i = none → s2 = SS (i + 1))) :
    EvG K (tLc wi g tt te vs) G s (.list ((List.range ds.length).filterMap f)) (SS ds.length) := fun W B ad H0 H σ S Q q =>
  h W B ad H0 H σ S _ fun J H1 S1 e1 ok Dl hD => by
    have hgu : ∀ i xs, i ∈ vs → G[i]? ≠ some (.own xs) := fun i xs hi g => by cases hu i _ hi g
    obtain ⟨L0, el0⟩ := S1.lend (o := .lst []) hD
    have fr := S1.fresh hD
    have npD : ¬ Zs W B ad G Dl := by
      rintro (z | ⟨i, xs, g, r⟩ | z)
      · obtain ⟨o, z⟩ := S1.wd _ z
        rw [hD] at z; cases z
      · obtain ⟨_, _, _, vs, h1, _⟩ := S1.at_ i _ g
        rw [← r, hD] at h1; cases h1
      · exact fr.2 z
    refine ⟨fun i m H' => m = ds.length - i ∧ i ≤ ds.length ∧ Sta K (fun a => W a ∨ a = Dl) B ad H0 H' σ G (SS i) ∧ Ex (less H1 (Zs W B ad G)) (less H' (Zs (fun a => W a ∨ a = Dl) B ad G)) ∧ Xb B H1 H' ∧
      ∃ acc, H' Dl = some (.lst acc) ∧ DpAll K (less H' (Zs (fun a => W a ∨ a = Dl) B ad G)) acc ((List.range i).filterMap f), ⟨ds.length, rfl, Nat.zero_le _, by rw [h0]; exact L0, by rw [el0]; exact Ex.refl _, .of (Ex.new hD), [], upd_same, .nil⟩, ?_⟩
    rintro i m H' ⟨rfl, hi, S', e', xb, acc, ha, hd⟩
    obtain ⟨k1, k2, k3⟩ := ok H' (Zs (fun a => W a ∨ a = Dl) B ad G) S'.there e' i
    by_cases hlt : i < ds.length
    · have hx : ds[i]? = some ds[i] := List.getElem?_eq_getElem hlt
      obtain ⟨Gt, s2, tg, ht, hy, hn⟩ := hs i _ hx
      refine .inr ⟨k1 _ hx, fun H3 => Sta K (fun a => W a ∨ a = Dl) B ad H0 H3 σ G (SS (i + 1)) ∧ Ex (less H1 (Zs W B ad G)) (less H3 (Zs (fun a => W a ∨ a = Dl) B ad G)) ∧ Xb B H1 H3 ∧
        ∃ acc, H3 Dl = some (.lst acc) ∧ DpAll K (less H3 (Zs (fun a => W a ∨ a = Dl) B ad G)) acc ((List.range (i + 1)).filterMap f), fun H3 h3 => ⟨ds.length - (i + 1), by omega, rfl, hlt, h3⟩, fun v H'' hyl => ?_⟩
      obtain ⟨ex, dx⟩ := k3 v H'' hyl
      have S2 := (S'.ext ex).slots (σ' := wipe σ vs) (G' := G) (vs := vs) ⟨rfl, fun _ _ => rfl, hgu⟩ hu hgu wipe_wipe.symm
      refine tg.2 _ B ad H0 H'' _ (SS i) v S2 (dx _ hx) _ fun σ2 S3 e3 ew => ⟨by rw [ew, wipe_wipe], ?_⟩
      have eZ : Zs (fun a => W a ∨ a = Dl) B ad Gt = Zs (fun a => W a ∨ a = Dl) B ad G := funext fun a => propext (by
        have own : ∀ (i : Nat) (xs : List PyData), Gt[i]? = some (En.own xs) ↔ G[i]? = some (En.own xs) := fun i xs => by
          by_cases hi : i ∈ vs
          · exact ⟨fun g => absurd g (tg.1.2.2 i xs hi), fun g => absurd g (hgu i xs hi)⟩
          · rw [tg.1.2.1 i hi]
        constructor
        · rintro (z | ⟨i, xs, g, r⟩ | z)
          · exact .inl z
          · exact .inr (.inl ⟨i, xs, (own i xs).mp g, r⟩)
          · exact .inr (.inr z)
        · rintro (z | ⟨i, xs, g, r⟩ | z)
          · exact .inl z
          · exact .inr (.inl ⟨i, xs, (own i xs).mpr g, r⟩)
          · exact .inr (.inr z))
      have back : ∀ {H5 : Hp} {b : Bag}, Sta K (fun a => W a ∨ a = Dl) B ad H0 H5 σ2 Gt b → Sta K (fun a => W a ∨ a = Dl) B ad H0 H5 σ G b := fun {H5 b} S5 =>
        S5.slots (G' := G) (vs := vs) ⟨tg.1.1.symm, fun i hi => (tg.1.2.1 i hi).symm, hgu⟩ hu tg.1.2.2 (by rw [ew, wipe_wipe])
      have hB : ¬ InB B Dl := fr.2
      have ha2 : H'' Dl = some (.lst acc) := ex _ _ ha
      have al : acc.length < sizeLine := by
        have h1 := dpa_len hd
        have h2 := List.length_filterMap_le f (List.range i)
        rw [List.length_range] at h2
        exact Nat.lt_of_lt_of_le (show acc.length < 16777216 by omega) (by decide)
      refine ht _ B ad H0 H'' σ2 S3 _ fun H3 S4 e4 => ?_
      have e5 : Ex (less H' (Zs (fun a => W a ∨ a = Dl) B ad G)) (less H3 (Zs (fun a => W a ∨ a = Dl) B ad G)) := (less_mono ex).trans e4.l
      cases hf : (f i) with
      | none =>
        rw [hn hf] at S4
        refine iteF ⟨back S4, e'.trans e5, (xb.trans (.of ex)).trans e4, acc, e4 _ _ ha2 hB, ?_⟩
        rw [range_fm_succ, hf]
        show DpAll K _ acc (_ ++ [])
        rw [List.append_nil]
        exact dpa_mono e5 hd
      | some y =>
        refine iteT ?_
        refine hy y hf _ B ad H0 H3 σ2 S4 _ fun w H4 S5 e6 dw => ?_
        rw [eZ] at dw
        have S6 := back S5
        have h0 : H0 Dl = none := fr.1
        obtain ⟨S7, el7⟩ := S6.foreign (o := .lst (acc ++ [w])) (p := Dl) (.inr rfl) h0 hB
        refine ⟨acc, e6 _ _ (e4 _ _ ha2 hB) hB, al, S7, ?_, ?_, acc ++ [w], upd_same, ?_⟩
        · rw [el7]
          exact e'.trans (e5.trans e6.l)
        · intro a o g n
          have na : a ≠ Dl := ne_of_none g hD
          rw [upd_ne na]
          exact ((((xb.trans (.of ex)).trans e4).trans e6) a o g n)
        · rw [el7, range_fm_succ, hf]
          exact dpa_app (dpa_mono (e5.trans e6.l) hd) (.cons dw .nil)
    · have en : i = ds.length := by omega
      subst en
      obtain ⟨S5, e5⟩ := S'.back
      refine .inl ⟨k2 (Nat.le_refl _), q _ H' S5 (e1.trans ?_) (.lst (sq_of (less_of npD ha)) (dpa_mono e5 hd))⟩
      exact fun a o g n => xb a o g n
end
end U

end
section
namespace U
open PySem PyProof.Rows L2 Evl
section
variable {K : Fg} {G G' G1 G2 : Gam} {s s1 s2 s3 s' : Bag} {ta tb tc te : TE} {t u : TT} {x y z : PyData} {tu tw tz : TS} {o : Out}
theorem range_fm_map {ds : List PyData} (F : PyData → PyData) : (List.range ds.length).filterMap (fun i => (ds[i]?).map F) = ds.map F := by
  have key : ∀ (l : List PyData), (List.range l.length).filterMap (fun i => l[i]?) = l := fun l => by
    induction l with
    | nil => rfl
    | cons a l ih =>
      rw [List.length_cons, List.range_succ_eq_map, List.filterMap_cons]
      simp only [List.getElem?_cons_zero, List.filterMap_map]
      refine congrArg (a :: ·) ?_
      exact ih
  have h : (fun i : Nat => (ds[i]?).map F) = fun i : Nat => (ds.map F)[i]? := by
    funext i
    rw [List.getElem?_map]
  rw [h]
  have e := key (ds.map F)
  rw [List.length_map] at e
  exact e
theorem et_yes : EvT K tYes G s true s := fun W B ad H0 H σ S Q q => q H S Xb.refl
/-- [elt for target in ..], nothing drawn, no test -/
theorem ev_lcM {wi : TI} {g : TG} {vs : List Nat} {ds : List PyData} (h : Src K wi G s ds s1) (F : PyData → PyData) (hu : ∀ i e, i ∈ vs → G[i]? = some e → e = .un) (hz : ds.length ≤ 16000000)
    (hs : ∀ x, x ∈ ds → ∃ Gt, Tgt K g vs G x Gt ∧ EvG K te Gt s1 (F x) s1) : EvG K (tLc wi g tYes te vs) G s (.list (ds.map F)) s1 := by
  have k := ev_lc (K := K) (te := te) (tt := tYes) h (fun i => (ds[i]?).map F) (fun _ => s1) rfl hu hz fun i x hx => by
    obtain ⟨Gt, a, b⟩ := hs x (List.mem_of_getElem? hx)
    refine ⟨Gt, s1, a, ?_, fun y hy => ?_, fun hn => rfl⟩
    · rw [hx]; exact et_yes
    · rw [hx] at hy
      cases hy
      exact b
  rw [range_fm_map] at k
  exact k
/-! ### deep equality -/
end
/-! ### defs -/
section
variable {Pg : Program} {w : World} {K : Fg} {mg : Str → Option Value} {base : Heap}
def frame (n : Nat) (ds : List PyData) : Gam := ds.map .d ++ List.replicate (n - ds.length) .un
theorem frame_get {n i : Nat} {ds : List PyData} {e : En} (h : (frame n ds)[i]? = some e) : (∃ d, ds[i]? = some d ∧ e = .d d) ∨ (ds.length ≤ i ∧ e = .un) := by
  unfold frame at h
  by_cases hi : i < ds.length
  · rw [List.getElem?_append_left (by rw [List.length_map]; exact hi), List.getElem?_map, List.getElem?_eq_getElem hi] at h
    exact .inl ⟨ds[i], List.getElem?_eq_getElem hi, (Option.some.inj h).symm⟩
  · have hi : ds.length ≤ i := by omega
    rw [List.getElem?_append_right (by rw [List.length_map]; exact hi)] at h
    exact .inr ⟨hi, (List.mem_replicate.mp (List.mem_of_getElem? h)).2⟩
theorem start_get {N : List Str} {vs : List V} {i : Nat} {v : V} (h : vs[i]? = some v) : (L2.start N vs)[i]? = some (some v) := by
  unfold L2.start
  have hi := (List.getElem?_eq_some_iff.mp h).1
  rw [List.getElem?_append_left (by rw [List.length_map]; exact hi), List.getElem?_map, h]
  rfl
theorem start_len {N : List Str} {vs : List V} : (L2.start N vs).length = vs.length + (N.length - vs.length) := by
  unfold L2.start
  rw [List.length_append, List.length_map, List.length_replicate]
/-- the state at a def's entry -/
theorem sta0 {N : List Str} {W : Addr → Prop} {H : Hp} {vs : List V} {ds : List PyData} (hW : ∀ a, W a → ∃ o, H a = some o) (hd : DpAll K (less H W) vs ds) (b : Bag) : Sta K W none (fun _ => 0) H H (L2.start N vs) (frame N.length ds) b := by
  have no : ∀ (i : Nat) (xs : List PyData), (frame N.length ds)[i]? ≠ some (En.own xs) := fun i xs h => by
    rcases frame_get h with ⟨d, _, e⟩ | ⟨_, e⟩ <;> cases e
  have zz : ∀ a, Zs W none (fun _ => 0) (frame N.length ds) a → W a := by
    rintro a (z | ⟨i, xs, g, _⟩ | ⟨b, c, z, _⟩)
    · exact z
    · exact absurd g (no i xs)
    · cases z
  refine ⟨?_, fun i e h => ?_, fun i j xs ys g => absurd g (no i xs), fun i xs g => absurd g (no i xs), fun a o h _ => h, trivial, hW⟩
  · rw [start_len, dpa_len hd]
    unfold frame
    rw [List.length_append, List.length_map, List.length_replicate]
  · rcases frame_get h with ⟨d, hi, rfl⟩ | ⟨hi, rfl⟩
    · obtain ⟨v, hv, dv⟩ := dpa_get hd hi
      exact ⟨some v, start_get hv, v, rfl, dp_mono (less_sub zz) dv⟩
    · have il : i < (L2.start N vs).length := by
        rw [start_len, dpa_len hd]
        have := (List.getElem?_eq_some_iff.mp h).1
        unfold frame at this
        rw [List.length_append, List.length_map, List.length_replicate] at this
        exact this
      exact ⟨(L2.start N vs)[i], List.getElem?_eq_getElem il, trivial⟩
/-- a def of data -/
theorem okP {x qual : Str} {st : Stmt} {f : Addr} {fd : FuncData} {N ps : List Str} {k : Nat} {P : List PyData → PyData → Prop} (F : Fun K x qual st f fd) (S : FnScope N ps (defScope st)) (hl : ∀ ds r, P ds r → ds.length = ps.length)
    (hb : ∀ ds r, P ds r → ∀ (cdv : Value) (A : Around) (outer : List Env) (sh : Shared) (H : Hp) (E : XK), Room k (A.deeper (envOfC qual (defScope st) sh.heap.objs.size f cdv)) →
      ∃ t, PSs (cxOf CX0 Pg w K mg base N qual (defScope st) f cdv A outer sh H E).nox (defBody st) t ∧ ∀ b, SG K t (frame N.length ds) b (.rt r b)) : FnOk Pg w K mg base CX0 (k + 1) f fd ps (spP K P) := by
  refine F.ok S (fun vs H Q E h => ?_) (fun cdv A outer sh H vs Q E hr h => ?_)
  · obtain ⟨W, ds, r, _, hd, hp, _⟩ := h
    rw [dpa_len hd]
    exact hl ds r hp
  · obtain ⟨W, ds, r, hW, hd, hp, q⟩ := h
    obtain ⟨t, ht, g⟩ := hb ds r hp cdv A outer sh H E hr
    refine ⟨t, ht, g ⟨[], 0, 0⟩ W none (fun _ => 0) H H _ _ (sta0 hW hd _) fun v H' e _ d => q v H' (fun a o h => e a o h (fun ⟨_, _, z, _⟩ => by cases z)) (dp_mono (less_sub fun a z => .inl z) d)⟩
theorem staB {N : List Str} {W : Addr → Prop} {H : Hp} {b c : Addr} {vs : List V} {ds : List PyData} {s : Bag} (hW : ∀ a, W a → ∃ o, H a = some o) (hB : BagAt H (some (b, c)) s) (hd : DpAll K (less H fun a => W a ∨ InB (some (b, c)) a) vs ds) :
    Sta K W (some (b, c)) (fun _ => 0) H H (L2.start N (.ref b :: vs)) (.bag :: frame (N.length - 1) ds) s := by
  have no : ∀ (i : Nat) (xs : List PyData), (En.bag :: frame (N.length - 1) ds)[i]? ≠ some (En.own xs) := fun i xs h => by
    cases i with
    | zero => cases h
    | succ i => rcases frame_get h with ⟨d, _, e⟩ | ⟨_, e⟩ <;> cases e
  have zz : ∀ a, Zs W (some (b, c)) (fun _ => 0) (En.bag :: frame (N.length - 1) ds) a → W a ∨ InB (some (b, c)) a := by
    rintro a (z | ⟨i, xs, g, _⟩ | z)
    · exact .inl z
    · exact absurd g (no i xs)
    · exact .inr z
  have ln : (L2.start N (.ref b :: vs)).length = (En.bag :: frame (N.length - 1) ds).length := by
    rw [start_len, List.length_cons, List.length_cons, dpa_len hd]
    unfold frame
    rw [List.length_append, List.length_map, List.length_replicate]
    omega
  refine ⟨ln, fun i e h => ?_, fun i j xs ys g => absurd g (no i xs), fun i xs g => absurd g (no i xs), fun a o h _ => h, hB, hW⟩
  cases i with
  | zero =>
    cases h
    exact ⟨some (.ref b), rfl, b, c, rfl, rfl⟩
  | succ i =>
    rcases frame_get h with ⟨d, hi, rfl⟩ | ⟨hi, rfl⟩
    · obtain ⟨v, hv, dv⟩ := dpa_get hd hi
      exact ⟨some v, start_get (show (V.ref b :: vs)[i + 1]? = some v from hv), v, rfl, dp_mono (less_sub zz) dv⟩
    · have il : i + 1 < (L2.start N (.ref b :: vs)).length := by
        rw [ln]; exact (List.getElem?_eq_some_iff.mp h).1
      exact ⟨_, List.getElem?_eq_getElem il, trivial⟩
/-- a def that draws -/
theorem okB {x qual : Str} {st : Stmt} {f : Addr} {fd : FuncData} {N ps : List Str} {k : Nat} {P : Bag → List PyData → PyData → Bag → Prop} (F : Fun K x qual st f fd) (S : FnScope N ps (defScope st)) (hl : ∀ s ds r s', P s ds r s' → ds.length + 1 = ps.length)
    (hb : ∀ s ds r s', P s ds r s' → s.ok → ∀ (cdv : Value) (A : Around) (outer : List Env) (sh : Shared) (H : Hp) (E : XK), Room k (A.deeper (envOfC qual (defScope st) sh.heap.objs.size f cdv)) →
      ∃ t, PSs (cxOf CX0 Pg w K mg base N qual (defScope st) f cdv A outer sh H E).nox (defBody st) t ∧ SG K t (.bag :: frame (N.length - 1) ds) s (.rt r s')) : FnOk Pg w K mg base CX0 (k + 1) f fd ps (spB K P) := by
  refine F.ok S (fun vs H Q E h => ?_) (fun cdv A outer sh H vs Q E hr h => ?_)
  · obtain ⟨W, b, c, us, s, ds, r, s', _, rfl, _, hd, hp, _⟩ := h
    rw [List.length_cons, dpa_len hd]
    exact hl s ds r s' hp
  · obtain ⟨W, b, c, us, s, ds, r, s', hW, rfl, hB, hd, hp, q⟩ := h
    obtain ⟨t, ht, g⟩ := hb s ds r s' hp hB.2.2 cdv A outer sh H E hr
    exact ⟨t, ht, g W (some (b, c)) (fun _ => 0) H H _ _ (staB hW hB hd) fun v H' e hb d => q v H' e hb d⟩
/-! ### the law itself: the script, the bag made of it, the rest -/
def bag0 (ns : List Int) : Bag := ⟨ns, 0, 20011⟩
def spBag (K : Fg) : Sp := fun vs H Q _ => ∃ (W : Addr → Prop) (ns : List Int), (∀ a, W a → ∃ o, H a = some o) ∧ DpAll K (less H W) vs [.list (ns.map PyData.int)] ∧ ns.length ≤ 63 ∧
  ∀ b c H', Ex H H' → H b = none → H c = none → BagAt H' (some (b, c)) (bag0 ns) → Q (.ref b) H'
def PLaw : List PyData → PyData → Prop := fun ds r => ∃ ns : List Int, ds = [.list (ns.map PyData.int)] ∧ ns.length ≤ 63 ∧ r = .bool true
end
end U

end
section
namespace U
open PySem PyProof.Rows L2 Evl
/-! ### the mathematics of fractions -/
abbrev Fr := Int × Int
abbrev fr (p : Fr) : PyData := .tuple [.int p.1, .int p.2]
def gN (a b : Int) : Nat := max (Nat.gcd a.natAbs b.natAbs) 1
def gI (a b : Int) : Int := (gN a b : Int)
theorem gI_pos (a b : Int) : 0 < gI a b := by
  unfold gI gN
  have : 1 ≤ max (Nat.gcd a.natAbs b.natAbs) 1 := Nat.le_max_right _ _
  omega
/-- the states of Euclid's loop -/
def eu (x y : Nat) : Nat → Nat × Nat
  | 0 => (x, y)
  | i + 1 => ((eu x y i).2, (eu x y i).1 % (eu x y i).2)
theorem eu_shift (x y : Nat) : ∀ i, eu x y (i + 1) = eu y (x % y) i
  | 0 => rfl
  | i + 1 => by
    show ((eu x y (i + 1)).2, (eu x y (i + 1)).1 % (eu x y (i + 1)).2) = _
    rw [eu_shift x y i]
    rfl
theorem eu_end : ∀ (y x : Nat), ∃ n, eu x y n = (Nat.gcd x y, 0) ∧ ∀ i, i < n → 0 < (eu x y i).2 := fun y => by
  induction y using Nat.strongRecOn with
  | ind y ih =>
    intro x
    by_cases hy : y = 0
    · subst hy
      exact ⟨0, by show (x, 0) = _; rw [Nat.gcd_zero_right], fun i hi => absurd hi (Nat.not_lt_zero _)⟩
    · obtain ⟨n, h1, h2⟩ := ih (x % y) (Nat.mod_lt _ (Nat.pos_of_ne_zero hy)) y
      refine ⟨n + 1, ?_, fun i hi => ?_⟩
      · rw [eu_shift, h1, Nat.gcd_comm x y, Nat.gcd_rec y x]
        rw [Nat.gcd_comm]
      · cases i with
        | zero => exact Nat.pos_of_ne_zero hy
        | succ i =>
          rw [eu_shift]
          exact h2 i (by omega)
theorem fmod_nat (a b : Nat) : Int.fmod (a : Int) (b : Int) = ((a % b : Nat) : Int) := by
  rw [Int.fmod_eq_emod_of_nonneg _ (Int.natCast_nonneg b)]
  rfl
theorem absI_nat (a : Int) : absI a = (a.natAbs : Int) := by
  unfold absI
  split <;> omega
def Bd (n : Nat) (a : Int) : Prop := a.natAbs < 2 ^ n
def Sz (n : Nat) (p : Fr) : Prop := Bd n p.1 ∧ Bd n p.2
theorem Bd.mono {n m : Nat} {a : Int} (h : Bd n a) (l : n ≤ m) : Bd m a := Nat.lt_of_lt_of_le h (Nat.pow_le_pow_right (by decide) l)
theorem Sz.mono {n m : Nat} {p : Fr} (h : Sz n p) (l : n ≤ m) : Sz m p := ⟨h.1.mono l, h.2.mono l⟩
theorem Bd.mul {n m : Nat} {a b : Int} (ha : Bd n a) (hb : Bd m b) : Bd (n + m) (a * b) := wide_lt ha hb
theorem Bd.cm {n m : Nat} {a b : Int} (ha : Bd n a) (hb : Bd m b) (h : n + m + 2 ≤ 1000000) : CMulW a b :=
  wide_mul (ha.mono (Nat.le_succ n)) (hb.mono (Nat.le_succ m)) (Nat.succ_pos _) (Nat.succ_pos _) (by omega)
theorem Bd.add {n : Nat} {a b : Int} (ha : Bd n a) (hb : Bd n b) : Bd (n + 1) (a + b) := by
  unfold Bd at *
  rw [Nat.pow_succ]
  omega
theorem Bd.sub {n : Nat} {a b : Int} (ha : Bd n a) (hb : Bd n b) : Bd (n + 1) (a - b) := by
  unfold Bd at *
  rw [Nat.pow_succ]
  omega
theorem Bd.neg {n : Nat} {a : Int} (ha : Bd n a) : Bd n (-a) := by
  unfold Bd at *
  omega
theorem Bd.fdiv {n : Nat} {a : Int} (b : Int) (ha : Bd n a) : Bd n (a.fdiv b) := Nat.lt_of_le_of_lt (Int.natAbs_fdiv_le_natAbs a b) ha
theorem gN_le {n : Nat} {a b : Int} (ha : Bd n a) (hb : Bd n b) : gN a b ≤ 2 ^ n := by
  unfold gN
  have h1 : 1 ≤ 2 ^ n := Nat.one_le_two_pow
  refine Nat.max_le.mpr ⟨?_, h1⟩
  by_cases h0 : a.natAbs = 0
  · rw [h0, Nat.gcd_zero_left]
    exact Nat.le_of_lt hb
  · exact Nat.le_trans (Nat.gcd_le_left _ (Nat.pos_of_ne_zero h0)) (Nat.le_of_lt ha)
theorem Bd.g {n : Nat} {a b : Int} (ha : Bd n a) (hb : Bd n b) : Bd (n + 1) (gI a b) := by
  have h := gN_le ha hb
  have h1 : 1 ≤ 2 ^ n := Nat.one_le_two_pow
  unfold Bd gI
  rw [Nat.pow_succ, Int.natAbs_natCast]
  omega
theorem Bd.dv {n : Nat} {i j : Int} (h0 : j ≠ 0) (h : Bd n j) (hn : n ≤ 8000) : CDvX i j := by
  refine ⟨h0, ?_⟩
  have h2 : j.natAbs < 2 ^ (n + 1) := h.mono (Nat.le_succ n)
  have := PySem.Flt.log2_lt_of (Nat.succ_pos n) h2
  omega
/-! ### gcd, the law's own and the program's -/
theorem max_gN (a b : Int) : maxI 1 (Nat.gcd a.natAbs b.natAbs : Nat) = gI a b := by
  unfold maxI gI gN
  rw [Nat.max_def]
  split <;> split <;> omega
theorem gN_max (a b : Int) : maxI (Nat.gcd a.natAbs b.natAbs : Nat) 1 = gI a b := by
  unfold maxI gI gN
  rw [Nat.max_def]
  split <;> split <;> omega
def P_gcd : List PyData → PyData → Prop := fun ds r => ∃ a b : Int, ds = [.int a, .int b] ∧ r = .int (gI a b)
/-- above / below as the law makes it -/
def fracF (a b : Int) : Fr := (a.fdiv (if b < 0 then -gI a b else gI a b), b.fdiv (if b < 0 then -gI a b else gI a b))
def P_frac : List PyData → PyData → Prop := fun ds r => ∃ a b : Int, ds = [.int a, .int b] ∧ Bd 7990 a ∧ Bd 7990 b ∧ r = fr (fracF a b)
theorem Sz.frac {n : Nat} {a b : Int} (ha : Bd n a) (hb : Bd n b) : Sz n (fracF a b) := ⟨ha.fdiv _, hb.fdiv _⟩
def addF (p q : Fr) : Fr := fracF (p.1 * q.2 + q.1 * p.2) (p.2 * q.2)
theorem Sz.add {n m : Nat} {p q : Fr} (hp : Sz n p) (hq : Sz m q) : Sz (n + m + 1) (addF p q) :=
  Sz.frac (Bd.add (hp.1.mul hq.2) (by rw [Nat.add_comm n m]; exact hq.1.mul hp.2)) ((hp.2.mul hq.2).mono (Nat.le_succ _))
def P_add : List PyData → PyData → Prop := fun ds r => ∃ (n m : Nat) (p q : Fr), ds = [fr p, fr q] ∧ Sz n p ∧ Sz m q ∧ n + m ≤ 7800 ∧ r = fr (addF p q)
section
variable {K : Fg} {G G' G1 G2 : Gam} {s s1 s2 s3 s' : Bag} {ta tb tc te : TE} {t u : TT} {x y z : PyData} {E : XK}
theorem ev_fst {p : Fr} (h : EvG K te G s (fr p) s') : EvG K (tOp (rIx K) te (tC (.int 0))) G s (.int p.1) s' := ev_ixT h ev_int rfl
theorem ev_snd {p : Fr} (h : EvG K te G s (fr p) s') : EvG K (tOp (rIx K) te (tC (.int 1))) G s (.int p.2) s' := ev_ixT h ev_int rfl
theorem ev_gcd {a b : Int} (h1 : EvG K ta G s (.int a) s1) (h2 : EvG K tb G s1 (.int b) s2) : EvG K (tCall (spP K P_gcd) [] E (tCons ta (tCons tb tNil))) G s (.int (gI a b)) s2 :=
  ev_call (ea_cons h1 (ea_cons h2 ea_nil)) (fun _ => .nil) ⟨a, b, rfl, rfl⟩
theorem ev_frac {a b : Int} (h1 : EvG K ta G s (.int a) s1) (h2 : EvG K tb G s1 (.int b) s2) (ha : Bd 4000 a) (hb : Bd 4000 b) : EvG K (tCall (spP K P_frac) [] E (tCons ta (tCons tb tNil))) G s (fr (fracF a b)) s2 :=
  ev_call (ea_cons h1 (ea_cons h2 ea_nil)) (fun _ => .nil) ⟨a, b, rfl, ha.mono (by decide), hb.mono (by decide), rfl⟩
theorem ev_fracN {a b : Int} (h1 : EvG K ta G s (.int a) s1) (h2 : EvG K tb G s1 (.int b) s2) (ha : Bd 7990 a) (hb : Bd 7990 b) : EvG K (tCall (spP K P_frac) [] E (tCons ta (tCons tb tNil))) G s (fr (fracF a b)) s2 :=
  ev_call (ea_cons h1 (ea_cons h2 ea_nil)) (fun _ => .nil) ⟨a, b, rfl, ha, hb, rfl⟩
end
theorem less_none {K : Fg} {H : Hp} {a : Addr} {xs : List V} (h : SqL K H a xs) : SqL K (less H fun _ => False) a xs := ex_l (fun a o h => less_of (fun z => z) h) h
theorem ev_ixDisp {K : Fg} {G : Gam} {s s1 s2 : Bag} {ta : TA} {tb : TE} {xs : List PyData} {x : PyData} {i : Int} (h : EvA K ta G s xs s1) (hl : xs.length ≤ 16000000) (hb : EvG K tb G s1 (.int i) s2) (he : atI xs i = some x) : EvG K (tOp (rIx K) (tLst ta) tb) G s x s2 := ev_ixL (ev_lst h hl) hb he
/-! ### draws -/
def cellOf (s : Bag) : Int := if s.cs.length = 0 then 0 else s.cs.getD (s.i.fmod s.cs.length).toNat 0
def pull (s : Bag) (n : Int) : Int × Bag :=
  if 0 < s.cs.length ∧ 1000000000000000000 ≤ absI (cellOf s) then ((cellOf s).fmod n, ⟨s.cs.set (s.i.fmod s.cs.length).toNat ((cellOf s).fdiv n), s.i, s.j⟩)
  else
    let j := (s.j * 48271 + (cellOf s).fmod 1000003 + (s.i + 1)).fmod 2147483647
    ((((j * 69621 + j.fdiv 65536).fmod 2147483629).fdiv 32).fmod n, ⟨s.cs, s.i + 1, j⟩)
def pullV (s : Bag) (n : Int) : Int := (pull s n).1
def pullS (s : Bag) (n : Int) : Bag := (pull s n).2
theorem fmod_range (a : Int) {n : Int} (h : 0 < n) : 0 ≤ a.fmod n ∧ a.fmod n < n := by
  rw [Int.fmod_eq_emod_of_nonneg _ (Int.le_of_lt h)]
  exact ⟨Int.emod_nonneg _ (by omega), Int.emod_lt_of_pos _ h⟩
theorem pullV_range (s : Bag) {n : Int} (h : 0 < n) : 0 ≤ pullV s n ∧ pullV s n < n := by
  unfold pullV pull
  split
  · exact fmod_range _ h
  · exact fmod_range _ h
theorem pullS_ok {s : Bag} (n : Int) (h : s.ok) : (pullS s n).ok := by
  obtain ⟨h1, h2, h3⟩ := h
  unfold pullS pull
  split
  · exact ⟨by show (List.set _ _ _).length ≤ 63; rw [List.length_set]; exact h1, h2, h3⟩
  · have := fmod_range (s.j * 48271 + (cellOf s).fmod 1000003 + (s.i + 1)) (n := 2147483647) (by decide)
    exact ⟨h1, this.1, this.2⟩
def P_pull : Bag → List PyData → PyData → Bag → Prop := fun s ds r s' => ∃ n : Int, ds = [.int n] ∧ 0 < n ∧ n < 1000000000000 ∧ r = .int (pullV s n) ∧ s' = pullS s n
section
variable {K : Fg} {G G' G1 G2 : Gam} {s s1 s2 s3 s' : Bag} {ta tb tc te : TE} {t u : TT} {x y z : PyData} {E : XK}
theorem ev_pull {i : Nat} {n : Int} (hi : G[i]? = some .bag) (h : EvG K ta G s (.int n) s1) (h0 : 0 < n) (h1 : n < 1000000000000) : EvG K (tCall (spB K P_pull) [] E (tCons (tVar i) (tCons ta tNil))) G s (.int (pullV s1 n)) (pullS s1 n) :=
  ev_callB hi (ea_cons h ea_nil) ⟨n, rfl, h0, h1, rfl, rfl⟩
end
/-! ### drawn numbers -/
def menu (l : List Int) (i : Int) : Int := l.getD i.toNat 0
theorem menu_at {l : List Int} {i : Int} (h0 : 0 ≤ i) (h1 : i < l.length) : atI (l.map PyData.int) i = some (.int (menu l i)) := by
  obtain ⟨j, rfl⟩ : ∃ j : Nat, i = (j : Int) := ⟨i.toNat, by omega⟩
  have hj : j < l.length := by omega
  refine atI_nat ?_
  unfold menu
  rw [List.getElem?_map, List.getElem?_eq_getElem hj, Int.toNat_natCast, List.getD_eq_getElem?_getD, List.getElem?_eq_getElem hj]
  rfl
theorem menu_mem {l : List Int} {i : Int} (h0 : 0 ≤ i) (h1 : i < l.length) : menu l i ∈ l := by
  obtain ⟨j, rfl⟩ : ∃ j : Nat, i = (j : Int) := ⟨i.toNat, by omega⟩
  have hj : j < l.length := by omega
  unfold menu
  rw [Int.toNat_natCast, List.getD_eq_getElem?_getD, List.getElem?_eq_getElem hj]
  exact List.getElem_mem hj
def partOf (s : Bag) : Fr := fracF (pullV s 13 - 6) (menu [1, 1, 2, 3] (pullV (pullS s 13) 4))
def partS (s : Bag) : Bag := pullS (pullS s 13) 4
def P_part : Bag → List PyData → PyData → Bag → Prop := fun s ds r s' => ds = [] ∧ r = fr (partOf s) ∧ s' = partS s
theorem ev_b0 {K : Fg} {G : Gam} {s s' : Bag} {x : PyData} {E : XK} {i : Nat} {P : Bag → List PyData → PyData → Bag → Prop} (hi : G[i]? = some .bag) (hp : P s [] x s') : EvG K (tCall (spB K P) [] E (tCons (tVar i) tNil)) G s x s' := ev_callB hi ea_nil hp
theorem ev_part {K : Fg} {G : Gam} {s : Bag} {E : XK} {i : Nat} (hi : G[i]? = some .bag) : EvG K (tCall (spB K P_part) [] E (tCons (tVar i) tNil)) G s (fr (partOf s)) (partS s) := ev_b0 hi ⟨rfl, rfl, rfl⟩
theorem partOf_sz (s : Bag) : Sz 10 (partOf s) := by
  obtain ⟨z1, z2⟩ := pullV_range s (n := 13) (by decide)
  obtain ⟨y1, y2⟩ := pullV_range (pullS s 13) (n := 4) (by decide)
  have hm := menu_mem (l := [1, 1, 2, 3]) y1 y2
  unfold partOf
  generalize menu _ _ = m at hm
  generalize pullV s 13 = y at *
  simp only [List.mem_cons, List.mem_singleton, List.not_mem_nil, or_false] at hm
  refine Sz.frac ?_ ?_
  · unfold Bd; omega
  · unfold Bd; omega
theorem partS_ok {s : Bag} (h : s.ok) : (partS s).ok := pullS_ok _ (pullS_ok _ h)
/-! ### alike: what is asked of a thing and itself -/
mutual
def okD : Nat → PyData → Bool
  | _, .none => true
  | _, .bool _ => true
  | _, .int _ => true
  | _, .str _ => true
  | 0, .list _ => false
  | 0, .tuple _ => false
  | n + 1, .list xs => decide (xs.length ≤ 1000000) && okAll n xs
  | n + 1, .tuple xs => decide (xs.length ≤ 1000000) && okAll n xs
  | _, .dict _ => false
def okAll : Nat → List PyData → Bool
  | _, [] => true
  | n, x :: xs => okD n x && okAll n xs
end
theorem okAll_get : ∀ {n : Nat} {xs : List PyData} {i : Nat} {x : PyData}, okAll n xs = true → xs[i]? = some x → okD n x = true
  | _, [], _, _, _, h => by simp at h
  | n, y :: xs, 0, x, h, e => by
    have e := Option.some.inj e
    subst e
    unfold okAll at h
    exact (Bool.and_eq_true_iff.mp h).1
  | n, y :: xs, i + 1, x, h, e => by
    unfold okAll at h
    exact okAll_get (i := i) (Bool.and_eq_true_iff.mp h).2 e
def P_like : Nat → List PyData → PyData → Prop
  | 0 => fun _ _ => False
  | n + 1 => fun ds r => ∃ x : PyData, ds = [x, x] ∧ okD n x = true ∧ r = .bool true
section
variable {K : Fg} {G G' G1 G2 : Gam} {s s1 s2 s3 s' : Bag} {ta tb tc te : TE} {t u : TT} {x y z : PyData} {E : XK}
theorem ev_like {n : Nat} (h1 : EvG K ta G s x s1) (h2 : EvG K tb G s1 y s2) (e : x = y) (hx : okD n y = true) : EvG K (tCall (spP K (P_like (n + 1))) [] E (tCons ta (tCons tb tNil))) G s (.bool true) s2 := by
  subst e
  exact ev_call (ea_cons h1 (ea_cons h2 ea_nil)) (fun _ => .nil) ⟨x, rfl, hx, rfl⟩
end
end U

end
section
namespace U
open PySem PyProof.Rows L2 Evl
/-! what plain data are -/
theorem okAll_of {n : Nat} : ∀ {xs : List PyData}, (∀ x ∈ xs, okD n x = true) → okAll n xs = true
  | [], _ => rfl
  | x :: xs, h => by
    unfold okAll
    rw [h x (List.mem_cons_self ..), okAll_of fun y hy => h y (List.mem_cons_of_mem _ hy)]
    rfl
theorem okD_tup {n : Nat} {xs : List PyData} (hl : xs.length ≤ 1000000) (h : ∀ x ∈ xs, okD n x = true) : okD (n + 1) (.tuple xs) = true := by
  unfold okD
  rw [decide_eq_true hl, okAll_of h]
  rfl
theorem okD_fr (n : Nat) (p : Fr) : okD (n + 1) (fr p) = true := by cases n <;> rfl
theorem okD_frs {n : Nat} {ps : List Fr} (hl : ps.length ≤ 1000000) : okD (n + 2) (.tuple (ps.map fr)) = true := okD_tup (by rw [List.length_map]; exact hl) fun x hx => by
  obtain ⟨p, _, rfl⟩ := List.mem_map.mp hx
  exact okD_fr n p
end U

end
section
namespace U
open PySem PyProof.Rows L2 Evl
/-- list + list, both of them only read -/
def rCatL (K : Fg) : R2 := fun x y H Q => ∃ a b xs ys, x = .ref a ∧ y = .ref b ∧ SqL K H a xs ∧ SqL K H b ys ∧ xs.length + ys.length ≤ sizeLine ∧ ∀ p, H p = none → Q (.ref p) (upd H p (.lst (xs ++ ys)))
section
variable {X : Cx}
theorem op_catL : OpR X (binaryOp .Add) (rCatL X.K) := by
  intro pins s σ H x y v u Q I rx ry h
  obtain ⟨l, b, xs, zs, rfl, rfl, hH, hB, hz, q⟩ := h
  cases rx
  cases ry
  obtain ⟨its, r, pl, hl⟩ := I.list hH
  obtain ⟨its2, r2, pl2, hl2⟩ := I.list hB
  have h1 := r.length
  have h2 := r2.length
  obtain ⟨⟨cls, dd, data, sl⟩, n, ho, hc, _, hd⟩ := pl
  obtain ⟨⟨cls2, dd2, data2, sl2⟩, n2, ho2, hc2, _, hd2⟩ := pl2
  simp only at hc hd hc2 hd2
  subst hc hd hc2 hd2
  refine concat_meets ⟨_, ho, rfl⟩ ⟨_, ho2, rfl⟩ noFill_list_add seq_list_add F.slot_list_add F.entry_list_add (F.args_list_add_2 _ _) (list_addW l b its.toArray its2.toArray n n2 dd dd2 sl sl2 (by rw [List.size_toArray, List.size_toArray]; omega)) ⟨ho, ho2, ?_⟩
  have ea : its.toArray ++ its2.toArray = (its ++ its2).toArray := by simp
  rw [ea]
  exact ⟨.ref _, _, I.lnew (t' := s.toks) (r.append r2) (by rw [List.length_append]; omega), rfl, q _ I.fresh⟩
end
section
variable {K : Fg} {G G1 G2 : Gam} {s s1 s2 s3 s' : Bag} {ta tb tc te : TE} {t u : TT} {x y z : PyData}
theorem dpa_nil {H : Hp} {vs : List V} {xs : List PyData} (h : DpAll K H vs xs) : vs = [] ↔ xs = [] := by
  cases h with
  | nil => simp
  | cons _ _ => simp
theorem cutD_whole {xs : List PyData} {lo hi : Option Int} (h : HT.sIx xs.length 0 lo = 0 ∧ HT.sIx xs.length xs.length hi = xs.length) : cutD xs lo hi = xs := by
  unfold cutD
  rw [h.1, h.2, List.drop_zero, Nat.sub_zero, List.take_length]
end
end U

end
section
namespace U
open PySem PyProof.Rows L2 Evl
section
variable {K : Fg} {G G1 G2 : Gam} {s s1 s2 s3 s' : Bag} {ta tb tc te : TE} {t u : TT} {x y z : PyData}
/-! ### in, not in: whole numbers -/
/-! ### zip -/
/-! ### a comprehension that draws -/
def itB (N : Bag → Bag) : Nat → Bag → Bag
  | 0, s => s
  | n + 1, s => N (itB N n s)
def drawn (F : Bag → PyData) (N : Bag → Bag) (n : Nat) (s : Bag) : List PyData := (List.range n).map fun i => F (itB N i s)
theorem ev_lcDraw {wi : TI} {g : TG} {vs : List Nat} {ds : List PyData} (h : Src K wi G s ds s1) (F : Bag → PyData) (N : Bag → Bag) (hu : ∀ i e, i ∈ vs → G[i]? = some e → e = .un) (hz : ds.length ≤ 16000000)
    (hs : ∀ x s, x ∈ ds → ∃ Gt, Tgt K g vs G x Gt ∧ EvG K te Gt s (F s) (N s)) : EvG K (tLc wi g tYes te vs) G s (.list (drawn F N ds.length s1)) (itB N ds.length s1) := by
  have k := ev_lc (K := K) (te := te) (tt := tYes) h (fun i => some (F (itB N i s1))) (fun i => itB N i s1) rfl hu hz fun i x hx => by
    obtain ⟨Gt, a, b⟩ := hs x (itB N i s1) (List.mem_of_getElem? hx)
    exact ⟨Gt, _, a, et_yes, fun y hy => by cases hy; exact b, fun hn => by cases hn⟩
  have e : (List.range ds.length).filterMap (fun i => some (F (itB N i s1))) = drawn F N ds.length s1 := by
    unfold drawn
    exact congrFun List.filterMap_eq_map' _
  rw [e] at k
  exact k
end
end U

end
section
namespace U
open PySem PyProof.Rows L2 Evl
local macro_rules | `(tactic| walk_at "ev1") => `(tactic| first
  | exact ev_int | exact ev_bl | exact ev_str | exact ev_non | exact ev_var rfl | exact ea_nil | exact eo_none
  | with_reducible apply ev_ixDisp | with_reducible apply ev_fst | with_reducible apply ev_snd
  | with_reducible apply ev_add | with_reducible apply ev_sub | with_reducible apply ev_mul | with_reducible apply ev_fdiv | with_reducible apply ev_mod | with_reducible apply ev_pow
  | with_reducible apply ev_lt | with_reducible apply ev_le | with_reducible apply ev_gt | with_reducible apply ev_ge
  | with_reducible apply ev_eqI | with_reducible apply ev_neI
  | with_reducible apply ev_neg | with_reducible apply ev_subB | with_reducible apply ev_isNo | with_reducible apply ev_noNo
  | with_reducible apply ev_not | with_reducible apply et_test | with_reducible apply et_B | with_reducible apply et_not
  | with_reducible apply ev_abs | with_reducible apply ev_max | with_reducible apply ev_min | with_reducible apply ev_intB
  | with_reducible apply ev_gcd | with_reducible apply ev_frac | with_reducible apply ev_fadd | with_reducible apply ev_sign | with_reducible apply ev_cmpF
  | with_reducible apply ev_pull rfl
  | with_reducible apply ev_like
  | with_reducible apply ev_tup | with_reducible apply ev_lst | with_reducible apply ea_cons | with_reducible apply eo_some
  | with_reducible apply ev_order | exact ev_part rfl | exact ev_far rfl | exact ev_farPart rfl
  | (with_reducible show List.length _ ≤ 16000000; (simp; done)) | (with_reducible show (0 : Int) < _; decide) | (with_reducible show (_ : Int) < 1000000000000; decide) | (with_reducible show CPow _ _; (unfold CPow; decide)) | (with_reducible show CNz _ _; (unfold CNz; decide))
  | with_reducible apply sg_ret | with_reducible apply sg_asg | with_reducible apply sg_next)
local macro_rules | `(tactic| walk_at "ln") => `(tactic| first | walk_at "ev1" | with_reducible apply sg_seq)

section
variable {K : Fg}
-- slots of order: 0 one, 1 other, 2 gap
def t__law_gcd (K : Fg) : TS := (tSeq (tAsg (tCB rAbs (tCons (tVar 0) tNil)) (gName 0))
  (tSeq (tAsg (tCB rAbs (tCons (tVar 1) tNil)) (gName 1))
  (tSeq (tWhile (tTest (tOp (rI0 fun i j => V.bl (decide (j < i))) (tVar 1) (tC (V.int 0)))) (tSeq (tAsg (tVar 1) (gName 2))
  (tSeq (tAsg (tOp (rI CNz fun i j => V.int (i.fmod j)) (tVar 0) (tVar 1)) (gName 1))
  (tAsg (tVar 2) (gName 0)))))
  (tRet (tCB rMx (tCons (tC (V.int 1)) (tCons (tVar 0) tNil)))))))
-- slots of _law_gcd: 0 _law_one, 1 _law_other, 2 _law_kept
theorem ln__law_gcd : ∀ ds r, P_gcd ds r → ds.length = 2 := fun ds r h => by obtain ⟨p, q, rfl, _⟩ := h; rfl
theorem rd__law_gcd {ds r} (h : P_gcd ds r) (b : Bag) : SG K (t__law_gcd K) (frame 3 ds) b (.rt r b) := by
  obtain ⟨x, y, rfl, rfl⟩ := h
  unfold t__law_gcd
  obtain ⟨n, h1, h2⟩ := eu_end y.natAbs x.natAbs
  apply sg_is
  apply sg_seq
  (repeat' walk_at "ev1")
  apply sg_seq
  (repeat' walk_at "ev1")
  apply sg_seq
  · refine sg_while (s' := b) (fun i => [.d (.int (eu x.natAbs y.natAbs i).1), .d (.int (eu x.natAbs y.natAbs i).2), .un]) (fun _ => b) (fun _ => b) n ?_ rfl (fun i hi => ?_) (fun i hi => .inl ?_) ?_
    · show Wk [.d (.int (absI x)), .d (.int (absI y)), .un] _
      rw [absI_nat, absI_nat]
      exact .refl _
    · refine et_is (by (repeat' walk_at "ev1")) ?_
      have := h2 i hi
      simp; omega
    · have hy := h2 i hi
      refine sg_wk (G1 := [.d (.int (eu x.natAbs y.natAbs (i + 1)).1), .d (.int (eu x.natAbs y.natAbs (i + 1)).2), .d (.int (eu x.natAbs y.natAbs i).2)]) ?_ (.cons (.cons (.drop .nil)))
      apply sg_is
      (repeat' walk_at "ln")
      · show ((eu x.natAbs y.natAbs i).2 : Int) ≠ 0
        omega
      · rw [fmod_nat]
        rfl
    · refine et_is (by (repeat' walk_at "ev1")) ?_
      rw [h1]
      rfl
  · rw [h1]
    (repeat' walk_at "ev1")
  · show Out.rt (.int (maxI 1 _)) b = _
    rw [max_gN]
def t__law_frac (K : Fg) : TS := (tSeq (tAsg (tCall (spP K P_gcd) [] E0 (tCons (tVar 0) (tCons (tVar 1) tNil))) (gName 2))
  (tSeq (tIfS (tTest (tOp (rI0 fun i j => V.bl (decide (i < j))) (tVar 1) (tC (V.int 0)))) (tAsg (tUn (rU fun i => V.int (-i)) (tVar 2)) (gName 2)) tNext)
  (tRet (tTup (tCons (tOp (rI CDvX fun i j => V.int (i.fdiv j)) (tVar 0) (tVar 2)) (tCons (tOp (rI CDvX fun i j => V.int (i.fdiv j)) (tVar 1) (tVar 2)) tNil))))))
-- slots of _law_frac: 0 _law_above, 1 _law_below, 2 _law_divisor
theorem ln__law_frac : ∀ ds r, P_frac ds r → ds.length = 2 := fun ds r h => by obtain ⟨p, q, rfl, _⟩ := h; rfl
theorem rd__law_frac {ds r} (h : P_frac ds r) (b : Bag) : SG K (t__law_frac K) (frame 3 ds) b (.rt r b) := by
  obtain ⟨x, y, rfl, hx, hy, rfl⟩ := h
  unfold t__law_frac
  have hg := gI_pos x y
  have hb : Bd 7991 (gI x y) := Bd.g hx hy
  apply sg_seq
  (repeat' walk_at "ev1")
  apply sg_when
  (repeat' walk_at "ev1")
  · intro h
    have h := of_decide_eq_true h
    apply sg_is
    (repeat' walk_at "ln")
    · exact Bd.dv (by omega) hb.neg (by decide)
    · exact Bd.dv (by omega) hb.neg (by decide)
    · show Out.rt (fr (x.fdiv (-gI x y), y.fdiv (-gI x y))) b = Out.rt (fr (fracF x y)) b
      unfold fracF
      rw [if_pos h]
  · intro h
    have h := of_decide_eq_false h
    apply sg_is
    (repeat' walk_at "ln")
    · exact Bd.dv (by omega) hb (by decide)
    · exact Bd.dv (by omega) hb (by decide)
    · show Out.rt (fr (x.fdiv (gI x y), y.fdiv (gI x y))) b = Out.rt (fr (fracF x y)) b
      unfold fracF
      rw [if_neg h]
def t__law_add (K : Fg) : TS := (tRet (tCall (spP K P_frac) [] E0 (tCons (tOp (rI0 fun i j => V.int (i + j)) (tOp (rI CMulW fun i j => V.int (i * j)) (tOp (rIx K) (tVar 0) (tC (V.int 0))) (tOp (rIx K) (tVar 1) (tC (V.int 1)))) (tOp (rI CMulW fun i j => V.int (i * j)) (tOp (rIx K) (tVar 1) (tC (V.int 0))) (tOp (rIx K) (tVar 0) (tC (V.int 1))))) (tCons (tOp (rI CMulW fun i j => V.int (i * j)) (tOp (rIx K) (tVar 0) (tC (V.int 1))) (tOp (rIx K) (tVar 1) (tC (V.int 1)))) tNil))))
-- slots of _law_add: 0 _law_one, 1 _law_other
theorem ln__law_add : ∀ ds r, P_add ds r → ds.length = 2 := fun ds r h => by obtain ⟨_, _, p, q, rfl, _⟩ := h; rfl
theorem rd__law_add {ds r} (h : P_add ds r) (b : Bag) : SG K (t__law_add K) (frame 2 ds) b (.rt r b) := by
  obtain ⟨n, m, p, q, rfl, hp, hq, hl, rfl⟩ := h
  exact sg_ret (ev_fracN (ev_add (ev_mul (ev_fst (ev_var rfl)) (ev_snd (ev_var rfl)) (hp.1.cm hq.2 (by omega))) (ev_mul (ev_fst (ev_var rfl)) (ev_snd (ev_var rfl)) (hq.1.cm hp.2 (by omega)))) (ev_mul (ev_snd (ev_var rfl)) (ev_snd (ev_var rfl)) (hp.2.cm hq.2 (by omega)))
    ((Bd.add (hp.1.mul hq.2) (by rw [Nat.add_comm n m]; exact hq.1.mul hp.2)).mono (by omega)) ((hp.2.mul hq.2).mono (by omega)))
-- slots of _law_sign: 0 _law_number
-- slots of _law_cmp: 0 _law_one, 1 _law_other
def t__law_part (K : Fg) : TS := (tRet (tCall (spP K P_frac) [] E0 (tCons (tOp (rI0 fun i j => V.int (i - j)) (tCall (spB K P_pull) [] E0 (tCons (tVar 0) (tCons (tC (V.int 13)) tNil))) (tC (V.int 6))) (tCons (tOp (rIx K) (tLst (tCons (tC (V.int 1)) (tCons (tC (V.int 1)) (tCons (tC (V.int 2)) (tCons (tC (V.int 3)) tNil))))) (tCall (spB K P_pull) [] E0 (tCons (tVar 0) (tCons (tC (V.int 4)) tNil)))) tNil))))
-- slots of _law_part: 0 _law_bag_here
theorem ln__law_part : ∀ s ds r s', P_part s ds r s' → ds.length + 1 = 1 := fun s ds r s' h => by obtain ⟨rfl, _⟩ := h; rfl
theorem rd__law_part {s ds r s'} (h : P_part s ds r s') (ok : s.ok) : SG K (t__law_part K) (.bag :: frame 0 ds) s (.rt r s') := by
  obtain ⟨rfl, rfl, rfl⟩ := h
  unfold t__law_part
  obtain ⟨z1, z2⟩ := pullV_range s (n := 13) (by decide)
  obtain ⟨y1, y2⟩ := pullV_range (pullS s 13) (n := 4) (by decide)
  have hm := menu_mem (l := [1, 1, 2, 3]) y1 y2
  apply sg_is
  (repeat' walk_at "ln")
  all_goals first | exact menu_at (l := [1, 1, 2, 3]) y1 y2 | skip
  · unfold Bd; omega
  · refine Bd.mono (n := 10) ?_ (by decide)
    generalize menu _ _ = m at hm
    simp only [List.mem_cons, List.not_mem_nil, or_false] at hm
    unfold Bd; omega
  · rfl
-- slots of _law_far: 0 _law_bag_here
-- slots of _law_far_part: 0 _law_bag_here
def t__law_pull (K : Fg) : TS := (tSeq (tAsg (tOp (rIx K) (tVar 0) (tC (V.int 0))) (gName 2))
  (tSeq (tAsg (tC (V.int 0)) (gName 3))
  (tSeq (tIfS (tTest (tOp (rI0 fun i j => V.bl (decide (j < i))) (tCB (rLenQ K) (tCons (tVar 2) tNil)) (tC (V.int 0)))) (tSeq (tAsg (tOp (rI CNz fun i j => V.int (i.fmod j)) (tOp (rIx K) (tVar 0) (tC (V.int 1))) (tCB (rLenQ K) (tCons (tVar 2) tNil))) (gName 4))
  (tSeq (tAsg (tOp (rIx K) (tVar 2) (tVar 4)) (gName 3))
  (tIfS (tTest (tOp (rI0 fun i j => V.bl (decide (j ≤ i))) (tCB rAbs (tCons (tVar 3) tNil)) (tOp (rI CPow fun i j => V.int (i ^ j.toNat)) (tC (V.int 10)) (tC (V.int 18))))) (tSeq (tAsg (tOp (rI CDvX fun i j => V.int (i.fdiv j)) (tVar 3) (tVar 1)) (gSub (tVar 2) (tVar 4) rSetL))
  (tRet (tOp (rI CNz fun i j => V.int (i.fmod j)) (tVar 3) (tVar 1)))) tNext))) tNext)
  (tSeq (tAsg (tOp (rI0 fun i j => V.int (i + j)) (tOp (rIx K) (tVar 0) (tC (V.int 1))) (tC (V.int 1))) (gSub (tVar 0) (tC (V.int 1)) rSetL))
  (tSeq (tAsg (tOp (rI CNz fun i j => V.int (i.fmod j)) (tOp (rI0 fun i j => V.int (i + j)) (tOp (rI0 fun i j => V.int (i + j)) (tOp (rI CMulW fun i j => V.int (i * j)) (tOp (rIx K) (tVar 0) (tC (V.int 2))) (tC (V.int 48271))) (tOp (rI CNz fun i j => V.int (i.fmod j)) (tVar 3) (tC (V.int 1000003)))) (tOp (rIx K) (tVar 0) (tC (V.int 1)))) (tC (V.int 2147483647))) (gSub (tVar 0) (tC (V.int 2)) rSetL))
  (tRet (tOp (rI CNz fun i j => V.int (i.fmod j)) (tOp (rI CDvX fun i j => V.int (i.fdiv j)) (tOp (rI CNz fun i j => V.int (i.fmod j)) (tOp (rI0 fun i j => V.int (i + j)) (tOp (rI CMulW fun i j => V.int (i * j)) (tOp (rIx K) (tVar 0) (tC (V.int 2))) (tC (V.int 69621))) (tOp (rI CDvX fun i j => V.int (i.fdiv j)) (tOp (rIx K) (tVar 0) (tC (V.int 2))) (tC (V.int 65536)))) (tC (V.int 2147483629))) (tC (V.int 32))) (tVar 1))))))))
-- slots of _law_pull: 0 _law_bag_here, 1 _law_size, 2 _law_cells, 3 _law_cell, 4 _law_spot
theorem ln__law_pull : ∀ s ds r s', P_pull s ds r s' → ds.length + 1 = 2 := fun s ds r s' h => by obtain ⟨n, rfl, _⟩ := h; rfl
theorem bag_ne {H : Hp} {b c : Addr} {s : Bag} (h : BagAt H (some (b, c)) s) : b ≠ c := fun e => by
  have h1 := h.1
  have h2 := h.2.1
  rw [e, h2] at h1
  have h3 := HO.lst.inj (Option.some.inj h1)
  cases hc : s.cs with
  | nil => rw [hc] at h3; cases h3
  | cons x r => rw [hc] at h3; cases h3
theorem rd_pullTail {D : Ends} {H : Hp} {b c : Addr} {s : Bag} {cell n : Int} {x4 : Option V} (hB : BagAt H (some (b, c)) s) (h0 : 0 < n)
    (q : ∀ H', (∀ a o, H a = some o → ¬ InB (some (b, c)) a → H' a = some o) → BagAt H' (some (b, c)) ⟨s.cs, s.i + 1, (s.j * 48271 + cell.fmod 1000003 + (s.i + 1)).fmod 2147483647⟩ →
      D.rt (.int (((((s.j * 48271 + cell.fmod 1000003 + (s.i + 1)).fmod 2147483647) * 69621 + ((s.j * 48271 + cell.fmod 1000003 + (s.i + 1)).fmod 2147483647).fdiv 65536).fmod 2147483629).fdiv 32 |>.fmod n)) H') :
    (tSeq (tAsg (tOp (rI0 fun i j => V.int (i + j)) (tOp (rIx K) (tVar 0) (tC (V.int 1))) (tC (V.int 1))) (gSub (tVar 0) (tC (V.int 1)) rSetL))
  (tSeq (tAsg (tOp (rI CNz fun i j => V.int (i.fmod j)) (tOp (rI0 fun i j => V.int (i + j)) (tOp (rI0 fun i j => V.int (i + j)) (tOp (rI CMulW fun i j => V.int (i * j)) (tOp (rIx K) (tVar 0) (tC (V.int 2))) (tC (V.int 48271))) (tOp (rI CNz fun i j => V.int (i.fmod j)) (tVar 3) (tC (V.int 1000003)))) (tOp (rIx K) (tVar 0) (tC (V.int 1)))) (tC (V.int 2147483647))) (gSub (tVar 0) (tC (V.int 2)) rSetL))
  (tRet (tOp (rI CNz fun i j => V.int (i.fmod j)) (tOp (rI CDvX fun i j => V.int (i.fdiv j)) (tOp (rI CNz fun i j => V.int (i.fmod j)) (tOp (rI0 fun i j => V.int (i + j)) (tOp (rI CMulW fun i j => V.int (i * j)) (tOp (rIx K) (tVar 0) (tC (V.int 2))) (tC (V.int 69621))) (tOp (rI CDvX fun i j => V.int (i.fdiv j)) (tOp (rIx K) (tVar 0) (tC (V.int 2))) (tC (V.int 65536)))) (tC (V.int 2147483629))) (tC (V.int 32))) (tVar 1))))) D
    [some (.ref b), some (.int n), some (.ref c), some (.int cell), x4] H := by
  obtain ⟨hb, hc, h1, h2, h3⟩ := id hB
  have nbc : b ≠ c := bag_ne hB
  have mulj : ∀ {x y : Int}, 0 ≤ x → x < 2147483647 → Bd 40 y → CMulW x y := fun {x y} a b c => Bd.cm (n := 31) (m := 40) (by unfold Bd; omega) c (by decide)
  generalize hj : (s.j * 48271 + cell.fmod 1000003 + (s.i + 1)).fmod 2147483647 = j at q
  have hjr : 0 ≤ j ∧ j < 2147483647 := by rw [← hj]; exact fmod_range _ (by decide)
  -- bag[1] = bag[1] + 1
  refine ⟨_, rfl, .inl ⟨b, _, 1, .int s.i, rfl, rfl, sq_of hb, rfl, _, _, rfl, rfl, _, rfl, b, _, 1, 1, rfl, rfl, hb, rfl, ?_⟩⟩
  -- bag[2] = ..
  refine ⟨_, rfl, .inl ⟨b, _, 2, .int s.j, rfl, rfl, sq_of upd_same, rfl, _, _, rfl, rfl, mulj h2 h3 (by unfold Bd; decide), _, rfl, _, _, rfl, rfl, (by show (1000003 : Int) ≠ 0; decide), _, _, rfl, rfl, _, rfl, .inl ⟨b, _, 1, .int (s.i + 1), rfl, rfl, sq_of upd_same, rfl, _, _, rfl, rfl, _, _, rfl, rfl, (by show (2147483647 : Int) ≠ 0; decide), _, rfl, b, _, 2, 2, rfl, rfl, upd_same, rfl, ?_⟩⟩⟩
  dsimp only
  rw [hj]
  -- return
  refine ⟨_, rfl, .inl ⟨b, _, 2, .int j, rfl, rfl, sq_of upd_same, rfl, _, _, rfl, rfl, mulj hjr.1 hjr.2 (by unfold Bd; decide), _, rfl, .inl ⟨b, _, 2, .int j, rfl, rfl, sq_of upd_same, rfl, _, _, rfl, rfl, ⟨by decide, by decide⟩, _, _, rfl, rfl, _, _, rfl, rfl, (by show (2147483629 : Int) ≠ 0; decide), _, _, rfl, rfl, ⟨by decide, by decide⟩, _, rfl, _, _, rfl, rfl, ?_, ?_⟩⟩⟩
  · show n ≠ 0
    omega
  · refine q _ (fun a o h z => ?_) ⟨upd_same, ?_, h1, hjr.1, hjr.2⟩
    · have na : a ≠ b := fun e => z ⟨b, c, rfl, .inl e⟩
      rw [upd_ne na, upd_ne na]; exact h
    · rw [upd_ne nbc.symm, upd_ne nbc.symm]; exact hc
theorem rd__law_pull {D : Ends} {W : Addr → Prop} {H : Hp} {b c : Addr} {s : Bag} {n : Int} (hB : BagAt H (some (b, c)) s) (h0 : 0 < n) (h1 : n < 1000000000000)
    (q : ∀ (v : V) (H' : Hp), (∀ (a : Addr) (o : HO), H a = some o → ¬InB (some (b, c)) a → H' a = some o) → BagAt H' (some (b, c)) (pullS s n) → Dp K (less H' fun a => W a ∨ InB (some (b, c)) a) v (PyData.int (pullV s n)) → D.rt v H') :
    t__law_pull K D [some (.ref b), some (.int n), none, none, none] H := by
  obtain ⟨hb, hc, k1, k2, k3⟩ := id hB
  have nbc : b ≠ c := bag_ne hB
  unfold t__law_pull
  refine ⟨_, rfl, .inl ⟨b, _, 0, .ref c, rfl, rfl, sq_of hb, rfl, ?_⟩⟩
  have lc : SqL K H c (s.cs.map V.int) := sq_of hc
  refine ⟨_, rfl, c, _, rfl, .inl lc, _, _, rfl, rfl, _, rfl, ?_⟩
  rw [List.length_map]
  refine ite2 (fun h => ?_) (fun h => ?_)
  · have hl : 0 < s.cs.length := by have := of_decide_eq_true h; omega
    have hsp := fmod_range s.i (n := (s.cs.length : Int)) (by omega)
    obtain ⟨k, hk⟩ : ∃ k : Nat, s.i.fmod s.cs.length = (k : Int) := ⟨(s.i.fmod s.cs.length).toNat, by omega⟩
    have kl : k < s.cs.length := by omega
    have gk : (s.cs.map V.int)[k]? = some (.int s.cs[k]) := by rw [List.getElem?_map, List.getElem?_eq_getElem kl]; rfl
    have ec : cellOf s = s.cs[k] := by
      unfold cellOf
      rw [if_neg (by omega), hk, Int.toNat_natCast, List.getD_eq_getElem?_getD, List.getElem?_eq_getElem kl]
      rfl
    refine ⟨_, rfl, .inl ⟨b, _, 1, .int s.i, rfl, rfl, sq_of hb, rfl, _, rfl, c, _, rfl, .inl lc, _, _, rfl, rfl, ?_, ?_⟩⟩
    · show ((s.cs.map V.int).length : Int) ≠ 0
      rw [List.length_map]; omega
    rw [List.length_map]
    dsimp only
    rw [hk]
    refine ⟨_, rfl, _, rfl, .inl ⟨c, _, (k : Int), _, rfl, rfl, lc, atI_nat gk, ?_⟩⟩
    refine ⟨_, rfl, _, rfl, _, _, rfl, rfl, (by unfold CPow; decide), _, _, rfl, rfl, _, rfl, ?_⟩
    have e18 : (10 : Int) ^ (18 : Int).toNat = 1000000000000000000 := by decide
    rw [e18]
    refine ite2 (fun h2 => ?_) (fun h2 => ?_)
    · have hbig : 1000000000000000000 ≤ absI (cellOf s) := by
        rw [ec]; exact of_decide_eq_true h2
      have ep : pull s n = ((cellOf s).fmod n, ⟨s.cs.set k ((cellOf s).fdiv n), s.i, s.j⟩) := by
        unfold pull
        rw [if_pos ⟨hl, hbig⟩, hk, Int.toNat_natCast]
      refine ⟨_, rfl, _, rfl, _, _, rfl, rfl, ⟨by omega, ?_⟩, _, rfl, _, rfl, c, _, (k : Int), k, rfl, rfl, hc, ?_, ?_⟩
      · have : n.natAbs < 2 ^ 40 := by omega
        have := PySem.Flt.log2_lt_of (by decide) this
        omega
      · exact ixN_nat (by rw [List.length_map]; exact kl)
      · refine ⟨_, rfl, _, rfl, _, _, rfl, rfl, (by show n ≠ 0; omega), ?_⟩
        refine q _ _ (fun a o h z => ?_) ?_ ?_
        · rw [upd_ne (fun e => z ⟨b, c, rfl, .inr e⟩)]; exact h
        · unfold pullS
          rw [ep]
          refine ⟨by rw [upd_ne nbc]; exact hb, ?_, by rw [List.length_set]; exact k1, k2, k3⟩
          rw [upd_same, List.map_set, ec]
        · unfold pullV
          rw [ep, ec]
          exact .int _
    · have hbig : ¬ 1000000000000000000 ≤ absI (cellOf s) := fun z => h2 (decide_eq_true (by rw [ec] at z; exact z))
      refine rd_pullTail hB h0 fun H' e hB' => ?_
      have ep : pull s n = (((((s.j * 48271 + (cellOf s).fmod 1000003 + (s.i + 1)).fmod 2147483647) * 69621 + ((s.j * 48271 + (cellOf s).fmod 1000003 + (s.i + 1)).fmod 2147483647).fdiv 65536).fmod 2147483629).fdiv 32 |>.fmod n, ⟨s.cs, s.i + 1, (s.j * 48271 + (cellOf s).fmod 1000003 + (s.i + 1)).fmod 2147483647⟩) := by
        unfold pull
        rw [if_neg (fun z => hbig z.2)]
      refine q _ _ e ?_ ?_
      · unfold pullS
        rw [ep, ec]; exact hB'
      · unfold pullV
        rw [ep, ec]; exact .int _
  · have hl : s.cs.length = 0 := by
      have := of_decide_eq_false (eq_false_of_ne_true h)
      omega
    have ec : cellOf s = 0 := by unfold cellOf; rw [if_pos hl]
    refine rd_pullTail hB h0 fun H' e hB' => ?_
    have ep : pull s n = (((((s.j * 48271 + (cellOf s).fmod 1000003 + (s.i + 1)).fmod 2147483647) * 69621 + ((s.j * 48271 + (cellOf s).fmod 1000003 + (s.i + 1)).fmod 2147483647).fdiv 65536).fmod 2147483629).fdiv 32 |>.fmod n, ⟨s.cs, s.i + 1, (s.j * 48271 + (cellOf s).fmod 1000003 + (s.i + 1)).fmod 2147483647⟩) := by
      unfold pull
      rw [if_neg (fun z => by omega)]
    refine q _ _ e ?_ ?_
    · unfold pullS
      rw [ep, ec]; exact hB'
    · unfold pullV
      rw [ep, ec]; exact .int _
end
end U


end
section
namespace U
open PySem PyProof.Rows L2 Evl
theorem kit_NoneType_bool : kitB "NoneType" "bool" = some false := by decide +kernel
theorem kit_NoneType_int : kitB "NoneType" "int" = some false := by decide +kernel
theorem kit_NoneType_str : kitB "NoneType" "str" = some false := by decide +kernel
theorem kit_NoneType_list : kitB "NoneType" "list" = some false := by decide +kernel
theorem kit_NoneType_tuple : kitB "NoneType" "tuple" = some false := by decide +kernel
theorem kit_bool_bool : kitB "bool" "bool" = some true := by decide +kernel
theorem kit_bool_list : kitB "bool" "list" = some false := by decide +kernel
theorem kit_bool_tuple : kitB "bool" "tuple" = some false := by decide +kernel
theorem kit_int_bool : kitB "int" "bool" = some false := by decide +kernel
theorem kit_int_int : kitB "int" "int" = some true := by decide +kernel
theorem kit_int_list : kitB "int" "list" = some false := by decide +kernel
theorem kit_int_tuple : kitB "int" "tuple" = some false := by decide +kernel
theorem kit_str_bool : kitB "str" "bool" = some false := by decide +kernel
theorem kit_str_int : kitB "str" "int" = some false := by decide +kernel
theorem kit_str_str : kitB "str" "str" = some true := by decide +kernel
theorem kit_str_list : kitB "str" "list" = some false := by decide +kernel
theorem kit_str_tuple : kitB "str" "tuple" = some false := by decide +kernel
theorem kit_list_list : kitB "list" "list" = some true := by decide +kernel
theorem kit_list_tuple : kitB "list" "tuple" = some false := by decide +kernel
theorem kit_tuple_list : kitB "tuple" "list" = some false := by decide +kernel
theorem kit_tuple_tuple : kitB "tuple" "tuple" = some true := by decide +kernel
local macro_rules | `(tactic| walk_at "ev1") => `(tactic| first
  | exact ev_int | exact ev_bl | exact ev_str | exact ev_non | exact ev_var rfl | exact ea_nil | exact eo_none
  | with_reducible apply ev_ixDisp | with_reducible apply ev_fst | with_reducible apply ev_snd
  | with_reducible apply ev_add | with_reducible apply ev_sub | with_reducible apply ev_mul | with_reducible apply ev_fdiv | with_reducible apply ev_mod | with_reducible apply ev_pow
  | with_reducible apply ev_lt | with_reducible apply ev_le | with_reducible apply ev_gt | with_reducible apply ev_ge
  | with_reducible apply ev_eqI | with_reducible apply ev_neI
  | with_reducible apply ev_neg | with_reducible apply ev_subB | with_reducible apply ev_isNo | with_reducible apply ev_noNo
  | with_reducible apply ev_not | with_reducible apply et_test | with_reducible apply et_B | with_reducible apply et_not
  | with_reducible apply ev_abs | with_reducible apply ev_max | with_reducible apply ev_min | with_reducible apply ev_intB
  | with_reducible apply ev_gcd | with_reducible apply ev_frac | with_reducible apply ev_fadd | with_reducible apply ev_sign | with_reducible apply ev_cmpF
  | with_reducible apply ev_pull rfl
  | with_reducible apply ev_like
  | with_reducible apply ev_tup | with_reducible apply ev_lst | with_reducible apply ea_cons | with_reducible apply eo_some
  | with_reducible apply ev_order | exact ev_part rfl | exact ev_far rfl | exact ev_farPart rfl
  | (with_reducible show List.length _ ≤ 16000000; (simp; done)) | (with_reducible show (0 : Int) < _; decide) | (with_reducible show (_ : Int) < 1000000000000; decide) | (with_reducible show CPow _ _; (unfold CPow; decide)) | (with_reducible show CNz _ _; (unfold CNz; decide))
  | with_reducible apply sg_ret | with_reducible apply sg_asg | with_reducible apply sg_next)
local macro_rules | `(tactic| walk_at "ln") => `(tactic| first | walk_at "ev1" | with_reducible apply sg_seq)

section
variable {K : Fg}
theorem fnok_false {Pg : Program} {w : World} {mg : Str → Option Value} {base : Heap} {CX : CXT} {k : Nat} {f : Addr} {fd : FuncData} {ps : List Str} : FnOk Pg w K mg base CX k f fd ps (spP K fun _ _ => False) :=
  ⟨fun vs H Q E h => by obtain ⟨_, _, _, _, _, h, _⟩ := h; exact h.elim, fun A outer s H args us vs Q E _ _ _ _ h => by obtain ⟨_, _, _, _, _, h, _⟩ := h; exact h.elim⟩
/-! _law_bag -/
def t__law_bag (K : Fg) : TS := (tRet (tLst (tCons (tCB (rListQ K) (tCons (tSl (rSlL K) (tVar 0) tNoPart (tPart (tC (V.int 63)))) tNil)) (tCons (tC (V.int 0)) (tCons (tC (V.int 20011)) tNil)))))
-- slots of _law_bag: 0 _law_script
theorem cut63 {xs : List V} (h : xs.length ≤ 63) : cutV xs none (some 63) = xs := by
  unfold cutV
  rw [HT.sIx_none, show HT.sIx xs.length xs.length (some 63) = min 63 xs.length from HT.sIx_nat xs.length xs.length 63, Nat.min_eq_right h, List.drop_zero, Nat.sub_zero, List.take_length]
theorem rd__law_bag {D : Ends} {W : Addr → Prop} {H : Hp} {v : V} {ns : List Int} (hd : Dp K (less H W) v (.list (ns.map PyData.int))) (hl : ns.length ≤ 63)
    (q : ∀ b c H', Ex H H' → H b = none → H c = none → BagAt H' (some (b, c)) (bag0 ns) → D.rt (.ref b) H') : t__law_bag K D [some v] H := by
  cases hd with
  | @lst a vs _ g t =>
    have e := dpa_ints t
    subst e
    have g' : SqL K H a (ns.map V.int) := ex_l less_ex g
    have ll : (ns.map V.int).length ≤ 63 := by rw [List.length_map]; exact hl
    unfold t__law_bag
    refine ⟨.ref a, rfl, 63, rfl, a, _, rfl, g', fun p hp => ?_⟩
    rw [cut63 ll]
    refine ⟨p, _, rfl, .inl (sq_of upd_same), fun c hc => ?_⟩
    refine ⟨by show 3 ≤ sizeLine; decide, fun b hb => ?_⟩
    have e1 : Ex H (upd H p (.lst (ns.map V.int))) := Ex.new hp
    have e2 := e1.trans (Ex.new (o := .lst (ns.map V.int)) hc)
    have nbc : c ≠ b := fun z => by
      rw [← z, upd_same] at hb; cases hb
    refine q b c _ (e2.trans (Ex.new hb)) (fresh_back e2 hb) (fresh_back e1 hc) ⟨upd_same, ?_, hl, by show (0 : Int) ≤ 20011; decide, by show (20011 : Int) < 2147483647; decide⟩
    rw [upd_ne nbc, upd_same]
    rfl
/-! _law_like -/
def t__law_like (K : Fg) (n : Nat) : TS := (tSeq (tIfS (tB (tCB (rIsiT K) (tCons (tVar 1) (tCons (tTup (tCons (tC (V.ty "tuple")) (tCons (tC (V.ty "list")) tNil))) tNil)))) (tSeq (tIfS (tTest (tOp rNe (tCB (rIsi K) (tCons (tVar 0) (tCons (tC (V.ty "tuple")) tNil))) (tCB (rIsi K) (tCons (tVar 1) (tCons (tC (V.ty "tuple")) tNil))))) (tRet (tC (V.bl false))) tNext)
  (tSeq (tIfS (tOr (tNot (tB (tCB (rIsiT K) (tCons (tVar 0) (tCons (tTup (tCons (tC (V.ty "tuple")) (tCons (tC (V.ty "list")) tNil))) tNil))))) (tTest (tOp rNe (tCB (rLenQ K) (tCons (tVar 0) tNil)) (tCB (rLenQ K) (tCons (tVar 1) tNil))))) (tRet (tC (V.bl false))) tNext)
  (tRet (tCB (rAll K) (tCons (tLc (iRng1 (tCons (tCB (rLenQ K) (tCons (tVar 1) tNil)) tNil)) (gName 2) tYes (tCall (spP K (P_like n)) [] E0 (tCons (tOp (rIx K) (tVar 0) (tVar 2)) (tCons (tOp (rIx K) (tVar 1) (tVar 2)) tNil))) [2]) tNil))))) tNext)
  (tSeq (tIfS (tB (tCB (rIsi K) (tCons (tVar 1) (tCons (tC (V.ty "bool")) tNil)))) (tRet (tAndV (tCB (rIsi K) (tCons (tVar 0) (tCons (tC (V.ty "bool")) tNil))) (tOp rEq (tVar 0) (tVar 1)))) tNext)
  (tSeq (tIfS (tB (tCB (rIsi K) (tCons (tVar 1) (tCons (tC (V.ty "int")) tNil)))) (tRet (tAndV (tCB (rIsi K) (tCons (tVar 0) (tCons (tC (V.ty "int")) tNil))) (tAndV (tNotV (tCB (rIsi K) (tCons (tVar 0) (tCons (tC (V.ty "bool")) tNil)))) (tOp rEq (tVar 0) (tVar 1))))) tNext)
  (tSeq (tIfS (tB (tCB (rIsi K) (tCons (tVar 1) (tCons (tC (V.ty "str")) tNil)))) (tRet (tAndV (tCB (rIsi K) (tCons (tVar 0) (tCons (tC (V.ty "str")) tNil))) (tOp rEq (tVar 0) (tVar 1)))) tNext)
  (tRet (tAndV (tOp rIsNo (tVar 1) (tC V.non)) (tOp rIsNo (tVar 0) (tC V.non))))))))
-- slots of _law_like: 0 _law_found, 1 _law_due, 2 _law_at
theorem ln__law_like {n : Nat} : ∀ ds r, P_like (n + 1) ds r → ds.length = 2 := fun ds r h => by obtain ⟨p, rfl, _⟩ := h; rfl
theorem atI_rng {xs : List PyData} {i : Nat} (h : i < xs.length) : ∃ x, xs[i]? = some x ∧ atI xs ((0 : Int) + (i : Int)) = some x := by
  refine ⟨xs[i], List.getElem?_eq_getElem h, ?_⟩
  rw [Int.zero_add]
  exact atI_nat (List.getElem?_eq_getElem h)
theorem mem_rng {lo : Int} {n : Nat} {x : PyData} (h : x ∈ rngD lo n) : ∃ i, i < n ∧ x = .int (lo + (i : Int)) := by
  unfold rngD at h
  obtain ⟨i, hi, rfl⟩ := List.mem_map.mp h
  exact ⟨i, List.mem_range.mp hi, rfl⟩
theorem un_at {G : Gam} {j : Nat} (h : G[j]? = some .un) : ∀ i e, i ∈ [j] → G[i]? = some e → e = .un := fun i e hi g => by
  rw [List.mem_singleton.mp hi, h] at g
  exact (Option.some.inj g).symm
theorem all_true (n : Nat) (l : List PyData) : l.map (fun _ => PyData.bool true) = (l.map fun _ => true).map PyData.bool := by
  rw [List.map_map]; rfl
theorem all_true2 (l : List PyData) : (l.map fun _ => true).all id = true := by
  rw [List.all_map]; simp
theorem rd__law_like {n : Nat} {ds r} (h : P_like (n + 1) ds r) (b : Bag) : SG K (t__law_like K n) (frame 3 ds) b (.rt r b) := by
  obtain ⟨x, rfl, hx, rfl⟩ := h
  unfold t__law_like
  have v0 : EvG K (tVar 0) (frame 3 [x, x]) b x b := ev_var rfl
  have v1 : EvG K (tVar 1) (frame 3 [x, x]) b x b := ev_var rfl
  cases x with
  | none =>
    refine sg_when (et_B (ev_isi2 v1 kit_NoneType_tuple kit_NoneType_list)) (fun h => by cases h) fun _ => ?_
    refine sg_when (et_B (ev_isi v1 kit_NoneType_bool)) (fun h => by cases h) fun _ => ?_
    refine sg_when (et_B (ev_isi v1 kit_NoneType_int)) (fun h => by cases h) fun _ => ?_
    refine sg_when (et_B (ev_isi v1 kit_NoneType_str)) (fun h => by cases h) fun _ => ?_
    exact sg_ret (ev_andT (ev_isNo v1) (ev_isNo v0))
  | bool i =>
    refine sg_when (et_B (ev_isi2 v1 kit_bool_tuple kit_bool_list)) (fun h => by cases h) fun _ => ?_
    refine sg_when (et_B (ev_isi v1 kit_bool_bool)) (fun _ => ?_) (fun h => by cases h)
    refine sg_seqR (sg_ret (ev_andT (ev_isi v0 kit_bool_bool) (ev_is (ev_eqB v0 v1) ?_)))
    simp
  | int i =>
    refine sg_when (et_B (ev_isi2 v1 kit_int_tuple kit_int_list)) (fun h => by cases h) fun _ => ?_
    refine sg_when (et_B (ev_isi v1 kit_int_bool)) (fun h => by cases h) fun _ => ?_
    refine sg_when (et_B (ev_isi v1 kit_int_int)) (fun _ => ?_) (fun h => by cases h)
    refine sg_seqR (sg_ret (ev_andT (ev_isi v0 kit_int_int) (ev_andT (ev_not (ev_isi v0 kit_int_bool)) (ev_is (ev_eqI v0 v1) ?_))))
    simp
  | str i =>
    refine sg_when (et_B (ev_isi2 v1 kit_str_tuple kit_str_list)) (fun h => by cases h) fun _ => ?_
    refine sg_when (et_B (ev_isi v1 kit_str_bool)) (fun h => by cases h) fun _ => ?_
    refine sg_when (et_B (ev_isi v1 kit_str_int)) (fun h => by cases h) fun _ => ?_
    refine sg_when (et_B (ev_isi v1 kit_str_str)) (fun _ => ?_) (fun h => by cases h)
    refine sg_seqR (sg_ret (ev_andT (ev_isi v0 kit_str_str) (ev_is (ev_eqS v0 v1) ?_)))
    simp
  | dict i => cases n <;> cases hx
  | tuple xs =>
    cases n with
    | zero => cases hx
    | succ n =>
      unfold okD at hx
      obtain ⟨hl, ha⟩ := Bool.and_eq_true_iff.mp hx
      have hl := of_decide_eq_true hl
      refine sg_when (et_B (ev_isi2 v1 kit_tuple_tuple kit_tuple_list)) (fun _ => ?_) (fun h => by cases h)
      refine sg_seqR ?_
      refine sg_when (et_test (ev_neB (ev_isi v0 kit_tuple_tuple) (ev_isi v1 kit_tuple_tuple))) (fun h => by cases h) fun _ => ?_
      refine sg_when (et_orF (et_not (et_B (ev_isi2 v0 kit_tuple_tuple kit_tuple_list))) (et_is (et_test (ev_neI (ev_lenT v0) (ev_lenT v1))) (b' := false) (by simp))) (fun h => by cases h) fun _ => ?_
      refine sg_ret (ev_is (ev_all (bs := (rngD 0 ((xs.length : Int).toNat)).map fun _ => true) (ev_is (ev_lcM (src_rng1 (ea_cons (ev_lenT v1) ea_nil) ⟨by omega, by omega⟩) (fun _ => .bool true) (un_at rfl) (by rw [rngD_len]; omega) fun y hy => ?_) (congrArg PyData.list (all_true 0 _)))) (by rw [all_true2]))
      obtain ⟨i, hi, rfl⟩ := mem_rng hy
      rw [Int.toNat_natCast] at hi
      obtain ⟨z, hz, hz2⟩ := atI_rng hi
      refine ⟨_, tgt_name, ev_like (ev_ixT (ev_var rfl) (ev_var rfl) hz2) (ev_ixT (ev_var rfl) (ev_var rfl) hz2) rfl (okAll_get ha hz)⟩
  | list xs =>
    cases n with
    | zero => cases hx
    | succ n =>
      unfold okD at hx
      obtain ⟨hl, ha⟩ := Bool.and_eq_true_iff.mp hx
      have hl := of_decide_eq_true hl
      refine sg_when (et_B (ev_isi2 v1 kit_list_tuple kit_list_list)) (fun _ => ?_) (fun h => by cases h)
      refine sg_seqR ?_
      refine sg_when (et_test (ev_neB (ev_isi v0 kit_list_tuple) (ev_isi v1 kit_list_tuple))) (fun h => by cases h) fun _ => ?_
      refine sg_when (et_orF (et_not (et_B (ev_isi2 v0 kit_list_tuple kit_list_list))) (et_is (et_test (ev_neI (ev_lenL v0) (ev_lenL v1))) (b' := false) (by simp))) (fun h => by cases h) fun _ => ?_
      refine sg_ret (ev_is (ev_all (bs := (rngD 0 ((xs.length : Int).toNat)).map fun _ => true) (ev_is (ev_lcM (src_rng1 (ea_cons (ev_lenL v1) ea_nil) ⟨by omega, by omega⟩) (fun _ => .bool true) (un_at rfl) (by rw [rngD_len]; omega) fun y hy => ?_) (congrArg PyData.list (all_true 0 _)))) (by rw [all_true2]))
      obtain ⟨i, hi, rfl⟩ := mem_rng hy
      rw [Int.toNat_natCast] at hi
      obtain ⟨z, hz, hz2⟩ := atI_rng hi
      refine ⟨_, tgt_name, ev_like (ev_ixL (ev_var rfl) (ev_var rfl) hz2) (ev_ixL (ev_var rfl) (ev_var rfl) hz2) rfl (okAll_get ha hz)⟩
/-! ### a law's loop -/
end
end U


end
section
/-! Own exception classes over any of four built-in bases, their __init__ walked as a def. -/
namespace U
open PySem PySem.W PyProof.Rows L2 Evl
structure OxC (K : Fg) (C : Addr) (B newId initId : String) (bmB : List Value) : Prop where
  fb : ExcBaseFacts B newId initId bmB
  sf : StoreFacts B bmB "object.__setattr__" "object"
  ov : excOver K C bmB = true
  mkC : excInitIn K C bmB newId = true
  hd : hasDictIn K C = true
  sa : findIn K (.ref C) "__setattr__" = some (some (.builtin "object.__setattr__"))
  exC : subIn K (.ref C) (.type "BaseException") = some true
  tyC : typeIn K (.ref C) = some (.type "type")
  kC : keepIn K (.ref C) = true
section
open Builtin Builtin.ObjectAttr
variable {prog : Program} {w : World} {A : Around} {R : Result → Shared → Prop} {hp : Heap} {g : Array GenState} {d : Drawn} {t : Nat} {os : OsState} {K : Fg} {C x : Addr} {B newId initId : String} {bmB : List Value} {name : Str} {tk : Tok} {v : Value} {fv : Array Value}
theorem taker_none (h : findIn K (.ref C) name = some none) : takerIn K C name = some none := by
  unfold takerIn
  rw [h]
  rfl
theorem has_dict (h : hasDictIn K C = true) : ∃ cd, clsIn K C = some cd ∧ cd.hasDict = true := by
  unfold hasDictIn at h
  cases e : clsIn K C with
  | none => rw [e] at h; cases h
  | some cd => rw [e] at h; exact ⟨cd, rfl, h⟩
/-- the first field of an exception that has no dict yet -/
theorem osa_first (T : OxC K C B newId initId bmB) (X : K.In hp) (hx : hp.get? x = some { cls := .ref C, data := .fields fv }) (ha : findIn K (.ref C) name = some none)
    (hq : ∀ h' tk' dx, (∀ b o, b ≠ x → hp.get? b = some o → h'.get? b = some o) → hp.objs.size ≤ dx → dx ≠ x →
      h'.get? x = some { cls := .ref C, dict := some dx, data := .fields fv } → h'.Ns1 dx (fun y => if y = name then some v else none) → R (.ok (.ret .none)) ⟨h', g, d, tk', os⟩) :
    codeAny (model prog w) A (.call (.builtin "object.__setattr__") ⟨[.ref x, .str name tk, v], []⟩) R ⟨hp, g, d, t, os⟩ := by
  have I : InstAt hp x { cls := .ref C, data := .fields fv } C none := ⟨hx, rfl, rfl, trivial⟩
  have hxs : x ≠ hp.objs.size := Nat.ne_of_lt (Heap.lt_size hx)
  obtain ⟨cd, hcd, hh⟩ := has_dict T.hd
  have hcls : Looks (model prog w) hp (classData C) cd := looks_clsIn X hcd
  refine osa_openX (s := ⟨hp, g, d, t, os⟩) T.sf X I T.ov (taker_none ha) fun b => ?_
  obtain ⟨nm, bs, mro, ns, qn, hdv, sn, sb, ab, col, del⟩ := cd
  dsimp only at hh
  subst hh
  show wpAny _ _ (storeInOwnDict (.ref x) (.ref C) (.str name tk) name v b) _ _ _
  unfold storeInOwnDict ownDictForStores
  cases b <;>
  repeat (first | with_reducible refine HandSPX.store_in_new ?_ ?_ | with_reducible refine wpAny_loadPart_at hx ?_ | with_reducible refine hcls.at ?_ | wp_step)
  case' false.h.h.h.hq.refine_1 => skip
  all_goals first
    | exact ⟨_, #[], _, (Heap.get?_update_ne _ _ _ _ hxs.symm).trans (Heap.get?_push_at rfl rfl), rfl, (fun e he => absurd he (by simp)), (fun _ => rfl)⟩
    | (intro h2 tk2 hn2 hs2
       have hx1 : (hp.push { cls := .type "dict", data := .dict #[] }).get? x = some ⟨.ref C, none, .fields fv, #[]⟩ := Heap.get?_push_of_some _ hx
       refine hq h2 tk2 hp.objs.size (fun b o hb ho => ?_) (Nat.le_refl _) hxs.symm ?_ hn2
       · have e1 := hs2.2 b (Nat.ne_of_lt (Heap.lt_size ho))
         exact e1.trans ((Heap.get?_update_ne _ _ _ _ hb).trans (Heap.get?_push_of_some _ ho))
       · have e1 := hs2.2 x hxs
         exact e1.trans (Heap.get?_update_self _ hx1 rfl))
/-- a further field -/
theorem osa_more {dx : Addr} {m0 : Str → Option Value} {nl : List Str} (T : OxC K C B newId initId bmB) (X : K.In hp) (hx : hp.get? x = some { cls := .ref C, dict := some dx, data := .fields fv }) (ha : findIn K (.ref C) name = some none)
    (hns : hp.Ns1 dx m0) (hw : Within m0 nl) (hz : nl.length ≤ 1000)
    (hq : ∀ h' tk', (∀ b o, b ≠ dx → hp.get? b = some o → h'.get? b = some o) → h'.Ns1 dx (fun y => if y = name then some v else m0 y) →
      R (.ok (.ret .none)) ⟨h', g, d, tk', os⟩) :
    codeAny (model prog w) A (.call (.builtin "object.__setattr__") ⟨[.ref x, .str name tk, v], []⟩) R ⟨hp, g, d, t, os⟩ := by
  obtain ⟨oD, esD, epD, hoD, hdD, _⟩ := hns.count hw
  have I : InstAt hp x { cls := .ref C, dict := some dx, data := .fields fv } C (some oD) := ⟨hx, rfl, rfl, hoD⟩
  obtain ⟨cd, hcd, hh⟩ := has_dict T.hd
  have hcls : Looks (model prog w) hp (classData C) cd := looks_clsIn X hcd
  refine osa_openX (s := ⟨hp, g, d, t, os⟩) T.sf X I T.ov (taker_none ha) fun b => ?_
  obtain ⟨nm, bs, mro, ns, qn, hdv, sn, sb, ab, col, del⟩ := cd
  dsimp only at hh
  subst hh
  show wpAny _ _ (storeInOwnDict (.ref x) (.ref C) (.str name tk) name v b) _ _ _
  unfold storeInOwnDict ownDictForStores
  cases b <;>
  repeat (first | with_reducible refine OEX.store_in_old hns hw hz ?_ | with_reducible refine wpAny_loadPart_at hx ?_ | with_reducible refine hcls.at ?_ | wp_step)
  all_goals
    intro h2 tk2 hn2 hs2
    exact hq h2 tk2 (fun b o hb ho => (hs2.2 b hb).trans ho) hn2
end
section
variable {X : Cx} {pins : List (Addr × Obj)} {σ : St} {H : Hp} {s : Shared} {a C dx : Addr} {f : Str} {y : V} {u : Value} {fs : List (Str × V)} {Q : Unit → Shared → Prop} {E : Value → Shared → Prop} {A : Around} {B newId initId : String} {bmB : List Value}
theorem ox_new (T : OxC X.K C B newId initId bmB) (I : Inv X pins σ H s) (e : H a = some (exo a C none)) (hno : findIn X.K (.ref C) f = some none) (ry : RelV y u)
    (h : ∀ dx s', H dx = none → dx ≠ a → Inv X pins σ (upd (upd H dx (exd dx [(f, y)])) a (exo a C (some dx))) s' → Q () s') :
    wpAny (model X.prog X.w) A (setAttr (.ref a) f u) Q E s := by
  obtain ⟨t1, ho⟩ := exo_at I.hok e
  obtain ⟨hp, g, d, t, os⟩ := s
  refine set_plain I.kIn (od := none) ⟨ho, rfl, rfl, trivial⟩ T.sa ?_
  refine osa_first T I.kIn ho hno fun h2 tk2 dx k dn dne hx hn => ?_
  have hnd : H dx = none := I.hok.fresh dn
  have nd : ∀ {b : Addr} {o : Obj}, hp.get? b = some o → b ≠ dx := fun {b o} q =>
    Nat.ne_of_lt (Nat.lt_of_lt_of_le (Heap.lt_size q) dn)
  have na : ∀ {b : Addr}, H b = none → b ≠ a := fun {b} n z => by
    subst z
    rw [e] at n
    cases n
  have un : Un X.fs [] H (upd (upd H dx (exd dx [(f, y)])) a (exo a C (some dx))) hp h2 := by
    refine ⟨fun b o q n _ _ => k b o (na n) q, fun b o q n _ _ => ⟨o.slots, k b o (na n) q⟩, fun b o q n _ => ?_, fun b o q _ => ?_, fun b xs q => ?_, fun b o v q => ?_, fun b ps q => ⟨#[], ?_⟩⟩
    · rw [upd_ne (na n), upd_ne (nd q)]
      exact n
    · by_cases hb : b = a
      · subst hb
        exact ⟨_, hx⟩
      · exact ⟨o, k b o hb q⟩
    · rw [upd_ne (at_ne e q exo_tup), upd_ne (ne_of_none q hnd)]
      exact q
    · rw [upd_ne (at_ne e q exo_frz), upd_ne (ne_of_none q hnd)]
      exact q
    · rw [upd_ne (at_ne e q exo_tbl), upd_ne (ne_of_none q hnd), q]
      simp
  refine h dx _ hnd dne (I.un (t' := tk2) un fun b o q => ?_)
  by_cases hb : b = a
  · subst hb
    rw [upd_same] at q
    cases q
    exact exo_ok hx
  rw [upd_ne hb] at q
  by_cases hd : b = dx
  · subst hd
    rw [upd_same] at q
    cases q
    exact exd_ok hn (relO_put (fs := []) ry fun _ => True.intro)
  rw [upd_ne hd] at q
  refine (I.hok b o q).stay (fun c v hc z => k c v ?_ z) (fun c hc => ?_) (fun c xs hc => ?_)
  · rcases hc with rfl | hc
    · exact hb
    · exact at_ne e hc exo_own
  · rw [upd_ne (at_ne e hc exo_own), upd_ne (ne_of_none hc hnd)]
    exact hc
  · rw [upd_ne (at_ne e hc exo_tup), upd_ne (ne_of_none hc hnd)]
    exact hc
theorem ox_old (T : OxC X.K C B newId initId bmB) (I : Inv X pins σ H s) (e : H a = some (exo a C (some dx))) (ed : H dx = some (exd dx fs)) (hl : fs.length ≤ 900) (hno : findIn X.K (.ref C) f = some none) (ry : RelV y u)
    (h : ∀ s', Inv X pins σ (upd H dx (exd dx ((f, y) :: fs))) s' → Q () s') :
    wpAny (model X.prog X.w) A (setAttr (.ref a) f u) Q E s := by
  obtain ⟨t1, ho⟩ := exo_at I.hok e
  obtain ⟨mA, hns, rel⟩ := exd_at I.hok ed
  have hw := within_of rel
  obtain ⟨hp, g, d, t, os⟩ := s
  obtain ⟨oD, _, _, hoD, _, _⟩ := hns.count hw
  refine set_plain I.kIn (od := some oD) ⟨ho, rfl, rfl, hoD⟩ T.sa ?_
  refine osa_more T I.kIn ho hno hns hw (by rw [List.length_map]; omega) fun h2 tk2 k hn => ?_
  have hd : ∃ o, h2.get? dx = some o := by
    obtain ⟨o, _, _, e2, _⟩ := hn
    exact ⟨o, e2⟩
  exact h _ (I.write (t' := tk2) (x := dx) (e := dx) (by rw [ed]; exact True.intro) (.inl rfl) k hd (exd_ok hn (relO_put ry rel)))
/-- what is promised by an own exception's class -/
structure OxK (K : Fg) (C : Addr) : Prop where
  ex : ∃ B newId initId bmB, OxC K C B newId initId bmB
/-- self.f = e, upon an exception that is being made -/
def tOx (K : Fg) (f : Str) (to te : TE) : TS := fun D σ H => te σ H fun y H1 => to σ H1 fun x H2 => ∃ a C : Addr, x = .ref a ∧ OxK K C ∧ findIn K (.ref C) f = some none ∧
  ((H2 a = some (exo a C none) ∧ ∀ dx, H2 dx = none → dx ≠ a → D.nx σ (upd (upd H2 dx (exd dx [(f, y)])) a (exo a C (some dx)))) ∨
    ∃ (dx : Addr) (fs : List (Str × V)), H2 a = some (exo a C (some dx)) ∧ H2 dx = some (exd dx fs) ∧ fs.length ≤ 900 ∧ D.nx σ (upd H2 dx (exd dx ((f, y) :: fs))))
/-- C(e, ..), C's own __init__ keeping sp -/
def tMkX (C : Addr) (sp : Sp) (dvs : List V) (ta : TA) : St → Hp → XK → Prop := fun σ H Q => ta σ H fun vs H1 => vs.length ≤ 1000 ∧ ∀ a, H1 a = none →
  sp (.ref a :: (vs ++ dvs)) (upd H1 a (exo a C none)) (fun v H2 => v = .non ∧ ∃ (d : Addr) (fs : List (Str × V)), H2 a = some (exo a C (some d)) ∧ H2 d = some (exd d fs) ∧ H1 d = none ∧
    Q (.ref C) (some d) (upd (del H2 a) d (.xd fs))) (fun _ _ _ => False)
end
section
variable {X : Cx} {o e : Expr} {es : List Expr} {to te : TE} {ta : TA} {f : Str} {p p' p1 p2 pos : Pos}
theorem ps_ox (ho : PE X o to) (he : PE X e te) (hs : swapsWith e (some (.Attribute o f p')) pos.line X.env = pure false := by rfl) :
    PS X (.Assign [.Attribute o f p'] e pos) (tOx X.K f to te) := by
  refine ⟨fun pins s σ H D I h => ?_⟩
  refine plainObj_wpAny_Assign_Attribute (thn (he.run pins s σ H _ I h) fun v s1 hh => ?_) hs
  obtain ⟨y, H1, I1, r1, q1⟩ := hh
  refine thn (ho.run pins s1 σ H1 _ I1 q1) fun u s2 hh => ?_
  obtain ⟨x, H2, I2, r2, a, C, ex, T, hno, q⟩ := hh
  subst ex
  obtain rfl : u = Value.ref a := r2
  obtain ⟨B, n1, n2, bm, T⟩ := T.ex
  rcases q with ⟨ea, q⟩ | ⟨dx, fs, ea, ed, hl, q⟩
  · exact ox_new T I2 ea hno r1 fun dx s' n ne J => ⟨σ, _, J, q dx n ne⟩
  · exact ox_old T I2 ea ed hl hno r1 fun s' J => ⟨σ, _, J, q⟩
/-- the call of the class, once the arguments are there -/
theorem made_ox {CX : CXT} {C fI : Addr} {k : Nat} {fd : FuncData} {ps : List Str} {sp : Sp} {ds : List Value} {dvs vs : List V} {us : List Value} {pins : List (Addr × Obj)} {σ : St} {H : Hp} {s : Shared} {Q : XK} (T : OxK X.K C)
    (iC : findIn X.K (.ref C) "__init__" = some (some (.ref fI))) (tI : typeIn X.K (.ref fI) = some (.type "function")) (F1 : FnOk X.prog X.w X.K X.mg X.base CX k fI fd ps sp) (hr : Room (k + 1) X.A) (hb : Binds X.K fd ps ds) (hd : Vals dvs ds)
    (hx : Passes CX X (fun _ _ _ => False)) (I : Inv X pins σ H s) (r1 : Vals vs us) (hz : vs.length ≤ 1000)
    (h : ∀ a, H a = none → sp (.ref a :: (vs ++ dvs)) (upd H a (exo a C none)) (fun v H2 => v = .non ∧ ∃ (d : Addr) (fs : List (Str × V)), H2 a = some (exo a C (some d)) ∧ H2 d = some (exd d fs) ∧ H d = none ∧
      Q (.ref C) (some d) (upd (del H2 a) d (.xd fs))) (fun _ _ _ => False)) :
    wpAny (model X.prog X.w) X.A (call (.ref C) us) (MkP X pins σ Q) X.xe s := by
  obtain ⟨B, n1, n2, bm, T⟩ := T.ex
  obtain ⟨hp, g, dr, tk, os⟩ := s
  obtain ⟨nm, N', qn, bs, bm', hdct, sn, sub, ab, col, dd, k0, k1, k2, k3, k5, hC, hT⟩ := excInit_of I.kIn T.mkC
  have hsz : hp.objs.size ≤ hp.objs.size + 1 := Nat.le_succ _
  have hn : H (hp.objs.size + 1) = none := I.hok.fresh hsz
  have hq := h (hp.objs.size + 1) hn
  have kk : ∀ b o, hp.get? b = some o → ((hp.push (kdv_tup us)).push (HandSPX.excO C hp.objs.size)).get? b = some o := fun b o e =>
    Heap.get?_push_of_some _ (Heap.get?_push_of_some _ e)
  have hget : ((hp.push (kdv_tup us)).push (HandSPX.excO C hp.objs.size)).get? (hp.objs.size + 1) = some (HandSPX.excO C hp.objs.size) := by heap_get
  have I2 := I.laid (t' := tk) (a := hp.objs.size + 1) (o := exo (hp.objs.size + 1) C none) (h' := (hp.push (kdv_tup us)).push (HandSPX.excO C hp.objs.size)) kk hsz (exo_ok hget)
  have r2 : Vals (V.ref (hp.objs.size + 1) :: (vs ++ dvs)) (Value.ref (hp.objs.size + 1) :: (us ++ ds)) := .cons rfl (r1.append hd)
  have hl : (Value.ref (hp.objs.size + 1) :: us ++ ds).length = ps.length := by
    rw [← F1.len _ _ _ _ hq]
    exact r2.length.symm
  have hus : us.length ≤ sizeLine := by
    rw [← Paired.length r1, sizeLine_eq]
    omega
  refine wpAny_call (HandSPX.call_own T.fb hT hC (looks_findIn I.kIn iC) (fun self => bind_fn I.kIn self tI) hus ?_)
  refine codeAny_mono (F1.run _ X.stack _ _ ⟨Value.ref (hp.objs.size + 1) :: us, []⟩ (Value.ref (hp.objs.size + 1) :: (us ++ ds)) _ _ (fun _ _ _ => False) (hr.make C us []) (I2.env0.make C us []) (hb _ _ I2.kIn hl) r2 hq) fun r s' hq' => ?_
  cases r with
  | error er => exact hx pins σ _ _ er s' I2 hq'
  | ok fl =>
    cases fl with
    | ret u =>
      obtain ⟨v, H2, os2, bare2, un2, hok2, rv, ev, d, fs, ea, ed, hd1, q2⟩ := hq'
      subst ev
      obtain ⟨h2, g2, d2, t2, os'⟩ := s'
      exact ⟨rv, mk_end (raises_own T.exC T.tyC) I hsz kk un2 hok2 os2 bare2 ea ed hd1 q2⟩
    | next => exact False.elim hq'
    | brk => exact False.elim hq'
    | cont => exact False.elim hq'
theorem pmk_ox0 {CX : CXT} {x : Str} {C fI : Addr} {k : Nat} {fd : FuncData} {ps : List Str} {sp : Sp} {ds : List Value} {dvs : List V} (T : OxK X.K C) (kC : keepIn X.K (.ref C) = true)
    (iC : findIn X.K (.ref C) "__init__" = some (some (.ref fI))) (tI : typeIn X.K (.ref fI) = some (.type "function")) (F1 : FnOk X.prog X.w X.K X.mg X.base CX k fI fd ps sp) (hr : Room (k + 1) X.A) (hb : Binds X.K fd ps ds) (hd : Vals dvs ds)
    (hx : Passes CX X (fun _ _ _ => False)) (hg : Gl X x) (hm : X.mg x = some (.ref C)) (hdb : (x == ("__debug__" : Str)) = false := by decide) :
    PMk X (.Call (.Name x p) [] [] pos) (tMkX C sp dvs tNil) := by
  intro pins s σ H Q I h
  refine wpAny_Call_Name_kw (ld_glob I hg hm ?_ hdb)
  exact callWith_K0 I.kIn kC (made_ox (us := []) (vs := []) T iC tI F1 hr hb hd hx I .nil (by show 0 ≤ 1000; decide) h.2)
end
end U

end
section
/-! Raising, over data: promises of defs that may raise, judgements of what raises, try .. except .. as. -/
namespace U
open PySem PyProof.Rows L2 Evl
/-- an exception: its class's name, its fields -/
structure Xw where
  cls : Str
  fs : List (Str × V)
abbrev Cs := Str → Addr
/-- a def's promise that may raise -/
def spX (K : Fg) (cs : Cs) (P : List PyData → Except Xw PyData → Prop) : Sp := fun vs H Q E => ∃ (W : Addr → Prop) (ds : List PyData) (r : Except Xw PyData), (∀ a, W a → ∃ o, H a = some o) ∧ DpAll K (less H W) vs ds ∧ P ds r ∧
  match r with
  | .ok x => ∀ v H', Ex H H' → Dp K (less H' W) v x → Q v H'
  | .error e => ∀ d H', Ex H H' → H d = none → H' d = some (.xd e.fs) → E (.ref (cs e.cls)) (some d) H'
def SX (K : Fg) (cs : Cs) (W : WX) (ts : TS) (G : Gam) (s : Bag) (e : Xw) (G' : Gam) (s' : Bag) : Prop :=
  ∀ Wd B ad H0 H σ (D : Ends), Sta K Wd B ad H0 H σ G s → (∀ d ad' H' σ', Sta K Wd B ad' H0 H' σ' G' s' → Ex (less H (Zs Wd B ad G)) (less H' (Zs Wd B ad' G')) → H0 d = none → H' d = some (.xd e.fs) → W (.ref (cs e.cls)) (some d) σ' H') → ts D σ H
section
variable {K : Fg} {cs : Cs} {W : WX} {G G' G1 G2 : Gam} {s s1 s2 s3 s' : Bag} {ta tb tc te : TE} {t u : TT} {x y z : PyData} {tu tw tz : TS} {o : Out} {e : Xw}
theorem ev_callX {P : List PyData → Except Xw PyData → Prop} {ta : TA} {ds : List PyData} {dvs : List V} {des : List PyData} {E : St → XK} (h : EvA K ta G s ds s') (hd : ∀ H, DpAll K H dvs des) (hp : P (ds ++ des) (.ok x)) : EvG K (tCallSD (spX K cs P) dvs E ta) G s x s' := fun W B ad H0 H σ S Q q =>
  h W B ad H0 H σ S _ fun vs H1 S1 e1 d1 => ⟨Zs W B ad G, ds ++ des, .ok x, S1.there, dpa_app d1 (hd _), hp, fun v H' e d => q v H' (S1.ext e) (e1.trans (.of e)) d⟩
theorem sx_seq1 (h : SX K cs W tu G s e G' s') : SX K cs W (tSeq tu tz) G s e G' s' := fun Wd B ad H0 H σ D S k => h Wd B ad H0 H σ _ S k
theorem sx_ifT (h : EvT K t G s true s1) (h2 : SX K cs W tu G s1 e G' s') : SX K cs W (tIfS t tu tw) G s e G' s' := fun Wd B ad H0 H σ D S k =>
  h Wd B ad H0 H σ S _ fun H1 S1 e1 => iteT (h2 Wd B ad H0 H1 σ D S1 fun d ad' H' σ' S' e' => k d ad' H' σ' S' (e1.l.trans e'))
theorem sx_whenT (h : EvT K t G s true s1) (h2 : SX K cs W tu G s1 e G' s') : SX K cs W (tSeq (tIfS t tu tNext) tz) G s e G' s' := sx_seq1 (sx_ifT h h2)
/-! ### raise C(..) -/
/-- what an own exception's __init__ promises: its fields by its arguments -/
def spIn (K : Fg) (nm : List Str) (g : List V → Option (List (Str × V))) : Sp := fun vs H Q _ => ∃ (a C : Addr) (ws : List V) (fs : List (Str × V)), vs = .ref a :: ws ∧ H a = some (exo a C none) ∧ OxK K C ∧ (∀ n ∈ nm, PySem.W.findIn K (.ref C) n = some none) ∧ g ws = some fs ∧
  ∀ d H', H d = none → H' a = some (exo a C (some d)) → H' d = some (exd d fs) → (∀ b, b ≠ a → b ≠ d → H' b = H b) → Q .non H'
def tRaiseX (C : Addr) (sp : Sp) (dvs : List V) (ta : TA) (W : WX) : TS := fun _ σ H => tMkX C sp dvs ta σ H fun cls d H' => W cls d σ H'
theorem mk_read {C : Addr} {nm : List Str} {g : List V → Option (List (Str × V))} {dvs : List V} {ta : TA} {σ : St} {H : Hp} {Q : XK} {fs : List (Str × V)} (ox : OxK K C) (hn : ∀ n ∈ nm, PySem.W.findIn K (.ref C) n = some none)
    (h : ta σ H fun vs H1 => vs.length ≤ 1000 ∧ g (vs ++ dvs) = some fs ∧ ∀ d, H1 d = none → Q (.ref C) (some d) (upd H1 d (.xd fs))) (mono : ∀ (Q1 Q2 : List V → Hp → Prop), (∀ vs H1, Q1 vs H1 → Q2 vs H1) → ta σ H Q1 → ta σ H Q2) : tMkX C (spIn K nm g) dvs ta σ H Q := by
  refine mono _ _ (fun vs H1 hq => ?_) h
  obtain ⟨hl, hg, q⟩ := hq
  refine ⟨hl, fun a ha => ⟨a, C, vs ++ dvs, fs, rfl, upd_same, ox, hn, hg, fun d H2 hd h1 h2 h3 => ?_⟩⟩
  have hda : d ≠ a := fun z => by rw [z, upd_same] at hd; cases hd
  rw [upd_ne hda] at hd
  refine ⟨rfl, d, fs, h1, h2, hd, ?_⟩
  have e : upd (del H2 a) d (.xd fs) = upd H1 d (.xd fs) := by
    funext b
    by_cases hb : b = d
    · rw [hb, upd_same, upd_same]
    · rw [upd_ne hb, upd_ne hb]
      by_cases ha2 : b = a
      · rw [ha2, del_same, ha]
      · rw [del_ne ha2, h3 b ha2 hb, upd_ne ha2]
  rw [e]
  exact q d hd
/-- raise C() -/
theorem sx_raise0 {c : Str} {nm : List Str} {g : List V → Option (List (Str × V))} {fs : List (Str × V)} (ox : OxK K (cs c)) (hn : ∀ n ∈ nm, PySem.W.findIn K (.ref (cs c)) n = some none) (hg : g [] = some fs) : SX K cs W (tRaiseX (cs c) (spIn K nm g) [] tNil W) G s ⟨c, fs⟩ G s := fun Wd B ad H0 H σ D S k => by
  refine mk_read ox hn ⟨by show 0 ≤ 1000; decide, hg, fun d hd => ?_⟩ (fun Q1 Q2 m h => m _ _ h)
  have e : Ex H (upd H d (.xd fs)) := Ex.new hd
  exact k d ad _ σ (S.ext e) (less_mono e) (S.fresh hd).1 upd_same
end
section
variable {Pg : Program} {w : World} {K : Fg} {mg : Str → Option Value} {base : Heap} {cs : Cs}
/-- what a def that may raise is read to do -/
def RdX (K : Fg) (cs : Cs) (W : WX) (t : TS) (G : Gam) (b : Bag) : Except Xw PyData → Prop
  | .ok x => SG K t G b (.rt x b)
  | .error e => ∃ G', SX K cs W t G b e G' b
/-- a def's own wish -/
abbrev WD (E : XK) : WX := fun cls d _ H => E cls d H
end
/-! ### try .. except C as why -/
section
variable {K : Fg} {cs : Cs} {G G' G1 : Gam} {s s1 s' : Bag} {x : PyData} {e : Xw}
def tTryAs (K : Fg) (c : Value) (i : Nat) (tb : WX → TS) (ts : Addr → Value → Option Addr → TS) : TS := fun D σ H => tb (wAs K c i ts (fun _ _ _ _ => False) D) D σ H
end
end U

end
section
/-! Defs with defaults and keyword-only parameters; the refusals' own __init__. -/
namespace U
open PySem PyProof.Rows L2 Evl
section
variable {Pg : Program} {w : World} {K : Fg} {mg : Str → Option Value} {base : Heap} {cs : Cs}
theorem okXD {x qual : Str} {st : Stmt} {dvs : List V} {kws : List (Str × V)} {f : Addr} {fd : FuncData} {N ps : List Str} {k : Nat} {P : List PyData → Except Xw PyData → Prop} (F : FunD K x qual (defArgs st) (defBody st) (defScope st) dvs kws f fd) (S : FnScope N ps (defScope st)) (hl : ∀ ds r, P ds r → ds.length = ps.length)
    (hb : ∀ ds r, P ds r → ∀ (cdv : Value) (A : Around) (outer : List Env) (sh : Shared) (H : Hp) (E : XK), Room k (A.deeper (envOfC qual (defScope st) sh.heap.objs.size f cdv)) →
      ∃ t, PSs (cxOf (L2.CX Pg w) Pg w K mg base N qual (defScope st) f cdv A outer sh H E) (defBody st) t ∧ ∀ b, RdX K cs (WD E) t (frame N.length ds) b r) :
    FnOk Pg w K mg base (L2.CX Pg w) (k + 1) f fd ps (spX K cs P) := by
  refine F.ok S (fun vs H Q E h => ?_) (fun cdv A outer sh H vs Q E hr h => ?_)
  · obtain ⟨W, ds, r, _, hd, hp, _⟩ := h
    rw [dpa_len hd]
    exact hl ds r hp
  · obtain ⟨W, ds, r, hW, hd, hp, q⟩ := h
    obtain ⟨t, ht, g⟩ := hb ds r hp cdv A outer sh H E hr
    refine ⟨t, ht, ?_⟩
    have nb : ∀ a, ¬ InB none a := fun a ⟨_, _, z, _⟩ => by cases z
    have S0 := sta0 (N := N) hW hd ⟨[], 0, 0⟩
    cases r with
    | ok x => exact g ⟨[], 0, 0⟩ W none (fun _ => 0) H H _ _ S0 fun v H' e _ d => q v H' (fun a o h => e a o h (nb a)) (dp_mono (less_sub fun a z => .inl z) d)
    | error e =>
      obtain ⟨G', g⟩ := g ⟨[], 0, 0⟩
      exact g W none (fun _ => 0) H H _ _ S0 fun d ad' H' σ' S' _ hn hx => q d H' (fun a o h => S'.base a o h (nb a)) hn hx
/-- all given though there are defaults -/
theorem binds_all {x qual : Str} {params : Arguments} {body : List Stmt} {scope : Scope} {dvs : List V} {kws : List (Str × V)} {f : Addr} {fd : FuncData} {ps : List Str} (F : FunD K x qual params body scope dvs kws f fd) (hd : dvs ≠ [])
    (h : ∀ (T : Addr) (kV doc pm : Value) (an : Option Addr) (cdv ct : Value) (us its : List Value), us.length = ps.length → its.length = dvs.length →
      ∃ k, bindArgs (PySem.W.fnOf x qual params body scope (.ref T) kV doc pm an cdv ct) ⟨us, []⟩ = seqItems? (.ref T) >>= k ∧ k (some its.toArray) = pure (ps.zip us)) : Binds K fd ps [] := by
  obtain ⟨ds, r, b⟩ := F.binds1 (ps := ps) ps.length dvs.length hd (by omega) (fun T kV doc pm an cdv ct us its l1 l2 => by
    obtain ⟨k, e1, e2⟩ := h T kV doc pm an cdv ct us its l1 l2
    refine ⟨k, e1, ?_⟩
    rw [e2, List.drop_eq_nil_of_le (by omega), List.append_nil])
  rw [List.drop_eq_nil_of_le (Nat.le_refl _)] at r
  cases r
  exact b
end
section
variable {K : Fg} {cs : Cs} {W : WX} {G G' G1 G2 : Gam} {s s1 s2 s3 s' : Bag} {ta tb tc te : TE} {t u : TT} {x y z : PyData}
end
/-! ### Flat -/
abbrev gFlat : List V → Option (List (Str × V)) := fun ws => match ws with
  | [] => some [("word", .str "Flat")]
  | _ => none
def t_Flat (K : Fg) : TS := tOx K "word" (tVar 0) (tC (V.str "Flat"))
theorem rd_Flat {K : Fg} {a C : Addr} {H : Hp} {D : Ends} (ha : H a = some (exo a C none)) (ox : OxK K C) (hn : PySem.W.findIn K (.ref C) "word" = some none)
    (q : ∀ d H', H d = none → H' a = some (exo a C (some d)) → H' d = some (exd d [("word", .str "Flat")]) → (∀ b, b ≠ a → b ≠ d → H' b = H b) → D.nx [some (.ref a)] H') : t_Flat K D [some (.ref a)] H := by
  refine ⟨.ref a, rfl, a, C, rfl, ox, hn, .inl ⟨ha, fun d hd hda => ?_⟩⟩
  refine q d _ hd upd_same (by rw [upd_ne hda, upd_same]) fun b h1 h2 => by rw [upd_ne h1, upd_ne h2]
theorem okFlat {Pg : Program} {w : World} {K : Fg} {mg : Str → Option Value} {base : Heap} {st : Stmt} {qual : Str} {f : Addr} {fd : FuncData} {k : Nat} (F : Fun K "__init__" qual st f fd) (S : FnScope ["self"] ["self"] (defScope st))
    (hb : ∀ (cdv : Value) (A : Around) (outer : List Env) (sh : Shared) (H : Hp) (E : XK), PSs (cxOf CX0 Pg w K mg base ["self"] qual (defScope st) f cdv A outer sh H E).nox (defBody st) (t_Flat K)) : FnOk Pg w K mg base CX0 (k + 1) f fd ["self"] (spIn K ["word"] gFlat) := by
  refine F.ok S (fun vs H Q E h => ?_) (fun cdv A outer sh H vs Q E hr h => ?_)
  · obtain ⟨a, C, ws, fs, rfl, _, _, _, hg, _⟩ := h
    cases ws with
    | nil => rfl
    | cons _ _ => cases hg
  · obtain ⟨a, C, ws, fs, rfl, ha, ox, hn, hg, q⟩ := h
    cases ws with
    | cons _ _ => cases hg
    | nil =>
      cases hg
      exact ⟨_, hb cdv A outer sh H E, rd_Flat ha ox (hn _ (List.mem_singleton.mpr rfl)) q⟩
abbrev xFlat : Xw := ⟨"Flat", [("word", .str "Flat")]⟩
abbrev W0 : WX := fun _ _ _ _ => False
end U

end
section
namespace U
open PySem PyProof.Rows L2 Evl
/-- what is told of an own exception class by its name -/
structure ClsF (K : Fg) (cs : Cs) (c : Str) (nm : List Str) : Prop where
  ox : OxK K (cs c)
  no : ∀ n ∈ nm, PySem.W.findIn K (.ref (cs c)) n = some none
section
variable {K : Fg}
theorem fund_mk {x qual : Str} {st : Stmt} {f T : Addr} {oc ot : Value} {od odt an : Option Addr} {osl osT : Array (Option Value)} {kV doc pm cdv ct : Value} {its : List Value} {n : Nat} {dvs : List V}
    (l : K.lookup f = some ⟨oc, od, .func (PySem.W.fnOf x qual (defArgs st) (defBody st) (defScope st) (.ref T) kV doc pm an cdv ct), osl⟩)
    (c : PySem.W.codeIn K cdv qual = true) (k : PySem.W.keepIn K (.ref f) = true) (t : K.lookup T = some ⟨ot, odt, .seq its.toArray n, osT⟩) (r : Vals dvs its) (hd : dvs ≠ []) :
    FunD K x qual (defArgs st) (defBody st) (defScope st) dvs [] f (PySem.W.fnOf x qual (defArgs st) (defBody st) (defScope st) (.ref T) kV doc pm an cdv ct) :=
  ⟨⟨oc, od, _, kV, doc, pm, an, cdv, ct, osl, rfl, l, c, .inr ⟨hd, T, _, its, n, rfl, t, rfl, r⟩, .inl rfl⟩, k⟩
/-- exmOne of own classes -/
theorem em_of {C : Addr} {cls : Value} {b : Bool} (h1 : PySem.W.subIn K (.ref C) (.type "BaseException") = some true) (hdct : PySem.W.hasDictIn K C = true) (ht : PySem.W.typeIn K (.ref C) = some (.type "type")) (h4 : PySem.W.subIn K cls (.ref C) = some b) : PySem.W.exmOne K cls (.ref C) = some b := PySem.W.exm_ref h1 hdct ht h4
end
end U

end
section
/-! Own exceptions whose __init__ calls the base class's own. -/
namespace U
open PySem PySem.W PyProof.Rows L2 Evl
/-- C.m(e, ..), C an own class, m a plain def of it -/
theorem pe_up {X : Cx} {CX : CXT} {k : Nat} {x m : Str} {C g : Addr} {mc : Value} {fd : FuncData} {ps : List Str} {sp : Sp} {E : XK} {ds : List Value} {dvs : List V} {e : Expr} {es : List Expr} {t : TA} {p pos apos : Pos} {pl : Sem Bool}
    (hg : Gl X x) (hm : X.mg x = some (.ref C)) (rd : readsIn X.K C mc = true) (ga : specialIn X.K (.ref C) "__getattribute__" = some (some (.builtin "type.__getattribute__"))) (fa : findCls X.K (.ref C) mc m = some (.val (.ref g)))
    (hk : keepIn X.K (.ref g) = true) (F : FnOk X.prog X.w X.K X.mg X.base CX k g fd ps sp) (hr : Room k X.A) (hb : Binds X.K fd ps ds) (hd : Vals dvs ds) (hx : Passes CX X E) (ha : PA X (e :: es) t) (hdb : (x == ("__debug__" : Str)) = false := by decide)
    (ht : eval (.Call (.Attribute (.Name x p) m apos) (e :: es) [] pos) X.env = (do
      let ov ← eval (.Name x p) X.env
      standAt apos.atName
      let (f, first) ← holding [ov] (getMethod ov m pl)
      callWith pos f first (backTo pos (starEach (e :: es) X.env)) (backToKw pos (keywordEach [] X.env))) := by rfl)
    (he : starEach (e :: es) X.env = (false, eval e X.env) :: starEach es X.env := by rfl) (hpl : (backTo pos (starEach es X.env)).any (·.1) = false := by rfl) :
    PE X (.Call (.Attribute (.Name x p) m apos) (e :: es) [] pos) (tCall sp dvs E t) := by
  refine ⟨fun pins s σ H Q I h => ?_⟩
  refine methodCall_KW (pl := pl) (ld_glob I hg hm ?_ hdb) ht
  refine method_cls I.kIn ga (cls_value I.kIn rd fa rfl ?_)
  show wpAny _ _ (callWith pos (.ref g) [] (backTo pos (starEach (e :: es) X.env)) []) _ _ _
  refine callWith_K (h₀ := X.base) I.ok.mod.kin hk (thn (ha.run pos pins _ σ H _ (I.tok _) h) fun us s1 hh => ?_) he hpl
  obtain ⟨vs, H1, I1, r, q⟩ := hh
  exact ⟨I1.kIn, run_fn F hr hb hd hx I1 r q⟩
/-- self.word = word -/
abbrev gWd : List V → Option (List (Str × V)) := fun ws => match ws with
  | [v] => some [("word", v)]
  | _ => none
/-- a word that is always the same -/
abbrev gCw (w : Str) : List V → Option (List (Str × V)) := fun ws => match ws with
  | [] => some [("word", .str w)]
  | _ => none
def t_Wd (K : Fg) : TS := tOx K "word" (tVar 0) (tVar 1)
section
variable {Pg : Program} {w : World} {K : Fg} {mg : Str → Option Value} {base : Heap} {cs : Cs}
theorem okWd {st : Stmt} {qual : Str} {dvs : List V} {f : Addr} {fd : FuncData} {k : Nat} (F : FunD K "__init__" qual (defArgs st) (defBody st) (defScope st) dvs [] f fd) (S : FnScope ["self", "word"] ["self", "word"] (defScope st))
    (hb : ∀ (cdv : Value) (A : Around) (outer : List Env) (sh : Shared) (H : Hp) (E : XK), PSs (cxOf CX0 Pg w K mg base ["self", "word"] qual (defScope st) f cdv A outer sh H E) (defBody st) (t_Wd K)) : FnOk Pg w K mg base CX0 (k + 1) f fd ["self", "word"] (spIn K ["word"] gWd) := by
  refine F.ok S (fun vs H Q E h => ?_) (fun cdv A outer sh H vs Q E hr h => ?_)
  · obtain ⟨a, C, ws, fs, rfl, _, _, _, hg, _⟩ := h
    match ws, hg with
    | [v], _ => rfl
  · obtain ⟨a, C, ws, fs, rfl, ha, ox, hn, hg, q⟩ := h
    match ws, hg with
    | [v], hg =>
      cases hg
      refine ⟨_, hb cdv A outer sh H E, ?_⟩
      refine ⟨v, rfl, .ref a, rfl, a, C, rfl, ox, hn _ (List.mem_singleton.mpr rfl), .inl ⟨ha, fun d hd hda => ?_⟩⟩
      exact q d _ hd upd_same (by rw [upd_ne hda, upd_same]) fun b h1 h2 => by rw [upd_ne h1, upd_ne h2]
def t_Sub (K : Fg) (w : Str) : TS := tDrop (tCall (spIn K ["word"] gWd) [] E0 (tCons (tVar 0) (tCons (tC (V.str w)) tNil)))
theorem okSub (wd : Str) {st : Stmt} {qual : Str} {f : Addr} {fd : FuncData} {k : Nat} (F : Fun K "__init__" qual st f fd) (S : FnScope ["self"] ["self"] (defScope st))
    (hb : ∀ (cdv : Value) (A : Around) (outer : List Env) (sh : Shared) (H : Hp) (E : XK), Room k (A.deeper (envOfC qual (defScope st) sh.heap.objs.size f cdv)) → PSs (cxOf CX0 Pg w K mg base ["self"] qual (defScope st) f cdv A outer sh H E).nox (defBody st) (t_Sub K wd)) : FnOk Pg w K mg base CX0 (k + 1) f fd ["self"] (spIn K ["word"] (gCw wd)) := by
  refine F.ok S (fun vs H Q E h => ?_) (fun cdv A outer sh H vs Q E hr h => ?_)
  · obtain ⟨a, C, ws, fs, rfl, _, _, _, hg, _⟩ := h
    match ws, hg with
    | [], _ => rfl
  · obtain ⟨a, C, ws, fs, rfl, ha, ox, hn, hg, q⟩ := h
    match ws, hg with
    | [], hg =>
      cases hg
      refine ⟨_, hb cdv A outer sh H E hr, ?_⟩
      exact ⟨.ref a, rfl, a, C, [.str wd], _, rfl, ha, ox, hn, rfl, fun d H' h1 h2 h3 h4 => q d H' h1 h2 h3 h4⟩
end
abbrev xWd (c : Str) : Xw := ⟨c, [("word", .str c)]⟩
end U

end
section
namespace U
open PySem PyProof.Rows L2 Evl
/-- the values of a module's constants -/
abbrev Gs := Str → V
section
variable {K : Fg} {cs : Cs} {W : WX} {G G' G1 : Gam} {s s1 s2 s' : Bag} {ta tb te : TE} {x y : PyData} {e : Xw}
end
end U

end
section
namespace U
open PySem PySem.W PyProof.Rows L2 Evl
/-- *a, b = a tuple -/
def gStar (K : Fg) (t : TGs) : TG := fun v σ H Q => ∃ p ys x, v = .ref p ∧ SqT K H p (ys ++ [x]) ∧ ys.length ≤ 10000 ∧ ∀ l, H l = none → t [.ref l, x] σ (upd H l (.lst ys)) Q
section
variable {prog : Program} {w : World} {A : Around} {E : Value → Shared → Prop} {s : Shared}
theorem star_items {t : Addr} {items : Array Value} {Q : List Value → Shared → Prop} (hh : A.handled = none) (hl : IsTup s.heap t items) (h0 : 1 ≤ items.size) (hz : items.size ≤ 16384)
    (h : ∀ h' tk, Heap.ExtBut s.heap.objs.size s.heap h' → wpAny (model prog w) A (newList (items.toList.take (items.size - 1)) >>= fun d => pure ([d] ++ items.toList.drop (items.size - 1))) Q E { s with heap := h', toks := tk }) : wpAny (model prog w) A (unpackItems (.ref t) 2 (some 0)) Q E s := by
  have hlt : t ≠ s.heap.objs.size := by obtain ⟨o, ho, _⟩ := hl; exact Nat.ne_of_lt (Heap.lt_size ho)
  unfold unpackItems
  refine wpAny_bind ?_
  unfold notIterableAtAll
  refine wpAny_bind (wpAny_specialOf hl.typeIs slot_tuple_iter.lookup ?_)
  refine wpAny_pure ?_
  simp only [Bool.false_eq_true, if_false]
  refine wpAny_bind (wpAny_holding (iter_tuple hl ?_))
  refine wpAny_bind (wpAny_holding (draw_tuple hlt 0 0 _ _ ⟨_, Heap.get?_push_size _ rfl, rfl, rfl⟩ (hl.push _) (by omega) fun h₁ hit₁ hs₁ => ?_))
  have hl₁ : IsTup h₁ t items := (hl.push _).extBut hs₁.extBut hlt
  obtain ⟨oi, hoi, _⟩ := id hit₁
  obtain ⟨ol, hol, _⟩ := id hl₁
  rw [List.take_zero]
  rw [if_neg (by simp)]
  refine wpAny_bind (wpAny_holding (kun_collect (s := { s with heap := h₁ }) (T := "tuple_iterator") (.inr (.inr (.inr rfl))) (Walks.tuple (A := A.in1) hh s.heap.objs.size t hlt items) (fun j u st => st.1.typeIs) (k := 0) (by omega) ⟨hit₁, hl₁⟩ (Heap.lt_size hoi) (Heap.lt_size hol) (fun h₂ tk hk => ?_) (by rw [sizeLine_eq]; omega)))
  rw [List.drop_zero]
  have hrl : items.toList.length = items.size := Array.length_toList
  show wpAny _ _ (if items.toList.length < 2 - 1 - 0 then _ else _) _ _ _
  rw [if_neg (by rw [hrl]; omega)]
  have he : Heap.ExtBut s.heap.objs.size s.heap h₂ := fun b o hb e => hk b o hb (hs₁.extBut b o hb (Heap.get?_push_of_some _ e))
  have hh2 := h h₂ tk he
  rw [← hrl] at hh2
  exact hh2
end
theorem pg_star {X : Cx} {a b : Expr} {p pos : Pos} {k : Nat} {t : TGs} (hc : X.calm = true) (h : PGs X [a, b] t)
    (hn : (assignEach [.Starred a p, b] X.env).length = 2 := by rfl) (hst : (assignEach [.Starred a p, b] X.env).findIdx? (·.1) = some 0 := by rfl)
    (hm : (assignEach [.Starred a p, b] X.env).map (·.2) = (assignEach [a, b] X.env).map (·.2) := by rfl) : PG X (.Tuple [.Starred a p, b] k pos) (gStar X.K t) := by
  refine ⟨fun pins s σ H v u Q I r hw => ?_⟩
  obtain ⟨q, ys, x, e1, hq, hl, hw⟩ := hw
  subst e1
  cases r
  obtain ⟨its, rv, ht, hz⟩ := I.tuple hq
  have hlen : its.length = ys.length + 1 := by rw [← rv.length, List.length_append]; rfl
  obtain ⟨us, w, rfl, ru, rw'⟩ : ∃ us w, its = us ++ [w] ∧ Vals ys us ∧ RelV x w := by
    have key : ∀ (ys : List V) (x : V) (its : List Value), Vals (ys ++ [x]) its → ∃ us w, its = us ++ [w] ∧ Vals ys us ∧ RelV x w := fun ys => by
      induction ys with
      | nil =>
        intro x its r
        cases r with
        | cons a b => cases b; exact ⟨[], _, rfl, .nil, a⟩
      | cons y ys ih =>
        intro x its r
        cases r with
        | cons a b =>
          obtain ⟨us, w, rfl, r1, r2⟩ := ih _ _ b
          exact ⟨_ :: us, w, rfl, .cons a r1, r2⟩
    exact key ys x its rv
  have hus : us.length = ys.length := by simpa using hlen
  rw [assign_Tuple]
  refine wpAny_bind (wpAny_standAt ?_)
  unfold unpack
  rw [hn, hst, hm]
  refine wpAny_bind (wpAny_holding (star_items (I.ok.hd hc) ht (by simp) (by simp; omega) fun h' tk he => ?_))
  have e1 : (us ++ [w]).toArray.toList.take ((us ++ [w]).toArray.size - 1) = us := by simp
  have e2 : (us ++ [w]).toArray.toList.drop ((us ++ [w]).toArray.size - 1) = [w] := by simp
  rw [e1, e2]
  have I1 : Inv X pins σ H { s with heap := h', toks := tk } := I.kept (t' := tk) fun b o e => he b o (Nat.ne_of_lt (Heap.lt_size e)) e
  refine wpAny_bind (wpAny_newList ?_ (by rw [sizeLine_eq]; omega))
  refine wpAny_pure ?_
  have I2 := I1.lnew (t' := tk) ru (Nat.le_trans hl (by decide))
  exact h.run pins _ σ _ [.ref _, x] _ Q I2 (.cons rfl (.cons rw' .nil)) (hw _ I1.fresh)
end U

end
section
/-! The second data layer: what is wanted of a reading, and what suffices for it. Slots hold data, things of one's own, or the bag. -/
namespace U.N
open PySem L2 Evl
/-- a thing of one's own: what it holds, and how it stands in the heap -/
structure Own where
  flat : List PyData
  obj : Addr → List V → HO
/-- a list of one's own -/
def ol (xs : List PyData) : Own := ⟨xs, fun _ vs => .lst vs⟩
inductive En where
  | un
  | d (x : PyData)
  | ow (c : Own)
  | bag
  /-- a caught exception: itself, its dict, its fields -/
  | xc (a d : Addr) (fs : List (Str × V))
  /-- a thing that stays as it is -/
  | fz (c : Own)
  /-- any value, known as it is -/
  | vl (v : V)
abbrev Gam := List En
def Zs (W : Addr → Prop) (B : Option (Addr × Addr)) (ad : Nat → Addr) (G : Gam) : Addr → Prop := fun a => W a ∨ (∃ i c, G[i]? = some (.ow c) ∧ a = ad i) ∨ InB B a
def Slot (K : Fg) (B : Option (Addr × Addr)) (ad : Nat → Addr) (H : Hp) (Z : Addr → Prop) (i : Nat) (o : Option V) : En → Prop
  | .un => True
  | .d x => ∃ v, o = some v ∧ Dp K (less H Z) v x
  | .ow c => o = some (.ref (ad i)) ∧ ∃ vs, H (ad i) = some (c.obj (ad i) vs) ∧ DpAll K (less H Z) vs c.flat
  | .bag => ∃ b c, B = some (b, c) ∧ o = some (.ref b)
  | .xc a d fs => o = some (.ref a) ∧ less H Z d = some (.xd fs)
  | .fz c => ∃ a vs, o = some (.ref a) ∧ less H Z a = some (c.obj a vs) ∧ DpAll K (less H Z) vs c.flat
  | .vl v => o = some v
def BagOk (H : Hp) (B : Option (Addr × Addr)) : Prop := ∃ s : Bag, s.ok ∧ BagAt H B s
theorem BagOk.xb {H H2 : Hp} {B : Option (Addr × Addr)} (h : BagOk H B) (e : ∀ a, InB B a → H2 a = H a) : BagOk H2 B := by
  obtain ⟨s, ok, h⟩ := h
  refine ⟨s, ok, ?_⟩
  rcases B with _ | ⟨b, c⟩
  · trivial
  · have h : H b = _ ∧ _ := h
    exact ⟨(e b ⟨b, c, rfl, .inl rfl⟩).trans h.1, (e c ⟨b, c, rfl, .inr rfl⟩).trans h.2.1, h.2.2⟩
theorem BagOk.there {H : Hp} {B : Option (Addr × Addr)} (h : BagOk H B) {a : Addr} (z : InB B a) : ∃ o, H a = some o := by
  obtain ⟨s, ok, h⟩ := h
  exact bag_there h z
theorem BagOk.ext {H H2 : Hp} {B : Option (Addr × Addr)} (h : BagOk H B) (e : Ex H H2) : BagOk H2 B := h.xb fun a z => by
  obtain ⟨o, q⟩ := h.there z
  rw [q, e _ _ q]
theorem BagOk.upd {H : Hp} {B : Option (Addr × Addr)} (h : BagOk H B) {p : Addr} {o : HO} (n : ¬ InB B p) : BagOk (upd H p o) B := h.xb fun a z => upd_ne fun e => n (e ▸ z)
/-- the state of a def's frame: slots, heap, bag, against the heap H0 at its entry -/
structure Sta (K : Fg) (W : Addr → Prop) (B : Option (Addr × Addr)) (ad : Nat → Addr) (H0 H : Hp) (σ : St) (G : Gam) : Prop where
  len : σ.length = G.length
  at_ : ∀ i e, G[i]? = some e → ∃ o, σ[i]? = some o ∧ Slot K B ad H (Zs W B ad G) i o e
  inj : ∀ i j c c', G[i]? = some (.ow c) → G[j]? = some (.ow c') → ad i = ad j → i = j
  sep : ∀ i c, G[i]? = some (.ow c) → H0 (ad i) = none ∧ ¬ InB B (ad i) ∧ ¬ W (ad i)
  base : ∀ a o, H0 a = some o → ¬ InB B a → H a = some o
  bag : BagOk H B
  wd : ∀ a, W a → ∃ o, H a = some o
section
variable {K : Fg} {W : Addr → Prop} {B : Option (Addr × Addr)} {ad : Nat → Addr} {H0 H H2 : Hp} {σ : St} {G G' : Gam}
theorem Slot.mono {Z Z' : Addr → Prop} {i : Nat} {o : Option V} {e : En} (h : Slot K B ad H Z i o e) (x : Ex (less H Z) (less H2 Z')) (y : ∀ c u, e = .ow c → H (ad i) = some u → H2 (ad i) = some u) : Slot K B ad H2 Z' i o e := by
  cases e with
  | un => trivial
  | d d => obtain ⟨v, e, h⟩ := h; exact ⟨v, e, dp_mono x h⟩
  | ow c => obtain ⟨e, vs, h1, h2⟩ := h; exact ⟨e, vs, y c _ rfl h1, dpa_mono x h2⟩
  | bag => exact h
  | xc a d fs => exact ⟨h.1, x _ _ h.2⟩
  | fz c => obtain ⟨a, vs, e, h1, h2⟩ := h; exact ⟨a, vs, e, x _ _ h1, dpa_mono x h2⟩
  | vl v => exact h
theorem Sta.there (S : Sta K W B ad H0 H σ G) (a : Addr) (z : Zs W B ad G a) : ∃ o, H a = some o := by
  rcases z with z | ⟨i, c, g, rfl⟩ | z
  · exact S.wd _ z
  · obtain ⟨_, _, _, vs, h1, _⟩ := S.at_ i _ g
    exact ⟨_, h1⟩
  · exact S.bag.there z
/-- everything stays -/
theorem Sta.ext (S : Sta K W B ad H0 H σ G) (e : Ex H H2) : Sta K W B ad H0 H2 σ G where
  len := S.len
  at_ := fun i en h => by
    obtain ⟨o, h1, h2⟩ := S.at_ i en h
    exact ⟨o, h1, h2.mono (less_mono e) fun _ _ _ q => e _ _ q⟩
  inj := S.inj
  sep := S.sep
  base := fun a o h n => e _ _ (S.base a o h n)
  bag := S.bag.ext e
  wd := fun a z => by
    obtain ⟨o, h⟩ := S.wd a z
    exact ⟨o, e _ _ h⟩
/-- all but the bag stays -/
theorem Sta.drawn (S : Sta K W B ad H0 H σ G) (e : Xb B H H2) (b : BagOk H2 B) : Sta K W B ad H0 H2 σ G where
  len := S.len
  at_ := fun i en h => by
    obtain ⟨o, h1, h2⟩ := S.at_ i en h
    refine ⟨o, h1, h2.mono (less_but fun a o q z => e a o q fun y => z (.inr (.inr y))) fun c vs q q2 => ?_⟩
    subst q
    exact e _ _ q2 (S.sep i c h).2.1
  inj := S.inj
  sep := S.sep
  base := fun a o h n => e a o (S.base a o h n) n
  bag := b
  wd := fun a z => by
    by_cases hb : InB B a
    · exact b.there hb
    · obtain ⟨o, h⟩ := S.wd a z
      exact ⟨o, e _ _ h hb⟩
theorem Xb.lz {H H2 : Hp} (a : Xb B H H2) : Ex (less H (Zs W B ad G)) (less H2 (Zs W B ad G)) := less_but fun p o h n => a p o h fun z => n (.inr (.inr z))
theorem Zs.set_of {i : Nat} {e : En} (he : ∀ c, e ≠ .ow c) {a : Addr} (h : Zs W B ad (G.set i e) a) : Zs W B ad G a := by
  rcases h with h | ⟨j, c, h, r⟩ | h
  · exact .inl h
  · rcases get_set h with ⟨rfl, _, e'⟩ | ⟨_, h⟩
    · exact absurd e' (he c)
    · exact .inr (.inl ⟨j, c, h, r⟩)
  · exact .inr (.inr h)
/-- a slot gets a thing that is not of one's own -/
theorem Sta.set (S : Sta K W B ad H0 H σ G) {i : Nat} {e : En} {o : Option V} (he : ∀ c, e ≠ .ow c) (h : Slot K B ad H (Zs W B ad G) i o e) : Sta K W B ad H0 H (σ.set i o) (G.set i e) where
  len := by rw [List.length_set, List.length_set]; exact S.len
  at_ := fun j en g => by
    rcases get_set g with ⟨rfl, l, rfl⟩ | ⟨z, g⟩
    · refine ⟨o, List.getElem?_set_self (by rw [S.len]; exact l), h.mono (less_sub fun a q => Zs.set_of he q) fun _ _ _ q => q⟩
    · obtain ⟨o', h1, h2⟩ := S.at_ j en g
      exact ⟨o', by rw [List.getElem?_set_ne z]; exact h1, h2.mono (less_sub fun a q => Zs.set_of he q) fun _ _ _ q => q⟩
  inj := fun j k c c' g g' q => by
    rcases get_set g with ⟨rfl, l, e⟩ | ⟨z, g⟩
    · exact absurd e (he c)
    · rcases get_set g' with ⟨rfl, l, e⟩ | ⟨z', g'⟩
      · exact absurd e (he c')
      · exact S.inj j k c c' g g' q
  sep := fun j c g => by
    rcases get_set g with ⟨rfl, l, e⟩ | ⟨z, g⟩
    · exact absurd e (he c)
    · exact S.sep j c g
  base := S.base
  bag := S.bag
  wd := S.wd
theorem Sta.setD (S : Sta K W B ad H0 H σ G) {i : Nat} {v : V} {x : PyData} (h : Dp K (less H (Zs W B ad G)) v x) : Sta K W B ad H0 H (σ.set i (some v)) (G.set i (.d x)) :=
  S.set (fun _ z => by cases z) ⟨v, rfl, h⟩
theorem Sta.setU (S : Sta K W B ad H0 H σ G) {i : Nat} {o : Option V} : Sta K W B ad H0 H (σ.set i o) (G.set i .un) :=
  S.set (fun _ z => by cases z) trivial
theorem Sta.fresh (S : Sta K W B ad H0 H σ G) {p : Addr} (h : H p = none) : H0 p = none ∧ ¬ InB B p ∧ ¬ Zs W B ad G p := by
  have hZ : ¬ Zs W B ad G p := fun z => by
    obtain ⟨o, q⟩ := S.there p z
    rw [h] at q; cases q
  have hB : ¬ InB B p := fun z => hZ (.inr (.inr z))
  refine ⟨?_, hB, hZ⟩
  cases e : H0 p with
  | none => rfl
  | some o => rw [S.base p o e hB] at h; cases h
theorem own_ex {i : Nat} {p : Addr} {u : HO} {c : Own} (hp : H p = none) : Ex (less H (Zs W B ad G)) (less (upd H p u) (Zs W B (swp ad i p) (G.set i (.ow c)))) := fun a o q => by
  obtain ⟨q1, q2⟩ := less_some q
  have na : a ≠ p := ne_of_none q2 hp
  refine less_of (fun z => ?_) (by rw [upd_ne na]; exact q2)
  rcases z with z | ⟨j, c, g, r⟩ | z
  · exact q1 (.inl z)
  · rcases get_set g with ⟨rfl, l, e⟩ | ⟨z, g⟩
    · rw [swp_same] at r; exact na r
    · rw [swp_ne z] at r
      exact q1 (.inr (.inl ⟨j, c, g, r⟩))
  · exact q1 (.inr (.inr z))
/-- a new thing of one's own -/
theorem Sta.setOwn (S : Sta K W B ad H0 H σ G) {i : Nat} {p : Addr} {vs : List V} {c : Own} (hp : H p = none) (h : DpAll K (less H (Zs W B ad G)) vs c.flat) :
    Sta K W B (swp ad i p) H0 (upd H p (c.obj p vs)) (σ.set i (some (.ref p))) (G.set i (.ow c)) := by
  obtain ⟨h0, hB, hZ⟩ := S.fresh hp
  have ex : Ex (less H (Zs W B ad G)) (less (upd H p (c.obj p vs)) (Zs W B (swp ad i p) (G.set i (.ow c)))) := own_ex hp
  have hne : ∀ j c', G[j]? = some (.ow c') → ad j ≠ p := fun j c' g z => hZ (.inr (.inl ⟨j, c', g, z.symm⟩))
  refine ⟨by rw [List.length_set, List.length_set]; exact S.len, fun j en g => ?_, fun j k ys zs g g' q => ?_, fun j ys g => ?_, fun a o q n => ?_, S.bag.upd hB, fun a z => (S.wd a z).elim fun o q => upd_there q⟩
  · rcases get_set g with ⟨rfl, l, rfl⟩ | ⟨z, g⟩
    · exact ⟨_, List.getElem?_set_self (by rw [S.len]; exact l), by rw [swp_same], vs, by rw [swp_same]; exact upd_same, dpa_mono ex h⟩
    · obtain ⟨o', h1, h2⟩ := S.at_ j en g
      refine ⟨o', by rw [List.getElem?_set_ne z]; exact h1, ?_⟩
      cases en with
      | un => trivial
      | d d => obtain ⟨v, e, h⟩ := h2; exact ⟨v, e, dp_mono ex h⟩
      | ow ys =>
        obtain ⟨e, us, h3, h4⟩ := h2
        have hj : swp ad i p j = ad j := swp_ne z
        exact ⟨by rw [hj]; exact e, us, by rw [hj, upd_ne (hne j ys g)]; exact h3, dpa_mono ex h4⟩
      | bag => exact h2
      | xc a d fs => exact ⟨h2.1, ex _ _ h2.2⟩
      | fz c => obtain ⟨a, vs, e, h1, h2⟩ := h2; exact ⟨a, vs, e, ex _ _ h1, dpa_mono ex h2⟩
      | vl v => exact h2
  · rcases get_set g with ⟨rfl, l, e⟩ | ⟨z, g⟩
    · rcases get_set g' with ⟨rfl, l', e'⟩ | ⟨z', g'⟩
      · rfl
      · rw [swp_same, swp_ne z'] at q
        exact absurd q.symm (hne k zs g')
    · rcases get_set g' with ⟨rfl, l', e'⟩ | ⟨z', g'⟩
      · rw [swp_same, swp_ne z] at q
        exact absurd q (hne j ys g)
      · rw [swp_ne z, swp_ne z'] at q
        exact S.inj j k ys zs g g' q
  · rcases get_set g with ⟨rfl, l, e⟩ | ⟨z, g⟩
    · rw [swp_same]
      refine ⟨h0, hB, fun z => hZ (.inl z)⟩
    · rw [swp_ne z]; exact S.sep j ys g
  · rw [upd_ne (fun z => by rw [z, h0] at q; cases q)]
    exact S.base a o q n
theorem chg_zz {i : Nat} {c c' : Own} (hi : G[i]? = some (.ow c)) (a : Addr) : Zs W B ad (G.set i (.ow c')) a ↔ Zs W B ad G a := by
  have il : i < G.length := (List.getElem?_eq_some_iff.mp hi).1
  constructor
  · rintro (h | ⟨j, zs, g, r⟩ | h)
    · exact .inl h
    · rcases get_set g with ⟨rfl, l, e⟩ | ⟨z, g⟩
      · exact .inr (.inl ⟨i, c, hi, r⟩)
      · exact .inr (.inl ⟨j, zs, g, r⟩)
    · exact .inr (.inr h)
  · rintro (h | ⟨j, zs, g, r⟩ | h)
    · exact .inl h
    · by_cases z : i = j
      · subst z
        exact .inr (.inl ⟨i, c', List.getElem?_set_self il, r⟩)
      · exact .inr (.inl ⟨j, zs, by rw [List.getElem?_set_ne z]; exact g, r⟩)
    · exact .inr (.inr h)
theorem chg_ex {i : Nat} {c c' : Own} {u : HO} (hi : G[i]? = some (.ow c)) : Ex (less H (Zs W B ad G)) (less (upd H (ad i) u) (Zs W B ad (G.set i (.ow c')))) := fun a o q => by
  obtain ⟨q1, q2⟩ := less_some q
  refine less_of (fun z => q1 ((chg_zz hi a).mp z)) ?_
  rw [upd_ne (fun z => q1 (.inr (.inl ⟨i, c, hi, z⟩)))]; exact q2
/-- a thing of one's own is changed -/
theorem Sta.chg (S : Sta K W B ad H0 H σ G) {i : Nat} {c c' : Own} {vs : List V} (hi : G[i]? = some (.ow c)) (h : DpAll K (less H (Zs W B ad G)) vs c'.flat) : Sta K W B ad H0 (upd H (ad i) (c'.obj (ad i) vs)) σ (G.set i (.ow c')) := by
  have ex : Ex (less H (Zs W B ad G)) (less (upd H (ad i) (c'.obj (ad i) vs)) (Zs W B ad (G.set i (.ow c')))) := chg_ex hi
  obtain ⟨s0, sB, sW⟩ := S.sep i c hi
  refine ⟨by rw [List.length_set]; exact S.len, fun j en g => ?_, fun j k ys' zs g g' q => ?_, fun j zs g => ?_, fun a o q n => ?_, S.bag.upd sB, fun a z => (S.wd a z).elim fun o q => upd_there q⟩
  · rcases get_set g with ⟨rfl, l, rfl⟩ | ⟨z, g⟩
    · obtain ⟨o', h1, h2, _⟩ := S.at_ i _ hi
      exact ⟨o', h1, h2, vs, upd_same, dpa_mono ex h⟩
    · obtain ⟨o', h1, h2⟩ := S.at_ j en g
      refine ⟨o', h1, ?_⟩
      cases en with
      | un => trivial
      | d d => obtain ⟨v, e, h⟩ := h2; exact ⟨v, e, dp_mono ex h⟩
      | ow zs =>
        obtain ⟨e, us, h3, h4⟩ := h2
        exact ⟨e, us, by rw [upd_ne (fun w => z (S.inj i j c zs hi g w.symm))]; exact h3, dpa_mono ex h4⟩
      | bag => exact h2
      | xc a d fs => exact ⟨h2.1, ex _ _ h2.2⟩
      | fz c => obtain ⟨a, vs, e, h1, h2⟩ := h2; exact ⟨a, vs, e, ex _ _ h1, dpa_mono ex h2⟩
      | vl v => exact h2
  · rcases get_set g with ⟨rfl, l, e⟩ | ⟨z, g⟩
    · rcases get_set g' with ⟨rfl, l', e'⟩ | ⟨z', g'⟩
      · rfl
      · exact S.inj i k c zs hi g' q
    · rcases get_set g' with ⟨rfl, l', e'⟩ | ⟨z', g'⟩
      · exact S.inj j i ys' c g hi q
      · exact S.inj j k ys' zs g g' q
  · rcases get_set g with ⟨rfl, l, e⟩ | ⟨z, g⟩
    · exact S.sep i c hi
    · exact S.sep j zs g
  · rw [upd_ne (fun z => by rw [z, s0] at q; cases q)]
    exact S.base a o q n
/-- a list of one's own is from now on data -/
theorem Sta.freeze (S : Sta K W B ad H0 H σ G) {i : Nat} {xs : List PyData} (hi : G[i]? = some (.ow (ol xs))) : Sta K W B ad H0 H σ (G.set i (.d (.list xs))) := by
  have ex : Ex (less H (Zs W B ad G)) (less H (Zs W B ad (G.set i (.d (.list xs))))) := less_sub fun a q => Zs.set_of (fun _ z => by cases z) q
  refine ⟨by rw [List.length_set]; exact S.len, fun j en g => ?_, fun j k ys' zs g g' q => ?_, fun j zs g => ?_, S.base, S.bag, S.wd⟩
  · rcases get_set g with ⟨rfl, l, rfl⟩ | ⟨z, g⟩
    · obtain ⟨o', h1, h2, vs, h3, h4⟩ := S.at_ i _ hi
      refine ⟨o', h1, _, h2, .lst (sq_of (less_of ?_ h3)) (dpa_mono ex h4)⟩
      rintro (z | ⟨j, zs, g, r⟩ | z)
      · exact (S.sep i _ hi).2.2 z
      · rcases get_set g with ⟨rfl, _, e⟩ | ⟨z, g⟩
        · cases e
        · exact z (S.inj i j _ zs hi g r)
      · exact (S.sep i _ hi).2.1 z
    · obtain ⟨o', h1, h2⟩ := S.at_ j en g
      exact ⟨o', h1, h2.mono ex fun _ _ _ q => q⟩
  · rcases get_set g with ⟨rfl, l, e⟩ | ⟨z, g⟩
    · cases e
    · rcases get_set g' with ⟨rfl, l', e'⟩ | ⟨z', g'⟩
      · cases e'
      · exact S.inj j k ys' zs g g' q
  · rcases get_set g with ⟨rfl, l, e⟩ | ⟨z, g⟩
    · cases e
    · exact S.sep j zs g
/-- a thing of another's, which is new to this def, is changed -/
theorem Sta.foreign (S : Sta K W B ad H0 H σ G) {p : Addr} {o : HO} (hw : W p) (h0 : H0 p = none) (hB : ¬ InB B p) : Sta K W B ad H0 (upd H p o) σ G ∧ less (upd H p o) (Zs W B ad G) = less H (Zs W B ad G) := by
  have el : less (upd H p o) (Zs W B ad G) = less H (Zs W B ad G) := by
    funext a
    by_cases z : Zs W B ad G a
    · rw [less_yes z, less_yes z]
    · rw [less_no z, less_no z, upd_ne (fun e => z (.inl (by rw [e]; exact hw)))]
  refine ⟨⟨S.len, fun i e h => ?_, S.inj, S.sep, fun a u q n => ?_, S.bag.upd hB, fun a z => (S.wd a z).elim fun o q => upd_there q⟩, el⟩
  · obtain ⟨u, g1, g2⟩ := S.at_ i e h
    refine ⟨u, g1, g2.mono (by rw [el]; exact Ex.refl _) fun c vs q q2 => ?_⟩
    subst q
    rw [upd_ne (fun z => (S.sep i c h).2.2 (by rw [z]; exact hw))]; exact q2
  · rw [upd_ne (fun z => by rw [z, h0] at q; cases q)]; exact S.base a u q n
/-- a new thing is for a while another's -/
theorem Sta.lend (S : Sta K W B ad H0 H σ G) {p : Addr} {o : HO} (hp : H p = none) : Sta K (fun a => W a ∨ a = p) B ad H0 (upd H p o) σ G ∧ less (upd H p o) (Zs (fun a => W a ∨ a = p) B ad G) = less H (Zs W B ad G) := by
  obtain ⟨_, _, np⟩ := S.fresh hp
  have zz : ∀ a, Zs (fun a => W a ∨ a = p) B ad G a ↔ Zs W B ad G a ∨ a = p := fun a => by
    constructor
    · rintro ((z | z) | z | z)
      · exact .inl (.inl z)
      · exact .inr z
      · exact .inl (.inr (.inl z))
      · exact .inl (.inr (.inr z))
    · rintro ((z | z | z) | z)
      · exact .inl (.inl z)
      · exact .inr (.inl z)
      · exact .inr (.inr z)
      · exact .inl (.inr z)
  have el : less (upd H p o) (Zs (fun a => W a ∨ a = p) B ad G) = less H (Zs W B ad G) := by
    funext a
    by_cases e : a = p
    · rw [less_yes ((zz a).mpr (.inr e)), e, less_no np, hp]
    · by_cases z : Zs W B ad G a
      · rw [less_yes z, less_yes ((zz a).mpr (.inl z))]
      · rw [less_no z, less_no (fun y => ((zz a).mp y).elim z e), upd_ne e]
  have ex : Ex H (upd H p o) := Ex.new hp
  have S' := S.ext ex
  refine ⟨⟨S.len, fun i e h => ?_, S.inj, fun i c h => ⟨(S.sep i c h).1, (S.sep i c h).2.1, fun z => z.elim (S.sep i c h).2.2 fun z => np (by rw [← z]; exact .inr (.inl ⟨i, c, h, rfl⟩))⟩, S'.base, S'.bag, fun a z => z.elim (fun z => S'.wd a z) fun z => ⟨o, by rw [z]; exact upd_same⟩⟩, el⟩
  obtain ⟨u, g1, g2⟩ := S.at_ i e h
  exact ⟨u, g1, g2.mono (by rw [el]; exact Ex.refl _) fun c vs q q2 => ex _ _ q2⟩
/-- .. and is given back -/
theorem Sta.back {p : Addr} (S : Sta K (fun a => W a ∨ a = p) B ad H0 H σ G) : Sta K W B ad H0 H σ G ∧ Ex (less H (Zs (fun a => W a ∨ a = p) B ad G)) (less H (Zs W B ad G)) := by
  have ex : Ex (less H (Zs (fun a => W a ∨ a = p) B ad G)) (less H (Zs W B ad G)) := less_sub fun a z => z.elim (fun z => .inl (.inl z)) .inr
  refine ⟨⟨S.len, fun i e h => ?_, S.inj, fun i c h => ⟨(S.sep i c h).1, (S.sep i c h).2.1, fun z => (S.sep i c h).2.2 (.inl z)⟩, S.base, S.bag, fun a z => S.wd a (.inl z)⟩, ex⟩
  obtain ⟨u, g1, g2⟩ := S.at_ i e h
  exact ⟨u, g1, g2.mono ex fun _ _ _ q => q⟩
theorem new_ex (S : Sta K W B ad H0 H σ G) {p : Addr} {o : HO} (h : H p = none) :
    Sta K W B ad H0 (upd H p o) σ G ∧ Xb B H (upd H p o) ∧ less (upd H p o) (Zs W B ad G) p = some o := by
  have e : Ex H (upd H p o) := Ex.new h
  exact ⟨S.ext e, .of e, less_of (S.fresh h).2.2 upd_same⟩
end
end U.N

end
section
namespace U.N
open PySem PyProof.Rows L2 Evl
/-! ### relations by name -/
@[irreducible] def rAddI : R2 := rI0 fun i j => .int (i + j)
@[irreducible] def rSubI : R2 := rI0 fun i j => .int (i - j)
@[irreducible] def rGtI : R2 := rI0 fun i j => .bl (decide (j < i))
@[irreducible] def rNegI : V → Hp → VK → Prop := rU fun i => .int (-i)
section
variable {X : Cx}
theorem op_addI : OpR X (binaryOp .Add) rAddI := by unfold rAddI; exact op_add
theorem op_subI : OpR X (binaryOp .Sub) rSubI := by unfold rSubI; exact op_sub
theorem op_gtI : OpR X (compareOp .Gt) rGtI := by unfold rGtI; exact op_gt
theorem un_negI : UnR X (unaryOp .USub) rNegI := by unfold rNegI; exact un_neg
end
/-! ### what is wanted -/
section
variable (K : Fg) (cs : Cs) (W : WX)
/-- what may leave by raising -/
def XP (Wd : Addr → Prop) (B : Option (Addr × Addr)) (ad : Nat → Addr) (H0 H : Hp) (σ : St) (G : Gam) (ε : Xw → Prop) : Prop :=
  ∀ e, ε e → ∀ d H2, Sta K Wd B ad H0 H2 σ G → Xb B H H2 → H0 d = none → less H2 (Zs Wd B ad G) d = some (.xd e.fs) → W (.ref (cs e.cls)) (some d) σ H2
def EW (te : TE) (G : Gam) (φ : PyData → Prop) (ε : Xw → Prop) : Prop :=
  ∀ Wd B ad H0 H σ, Sta K Wd B ad H0 H σ G → ∀ Q : VK, (∀ x, φ x → ∀ v H2, Sta K Wd B ad H0 H2 σ G → Xb B H H2 → Dp K (less H2 (Zs Wd B ad G)) v x → Q v H2) → XP K cs W Wd B ad H0 H σ G ε → te σ H Q
/-- a new thing of one's own -/
def EF (te : TE) (G : Gam) (ψ : Own → Prop) (ε : Xw → Prop) : Prop :=
  ∀ Wd B ad H0 H σ, Sta K Wd B ad H0 H σ G → ∀ Q : VK, (∀ c, ψ c → ∀ a vs H2, Sta K Wd B ad H0 H2 σ G → Xb B H H2 → H2 a = none → DpAll K (less H2 (Zs Wd B ad G)) vs c.flat → Q (.ref a) (upd H2 a (c.obj a vs))) → XP K cs W Wd B ad H0 H σ G ε → te σ H Q
def TW (tt : TT) (G : Gam) (ψ : Bool → Prop) (ε : Xw → Prop) : Prop :=
  ∀ Wd B ad H0 H σ, Sta K Wd B ad H0 H σ G → ∀ Q : Bool → Hp → Prop, (∀ b, ψ b → ∀ H2, Sta K Wd B ad H0 H2 σ G → Xb B H H2 → Q b H2) → XP K cs W Wd B ad H0 H σ G ε → tt σ H Q
def AW (ta : TA) (G : Gam) (α : List PyData → Prop) (ε : Xw → Prop) : Prop :=
  ∀ Wd B ad H0 H σ, Sta K Wd B ad H0 H σ G → ∀ Q : List V → Hp → Prop, (∀ xs, α xs → ∀ vs H2, Sta K Wd B ad H0 H2 σ G → Xb B H H2 → DpAll K (less H2 (Zs Wd B ad G)) vs xs → Q vs H2) → XP K cs W Wd B ad H0 H σ G ε → ta σ H Q
def IW (wi : TI) (G : Gam) (ι : List PyData → Prop) (ε : Xw → Prop) : Prop :=
  ∀ Wd B ad H0 H σ, Sta K Wd B ad H0 H σ G → ∀ R : It → Hp → Prop, (∀ ds, ι ds → ∀ J H1, Sta K Wd B ad H0 H1 σ G → Xb B H H1 → ItOk K J ds (less H1 (Zs Wd B ad G)) → R J H1) → XP K cs W Wd B ad H0 H σ G ε → wi σ H R
def OW (to : TO) (G : Gam) (ψ : Option Int → Prop) (ε : Xw → Prop) : Prop :=
  ∀ Wd B ad H0 H σ, Sta K Wd B ad H0 H σ G → ∀ Q : Option Int → Hp → Prop, (∀ o, ψ o → ∀ H2, Sta K Wd B ad H0 H2 σ G → Xb B H H2 → Q o H2) → XP K cs W Wd B ad H0 H σ G ε → to σ H Q
inductive Out where
  | nx (G : Gam)
  | rt (x : PyData)
  | rl (c : Own)
  | bk (G : Gam)
  | ct (G : Gam)
  | ex (e : Xw) (G : Gam)
def PostO (Wd : Addr → Prop) (B : Option (Addr × Addr)) (H0 M : Hp) (D : Ends) : Out → Prop
  | .nx G => ∀ ad H σ, Sta K Wd B ad H0 H σ G → Ex M (less H (Zs Wd B ad G)) → D.nx σ H
  | .rt x => ∀ v H, Xb B H0 H → BagOk H B → Dp K (less H fun a => Wd a ∨ InB B a) v x → D.rt v H
  | .rl c => ∀ a vs H, Xb B H0 H → BagOk H B → H0 a = none → H a = some (c.obj a vs) → DpAll K (less H fun b => (Wd b ∨ InB B b) ∨ b = a) vs c.flat → D.rt (.ref a) H
  | .bk G => ∀ ad H σ, Sta K Wd B ad H0 H σ G → Ex M (less H (Zs Wd B ad G)) → D.bk σ H
  | .ct G => ∀ ad H σ, Sta K Wd B ad H0 H σ G → Ex M (less H (Zs Wd B ad G)) → D.ct σ H
  | .ex e G => ∀ d ad H σ, Sta K Wd B ad H0 H σ G → Ex M (less H (Zs Wd B ad G)) → H0 d = none → less H (Zs Wd B ad G) d = some (.xd e.fs) → W (.ref (cs e.cls)) (some d) σ H
def SW (ts : TS) (G : Gam) (Φ : Out → Prop) : Prop :=
  ∀ Wd B ad H0 H σ (D : Ends), Sta K Wd B ad H0 H σ G → (∀ o, Φ o → PostO K cs W Wd B H0 (less H (Zs Wd B ad G)) D o) → ts D σ H
end
def Cnd (b : Bool) (P Q : Prop) : Prop := (b = true → P) ∧ (b = false → Q)
section
variable {P Q : Prop} {b : Bool}
theorem cnd_t (p : P) : Cnd true P Q := ⟨fun _ => p, (nomatch ·)⟩
theorem cnd_f (q : Q) : Cnd false P Q := ⟨(nomatch ·), fun _ => q⟩
theorem cnd_nt (q : Q) : Cnd (!true) P Q := cnd_f q
theorem cnd_T (h : b = true) (p : P) : Cnd b P Q := ⟨fun _ => p, fun h' => by rw [h] at h'; cases h'⟩
theorem cnd_F (h : b = false) (q : Q) : Cnd b P Q := ⟨fun h' => (by rw [h] at h'; cases h'), fun _ => q⟩
theorem cnd_b (p : b = true → P) (q : b = false → Q) : Cnd b P Q := ⟨p, q⟩
end
section
variable {K : Fg} {cs : Cs} {W : WX} {G G' G1 G2 : Gam} {ta tb tc te : TE} {t u : TT} {φ : PyData → Prop} {ε : Xw → Prop} {ψ : Bool → Prop} {α : List PyData → Prop} {ι : List PyData → Prop} {χ : Own → Prop} {ω : Option Int → Prop}
variable {Wd : Addr → Prop} {B : Option (Addr × Addr)} {ad : Nat → Addr} {H0 H H1 H2 : Hp} {σ : St}
theorem XP.go (h : XP K cs W Wd B ad H0 H σ G ε) (x : Xb B H H1) : XP K cs W Wd B ad H0 H1 σ G ε := fun e he d H2 S y hd hx => h e he d H2 S (x.trans y) hd hx
theorem ew_mono {φ' : PyData → Prop} (h : EW K cs W te G φ ε) (m : ∀ x, φ x → φ' x) : EW K cs W te G φ' ε := fun Wd B ad H0 H σ S Q q x => h Wd B ad H0 H σ S Q (fun y hy => q y (m y hy)) x
theorem aw_mono {α' : List PyData → Prop} {ta : TA} (h : AW K cs W ta G α ε) (m : ∀ x, α x → α' x) : AW K cs W ta G α' ε := fun Wd B ad H0 H σ S Q q x => h Wd B ad H0 H σ S Q (fun y hy => q y (m y hy)) x
theorem tw_mono {ψ' : Bool → Prop} (h : TW K cs W t G ψ ε) (m : ∀ x, ψ x → ψ' x) : TW K cs W t G ψ' ε := fun Wd B ad H0 H σ S Q q x => h Wd B ad H0 H σ S Q (fun y hy => q y (m y hy)) x
/-! ### values -/
theorem ew_var {i : Nat} {x : PyData} (h : G[i]? = some (.d x)) (p : φ x) : EW K cs W (tVar i) G φ ε := fun Wd B ad H0 H σ S Q q _ => by
  obtain ⟨o, h1, v, rfl, h2⟩ := S.at_ i _ h
  exact ⟨v, h1, q x p v H S Xb.refl h2⟩
theorem ew_glob {v : V} {x : PyData} (h : ∀ H, Dp K H v x) (p : φ x) : EW K cs W (tC v) G φ ε := fun Wd B ad H0 H σ S Q q _ => q x p _ H S Xb.refl (h _)
theorem ew_int {i : Int} (p : φ (.int i)) : EW K cs W (tC (.int i)) G φ ε := ew_glob (fun _ => .int i) p
theorem ew_bl {b : Bool} (p : φ (.bool b)) : EW K cs W (tC (.bl b)) G φ ε := ew_glob (fun _ => .bl b) p
theorem ew_str {b : Str} (p : φ (.str b)) : EW K cs W (tC (.str b)) G φ ε := ew_glob (fun _ => .str b) p
/-! ### arguments, displays -/
theorem aw_nil (p : α []) : AW K cs W tNil G α ε := fun Wd B ad H0 H σ S Q q _ => q _ p _ H S Xb.refl .nil
theorem aw_cons {tr : TA} (h : EW K cs W ta G (fun x => AW K cs W tr G (fun xs => α (x :: xs)) ε) ε) : AW K cs W (tCons ta tr) G α ε := fun Wd B ad H0 H σ S Q q x =>
  h Wd B ad H0 H σ S _ (fun x1 p1 v H1 S1 e1 d1 => p1 Wd B ad H0 H1 σ S1 _ (fun xs p2 vs H2 S2 e2 d2 => q _ p2 _ H2 S2 (e1.trans e2) (.cons (dp_mono (Xb.lz e2) d1) d2)) (x.go e1)) x
theorem ew_ef (h : EF K cs W te G (fun c => ∃ xs, c = ol xs ∧ φ (.list xs)) ε) : EW K cs W te G φ ε := fun Wd B ad H0 H σ S Q q x =>
  h Wd B ad H0 H σ S _ (fun c p a vs H2 S2 e2 hn d => by
    obtain ⟨xs, rfl, p⟩ := p
    obtain ⟨S3, e3, g⟩ := new_ex (o := .lst vs) S2 hn
    exact q _ p _ _ S3 (e2.trans e3) (.lst (sq_of g) (dpa_mono (Xb.lz e3) d))) x
theorem ew_tup {ta : TA} (h : AW K cs W ta G (fun xs => xs.length ≤ 16000000 ∧ φ (.tuple xs)) ε) : EW K cs W (tTup ta) G φ ε := fun Wd B ad H0 H σ S Q q x =>
  h Wd B ad H0 H σ S _ (fun xs p vs H1 S1 e1 d1 => ⟨by rw [dpa_len d1]; exact sz_line p.1, fun a ha => by
    obtain ⟨S2, e2, g⟩ := new_ex (o := .tup vs) S1 ha
    exact q _ p.2 _ _ S2 (e1.trans e2) (.tup (st_of g) (dpa_mono (Xb.lz e2) d1))⟩) x
theorem ef_lst {ta : TA} (h : AW K cs W ta G (fun xs => xs.length ≤ 16000000 ∧ χ (ol xs)) ε) : EF K cs W (tLst ta) G χ ε := fun Wd B ad H0 H σ S Q q x =>
  h Wd B ad H0 H σ S _ (fun xs p vs H1 S1 e1 d1 => ⟨by rw [dpa_len d1]; exact sz_line p.1, fun a ha => q _ p.2 a vs H1 S1 e1 ha d1⟩) x
/-! ### operators -/
theorem ew_op {r : R2} (h : EW K cs W ta G (fun x => EW K cs W tb G (fun y => ∀ Wd B ad H0 H σ v w, Sta K Wd B ad H0 H σ G → Dp K (less H (Zs Wd B ad G)) v x → Dp K (less H (Zs Wd B ad G)) w y → ∀ Q : VK, (∀ z, φ z → ∀ v H2, Sta K Wd B ad H0 H2 σ G → Xb B H H2 → Dp K (less H2 (Zs Wd B ad G)) v z → Q v H2) → r v w H Q) ε) ε) : EW K cs W (tOp r ta tb) G φ ε := fun Wd B ad H0 H σ S Q q x =>
  h Wd B ad H0 H σ S _ (fun x1 p1 v H1 S1 e1 d1 => p1 Wd B ad H0 H1 σ S1 _ (fun y p2 w H2 S2 e2 d2 => p2 Wd B ad H0 H2 σ v w S2 (dp_mono (Xb.lz e2) d1) d2 Q fun z p v H3 S3 e3 d3 => q z p v H3 S3 ((e1.trans e2).trans e3) d3) (x.go e1)) x
theorem ew_I0 {g : Int → Int → V} {f : Int → Int → PyData} (hg : ∀ i j H, Dp K H (g i j) (f i j)) (h : EW K cs W ta G (fun x => ∃ i, x = .int i ∧ EW K cs W tb G (fun y => ∃ j, y = .int j ∧ φ (f i j)) ε) ε) : EW K cs W (tOp (rI0 g) ta tb) G φ ε :=
  ew_op (ew_mono h fun x ⟨i, e, h⟩ => ew_mono h fun y ⟨j, e2, p⟩ => fun Wd B ad H0 H σ v w S d1 d2 Q q => by
    subst e; subst e2
    cases d1; cases d2
    exact ⟨i, j, rfl, rfl, q _ p _ H S Xb.refl (hg i j _)⟩)
theorem ew_add (h : EW K cs W ta G (fun x => ∃ i, x = .int i ∧ EW K cs W tb G (fun y => ∃ j, y = .int j ∧ φ (.int (i + j))) ε) ε) : EW K cs W (tOp rAddI ta tb) G φ ε := by unfold rAddI; exact ew_I0 (f := fun i j => .int (i + j)) (fun _ _ _ => .int _) h
theorem ew_sub (h : EW K cs W ta G (fun x => ∃ i, x = .int i ∧ EW K cs W tb G (fun y => ∃ j, y = .int j ∧ φ (.int (i - j))) ε) ε) : EW K cs W (tOp rSubI ta tb) G φ ε := by unfold rSubI; exact ew_I0 (f := fun i j => .int (i - j)) (fun _ _ _ => .int _) h
theorem ew_gt (h : EW K cs W ta G (fun x => ∃ i, x = .int i ∧ EW K cs W tb G (fun y => ∃ j, y = .int j ∧ φ (.bool (decide (j < i)))) ε) ε) : EW K cs W (tOp rGtI ta tb) G φ ε := by unfold rGtI; exact ew_I0 (f := fun i j => .bool (decide (j < i))) (fun _ _ _ => .bl _) h
theorem ew_neg (h : EW K cs W ta G (fun x => ∃ i, x = .int i ∧ φ (.int (-i))) ε) : EW K cs W (tUn rNegI ta) G φ ε := by
 unfold rNegI
 exact fun Wd B ad H0 H σ S Q q x => h Wd B ad H0 H σ S _ (fun y ⟨i, e, p⟩ v H1 S1 e1 d1 => by
    subst e
    cases d1
    exact ⟨i, rfl, q _ p _ H1 S1 e1 (.int _)⟩) x
/-- == of scalars -/
def scEq : PyData → PyData → Option Bool
  | .int i, .int j => some (decide (i = j))
  | .str i, .str j => some (decide (i = j))
  | .bool i, .bool j => some (decide (i = j))
  | .none, .none => some true
  | _, _ => none
theorem sc_eq {H : Hp} {v w : V} {x y : PyData} {b : Bool} (d1 : Dp K H v x) (d2 : Dp K H w y) (h : scEq x y = some b) : scal v w = true ∧ decide (v = w) = b := by
  cases d1 <;> cases d2 <;> first | (cases h; done) | skip
  · cases h; exact ⟨rfl, rfl⟩
  · cases h; exact ⟨rfl, by simp⟩
  · cases h; exact ⟨rfl, by simp⟩
  · cases h; exact ⟨rfl, by simp⟩
theorem ew_eq (h : EW K cs W ta G (fun x => EW K cs W tb G (fun y => ∃ b, scEq x y = some b ∧ φ (.bool b)) ε) ε) : EW K cs W (tOp rEq ta tb) G φ ε :=
  ew_op (ew_mono h fun x h => ew_mono h fun y ⟨b, e, p⟩ => fun Wd B ad H0 H σ v w S d1 d2 Q q => by
    obtain ⟨h1, h2⟩ := sc_eq d1 d2 e
    exact ⟨h1, by rw [h2]; exact q _ p _ H S Xb.refl (.bl _)⟩)
theorem ew_ne (h : EW K cs W ta G (fun x => EW K cs W tb G (fun y => ∃ b, scEq x y = some b ∧ φ (.bool (!b))) ε) ε) : EW K cs W (tOp rNe ta tb) G φ ε :=
  ew_op (ew_mono h fun x h => ew_mono h fun y ⟨b, e, p⟩ => fun Wd B ad H0 H σ v w S d1 d2 Q q => by
    obtain ⟨h1, h2⟩ := sc_eq d1 d2 e
    exact ⟨h1, by rw [h2]; exact q _ p _ H S Xb.refl (.bl _)⟩)
end
end U.N

end
section
namespace U
open PySem PyProof.Rows L2 Evl
local macro_rules | `(tactic| walk_at "ev1") => `(tactic| first
  | exact ev_int | exact ev_bl | exact ev_str | exact ev_non | exact ev_var rfl | exact ea_nil | exact eo_none
  | with_reducible apply ev_ixDisp | with_reducible apply ev_fst | with_reducible apply ev_snd
  | with_reducible apply ev_add | with_reducible apply ev_sub | with_reducible apply ev_mul | with_reducible apply ev_fdiv | with_reducible apply ev_mod | with_reducible apply ev_pow
  | with_reducible apply ev_lt | with_reducible apply ev_le | with_reducible apply ev_gt | with_reducible apply ev_ge
  | with_reducible apply ev_eqI | with_reducible apply ev_neI
  | with_reducible apply ev_neg | with_reducible apply ev_subB | with_reducible apply ev_isNo | with_reducible apply ev_noNo
  | with_reducible apply ev_not | with_reducible apply et_test | with_reducible apply et_B | with_reducible apply et_not
  | with_reducible apply ev_abs | with_reducible apply ev_max | with_reducible apply ev_min | with_reducible apply ev_intB
  | with_reducible apply ev_gcd | with_reducible apply ev_frac | with_reducible apply ev_fadd | with_reducible apply ev_sign | with_reducible apply ev_cmpF
  | with_reducible apply ev_pull rfl
  | with_reducible apply ev_like
  | with_reducible apply ev_tup | with_reducible apply ev_lst | with_reducible apply ea_cons | with_reducible apply eo_some
  | with_reducible apply ev_order | exact ev_part rfl | exact ev_far rfl | exact ev_farPart rfl
  | (with_reducible show List.length _ ≤ 16000000; (simp; done)) | (with_reducible show (0 : Int) < _; decide) | (with_reducible show (_ : Int) < 1000000000000; decide) | (with_reducible show CPow _ _; (unfold CPow; decide)) | (with_reducible show CNz _ _; (unfold CNz; decide))
  | with_reducible apply sg_ret | with_reducible apply sg_asg | with_reducible apply sg_next)
local macro_rules | `(tactic| walk_at "ln") => `(tactic| first | walk_at "ev1" | with_reducible apply sg_seq)

def isPart2 : PyData → PyData → Bool
  | .int a, .int b => decide (0 < b) && decide (gI a b = 1)
  | _, _ => false
def isPart : PyData → Bool
  | .tuple [p, q] => isPart2 p q
  | _ => false
section
variable {K : Fg} {G : Gam} {s s1 s2 s' : Bag} {ta tb te : TE} {x y : PyData} {E : XK}
end
section
variable {K : Fg}
-- slots of is_whole: 0 thing
def t_shared (K : Fg) : TS := (tSeq (tPar 0 1 (tCons (tCB rAbs (tCons (tVar 0) tNil)) (tCons (tCB rAbs (tCons (tVar 1) tNil)) tNil)))
  (tSeq (tWhile (tTest (tOp (rI0 fun i j => V.bl (decide (j < i))) (tVar 1) (tC (V.int 0)))) (tPar 0 1 (tCons (tVar 1) (tCons (tOp (rI CNz fun i j => V.int (i.fmod j)) (tVar 0) (tVar 1)) tNil))))
  (tRet (tCB rMx (tCons (tVar 0) (tCons (tC (V.int 1)) tNil))))))
-- slots of shared: 0 one, 1 other
theorem ln_shared : ∀ ds r, P_gcd ds r → ds.length = 2 := fun ds r h => by obtain ⟨p, q, rfl, _⟩ := h; rfl
theorem rd_shared {ds r} (h : P_gcd ds r) (b : Bag) : SG K (t_shared K) (frame 2 ds) b (.rt r b) := by
  obtain ⟨x, y, rfl, rfl⟩ := h
  unfold t_shared
  obtain ⟨n, h1, h2⟩ := eu_end y.natAbs x.natAbs
  apply sg_is
  apply sg_seq
  · apply sg_par
    (repeat' walk_at "ev1")
  apply sg_seq
  · refine sg_while (s' := b) (fun i => [.d (.int (eu x.natAbs y.natAbs i).1), .d (.int (eu x.natAbs y.natAbs i).2)]) (fun _ => b) (fun _ => b) n ?_ rfl (fun i hi => ?_) (fun i hi => .inl ?_) ?_
    · show Wk [.d (.int (absI x)), .d (.int (absI y))] _
      rw [absI_nat, absI_nat]
      exact .refl _
    · refine et_is (by (repeat' walk_at "ev1")) ?_
      have := h2 i hi
      simp; omega
    · have hy := h2 i hi
      refine sg_is (sg_par (ea_cons (ev_var rfl) (ea_cons (ev_mod (ev_var rfl) (ev_var rfl) ?_) ea_nil))) ?_
      · show ((eu x.natAbs y.natAbs i).2 : Int) ≠ 0
        omega
      · rw [fmod_nat]
        rfl
    · refine et_is (by (repeat' walk_at "ev1")) ?_
      rw [h1]
      rfl
  · rw [h1]
    (repeat' walk_at "ev1")
  · show Out.rt (.int (maxI _ 1)) b = _
    rw [gN_max]
-- slots of is_part: 0 thing
-- slots of _law_wild: 0 _law_bag_here, 1 _law_things
end
end U


end
section
namespace U
open PySem PyProof.Rows L2 Evl
local macro_rules | `(tactic| walk_at "ev1") => `(tactic| first
  | exact ev_int | exact ev_bl | exact ev_str | exact ev_non | exact ev_var rfl | exact ea_nil | exact eo_none
  | with_reducible apply ev_ixDisp | with_reducible apply ev_fst | with_reducible apply ev_snd
  | with_reducible apply ev_add | with_reducible apply ev_sub | with_reducible apply ev_mul | with_reducible apply ev_fdiv | with_reducible apply ev_mod | with_reducible apply ev_pow
  | with_reducible apply ev_lt | with_reducible apply ev_le | with_reducible apply ev_gt | with_reducible apply ev_ge
  | with_reducible apply ev_eqI | with_reducible apply ev_neI
  | with_reducible apply ev_neg | with_reducible apply ev_subB | with_reducible apply ev_isNo | with_reducible apply ev_noNo
  | with_reducible apply ev_not | with_reducible apply et_test | with_reducible apply et_B | with_reducible apply et_not
  | with_reducible apply ev_abs | with_reducible apply ev_max | with_reducible apply ev_min | with_reducible apply ev_intB
  | with_reducible apply ev_gcd | with_reducible apply ev_frac | with_reducible apply ev_fadd | with_reducible apply ev_sign | with_reducible apply ev_cmpF
  | with_reducible apply ev_pull rfl
  | with_reducible apply ev_like
  | with_reducible apply ev_tup | with_reducible apply ev_lst | with_reducible apply ea_cons | with_reducible apply eo_some
  | with_reducible apply ev_order | exact ev_part rfl | exact ev_far rfl | exact ev_farPart rfl
  | (with_reducible show List.length _ ≤ 16000000; (simp; done)) | (with_reducible show (0 : Int) < _; decide) | (with_reducible show (_ : Int) < 1000000000000; decide) | (with_reducible show CPow _ _; (unfold CPow; decide)) | (with_reducible show CNz _ _; (unfold CNz; decide))
  | with_reducible apply sg_ret | with_reducible apply sg_asg | with_reducible apply sg_next)
local macro_rules | `(tactic| walk_at "ln") => `(tactic| first | walk_at "ev1" | with_reducible apply sg_seq)

/-! ### part -/
theorem fdiv_neg2 (a g : Int) : a.fdiv (-g) = (-a).fdiv g := by
  have h := Int.neg_fdiv_neg (-a) g
  rw [Int.neg_neg] at h
  exact h
theorem gI_neg (a b : Int) : gI (-a) (-b) = gI a b := by unfold gI gN; rw [Int.natAbs_neg, Int.natAbs_neg]
theorem gI_one (a : Int) : gI a 1 = 1 := by
  unfold gI gN
  show ((max (Nat.gcd a.natAbs 1) 1 : Nat) : Int) = 1
  rw [Nat.gcd_one_right]
  rfl
def partR (a b : Int) : Except Xw PyData := if b = 0 then .error xFlat else .ok (fr (fracF a b))
def P_partX : List PyData → Except Xw PyData → Prop := fun ds r => ∃ a b : Int, ds = [.int a, .int b] ∧ Bd 8000 a ∧ Bd 8000 b ∧ r = partR a b
theorem partR_ok {a b : Int} (h : b ≠ 0) : partR a b = .ok (fr (fracF a b)) := if_neg h
section
variable {K : Fg} {cs : Cs} {W : WX} {G : Gam} {s s1 s2 s' : Bag} {ta tb te : TE} {x y : PyData} {E : St → XK}
theorem ev_partX {a b : Int} (h1 : EvG K ta G s (.int a) s1) (h2 : EvG K tb G s1 (.int b) s2) (ha : Bd 8000 a) (hb : Bd 8000 b) (h0 : b ≠ 0) : EvG K (tCallSD (spX K cs P_partX) [] E (tCons ta (tCons tb tNil))) G s (fr (fracF a b)) s2 :=
  ev_callX (ea_cons h1 (ea_cons h2 ea_nil)) (fun _ => .nil) ⟨a, b, rfl, ha, hb, (partR_ok h0).symm⟩
end
section
variable {K : Fg} {cs : Cs}
def t_part (K : Fg) (cs : Cs) (W : WX) : TS := (tSeq (tIfS (tTest (tOp rEq (tVar 1) (tC (V.int 0)))) (tRaiseX (cs "Flat") (spIn K ["word"] gFlat) [] tNil W) tNext)
  (tSeq (tIfS (tTest (tOp (rI0 fun i j => V.bl (decide (i < j))) (tVar 1) (tC (V.int 0)))) (tPar 0 1 (tCons (tUn (rU fun i => V.int (-i)) (tVar 0)) (tCons (tUn (rU fun i => V.int (-i)) (tVar 1)) tNil))) tNext)
  (tSeq (tAsg (tCall (spP K P_gcd) [] E0 (tCons (tVar 0) (tCons (tVar 1) tNil))) (gName 2))
  (tRet (tTup (tCons (tOp (rI CDvX fun i j => V.int (i.fdiv j)) (tVar 0) (tVar 2)) (tCons (tOp (rI CDvX fun i j => V.int (i.fdiv j)) (tVar 1) (tVar 2)) tNil)))))))
-- slots of part: 0 above, 1 below, 2 divisor
theorem ln_part : ∀ ds r, P_partX ds r → ds.length = 2 := fun ds r h => by obtain ⟨p, q, rfl, _⟩ := h; rfl
theorem rd_part {ds r} (cf : ClsF K cs "Flat" ["word"]) (h : P_partX ds r) (W : WX) (b : Bag) : RdX K cs W (t_part K cs W) (frame 3 ds) b r := by
  obtain ⟨x, y, rfl, hx, hy, rfl⟩ := h
  by_cases h0 : y = 0
  · subst h0
    refine ⟨_, sx_whenT (et_is (et_test (ev_eqI (ev_var rfl) ev_int)) rfl) (sx_raise0 cf.ox cf.no rfl)⟩
  · rw [partR_ok h0]
    show SG K (t_part K cs W) _ _ _
    unfold t_part
    refine sg_when (et_is (et_test (ev_eqI (ev_var rfl) ev_int)) (decide_eq_false h0)) (fun h => by cases h) fun _ => ?_
    have hg := gI_pos x y
    have hb : Bd 8001 (gI x y) := Bd.g hx hy
    have dv : ∀ z : Int, CDvX z (gI x y) := fun z => by
      refine ⟨by omega, ?_⟩
      have h2 : (gI x y).natAbs < 2 ^ 8002 := hb.mono (by decide)
      have := PySem.Flt.log2_lt_of (by decide) h2
      omega
    by_cases hn : y < 0
    · refine sg_is (sg_seq (sg_ifT (et_is (et_test (ev_lt (ev_var rfl) ev_int)) (decide_eq_true hn)) (sg_par (ea_cons (ev_neg (ev_var rfl)) (ea_cons (ev_neg (ev_var rfl)) ea_nil)))) (sg_seq (sg_asg (ev_is (ev_gcd (ev_var rfl) (ev_var rfl)) (congrArg PyData.int (gI_neg x y)))) (sg_ret (ev_tup (ea_cons (ev_fdiv (ev_var rfl) (ev_var rfl) (dv _)) (ea_cons (ev_fdiv (ev_var rfl) (ev_var rfl) (dv _)) ea_nil)) (by show 2 ≤ 16000000; decide))))) ?_
      show Out.rt (fr ((-x).fdiv (gI x y), (-y).fdiv (gI x y))) b = Out.rt (fr (fracF x y)) b
      unfold fracF
      rw [if_pos hn, fdiv_neg2, fdiv_neg2]
    · refine sg_is (sg_seq (sg_ifF (et_is (et_test (ev_lt (ev_var rfl) ev_int)) (decide_eq_false hn)) sg_next) (sg_seq (sg_asg (ev_gcd (ev_var rfl) (ev_var rfl))) (sg_ret (ev_tup (ea_cons (ev_fdiv (ev_var rfl) (ev_var rfl) (dv _)) (ea_cons (ev_fdiv (ev_var rfl) (ev_var rfl) (dv _)) ea_nil)) (by show 2 ≤ 16000000; decide))))) ?_
      show Out.rt (fr (x.fdiv (gI x y), y.fdiv (gI x y))) b = Out.rt (fr (fracF x y)) b
      unfold fracF
      rw [if_neg hn]
-- slots of told01: 0 _law_above, 1 _law_below, 2 why
end
end U


end
section
namespace U
open PySem PyProof.Rows L2 Evl
local macro_rules | `(tactic| walk_at "ev1") => `(tactic| first
  | exact ev_int | exact ev_bl | exact ev_str | exact ev_non | exact ev_var rfl | exact ea_nil | exact eo_none
  | with_reducible apply ev_ixDisp | with_reducible apply ev_fst | with_reducible apply ev_snd
  | with_reducible apply ev_add | with_reducible apply ev_sub | with_reducible apply ev_mul | with_reducible apply ev_fdiv | with_reducible apply ev_mod | with_reducible apply ev_pow
  | with_reducible apply ev_lt | with_reducible apply ev_le | with_reducible apply ev_gt | with_reducible apply ev_ge
  | with_reducible apply ev_eqI | with_reducible apply ev_neI
  | with_reducible apply ev_neg | with_reducible apply ev_subB | with_reducible apply ev_isNo | with_reducible apply ev_noNo
  | with_reducible apply ev_not | with_reducible apply et_test | with_reducible apply et_B | with_reducible apply et_not
  | with_reducible apply ev_abs | with_reducible apply ev_max | with_reducible apply ev_min | with_reducible apply ev_intB
  | with_reducible apply ev_gcd | with_reducible apply ev_frac | with_reducible apply ev_fadd | with_reducible apply ev_sign | with_reducible apply ev_cmpF
  | with_reducible apply ev_pull rfl
  | with_reducible apply ev_like
  | with_reducible apply ev_tup | with_reducible apply ev_lst | with_reducible apply ea_cons | with_reducible apply eo_some
  | with_reducible apply ev_order | exact ev_part rfl | exact ev_far rfl | exact ev_farPart rfl
  | (with_reducible show List.length _ ≤ 16000000; (simp; done)) | (with_reducible show (0 : Int) < _; decide) | (with_reducible show (_ : Int) < 1000000000000; decide) | (with_reducible show CPow _ _; (unfold CPow; decide)) | (with_reducible show CNz _ _; (unfold CNz; decide))
  | with_reducible apply sg_ret | with_reducible apply sg_asg | with_reducible apply sg_next)
local macro_rules | `(tactic| walk_at "ln") => `(tactic| first | walk_at "ev1" | with_reducible apply sg_seq)

def subF (p q : Fr) : Fr := fracF (p.1 * q.2 - q.1 * p.2) (p.2 * q.2)
def mulF (p q : Fr) : Fr := fracF (p.1 * q.1) (p.2 * q.2)
theorem Sz.subF {n m : Nat} {p q : Fr} (hp : Sz n p) (hq : Sz m q) : Sz (n + m + 1) (U.subF p q) :=
  Sz.frac (Bd.sub (hp.1.mul hq.2) (by rw [Nat.add_comm n m]; exact hq.1.mul hp.2)) ((hp.2.mul hq.2).mono (Nat.le_succ _))
theorem Sz.mulF {n m : Nat} {p q : Fr} (hp : Sz n p) (hq : Sz m q) : Sz (n + m) (U.mulF p q) := Sz.frac (hp.1.mul hq.1) (hp.2.mul hq.2)
theorem fdiv_pos {c g : Int} (hg : 0 < g) (h : g ≤ c) : 0 < c.fdiv g := by
  rw [Int.fdiv_eq_ediv_of_nonneg _ (Int.le_of_lt hg)]
  have : 1 ≤ c / g := Int.le_ediv_of_mul_le hg (by omega)
  omega
theorem gI_le_right {a b : Int} (hb : b ≠ 0) : gI a b ≤ (b.natAbs : Int) := by
  unfold gI gN
  have h1 : 0 < b.natAbs := Int.natAbs_pos.mpr hb
  have h2 := Nat.gcd_le_right (m := a.natAbs) (n := b.natAbs) h1
  have : max (Nat.gcd a.natAbs b.natAbs) 1 ≤ b.natAbs := Nat.max_le.mpr ⟨h2, h1⟩
  omega
theorem fracF_pos {a b : Int} (hb : b ≠ 0) : 0 < (fracF a b).2 := by
  have hg := gI_pos a b
  have hl := gI_le_right (a := a) hb
  unfold fracF
  by_cases h : b < 0
  · show 0 < b.fdiv (if b < 0 then -gI a b else gI a b)
    rw [if_pos h, fdiv_neg2]
    exact fdiv_pos hg (by omega)
  · rw [if_neg h]
    exact fdiv_pos hg (by omega)
theorem addF_pos {p q : Fr} (hp : p.2 ≠ 0) (hq : q.2 ≠ 0) : 0 < (addF p q).2 := fracF_pos (Int.mul_ne_zero hp hq)
theorem subF_pos {p q : Fr} (hp : p.2 ≠ 0) (hq : q.2 ≠ 0) : 0 < (subF p q).2 := fracF_pos (Int.mul_ne_zero hp hq)
theorem mulF_pos {p q : Fr} (hp : p.2 ≠ 0) (hq : q.2 ≠ 0) : 0 < (mulF p q).2 := fracF_pos (Int.mul_ne_zero hp hq)
theorem partOf_pos (s : Bag) : 0 < (partOf s).2 := by
  obtain ⟨y1, y2⟩ := pullV_range (pullS s 13) (n := 4) (by decide)
  have hm := menu_mem (l := [1, 1, 2, 3]) y1 y2
  refine fracF_pos ?_
  generalize menu _ _ = m at hm
  simp only [List.mem_cons, List.not_mem_nil, or_false] at hm
  omega
/-- .. their sizes together -/
def P_fg (N : Nat) (C : Fr → Fr → Prop) (f : Fr → Fr → PyData) : List PyData → PyData → Prop := fun ds r => ∃ (n m : Nat) (p q : Fr), ds = [fr p, fr q] ∧ Sz n p ∧ Sz m q ∧ n + m ≤ N ∧ C p q ∧ r = f p q
theorem ln_fg {N : Nat} {C : Fr → Fr → Prop} {f : Fr → Fr → PyData} : ∀ ds r, P_fg N C f ds r → ds.length = 2 := fun ds r h => by obtain ⟨_, _, p, q, rfl, _⟩ := h; rfl
abbrev Nz2 (p q : Fr) : Prop := p.2 ≠ 0 ∧ q.2 ≠ 0
def P_plus := P_fg 7800 Nz2 fun p q => fr (addF p q)
def P_times := P_fg 7800 Nz2 fun p q => fr (mulF p q)
def P_lsub := P_fg 7800 (fun _ _ => True) fun p q => fr (subF p q)
def P_lmul := P_fg 7800 (fun _ _ => True) fun p q => fr (mulF p q)
section
variable {K : Fg} {cs : Cs} {W : WX} {G : Gam} {s s1 s2 s' : Bag} {ta tb te : TE} {x y : PyData} {E : St → XK} {E' : XK} {p q : Fr}
def t_plus (K : Fg) (cs : Cs) : TS := (tRet (tCallSD (spX K cs P_partX) [] (WE W0) (tCons (tOp (rI0 fun i j => V.int (i + j)) (tOp (rI CMulW fun i j => V.int (i * j)) (tOp (rIx K) (tVar 0) (tC (V.int 0))) (tOp (rIx K) (tVar 1) (tC (V.int 1)))) (tOp (rI CMulW fun i j => V.int (i * j)) (tOp (rIx K) (tVar 1) (tC (V.int 0))) (tOp (rIx K) (tVar 0) (tC (V.int 1))))) (tCons (tOp (rI CMulW fun i j => V.int (i * j)) (tOp (rIx K) (tVar 0) (tC (V.int 1))) (tOp (rIx K) (tVar 1) (tC (V.int 1)))) tNil))))
-- slots of plus: 0 one, 1 other
theorem ln_plus : ∀ ds r, P_plus ds r → ds.length = 2 := ln_fg
theorem rd_plus {ds r} (h : P_plus ds r) (b : Bag) : SG K (t_plus K cs) (frame 2 ds) b (.rt r b) := by
  obtain ⟨n, m, p, q, rfl, hp, hq, hl, hc, rfl⟩ := h
  exact sg_ret (ev_partX (ev_add (ev_mul (ev_fst (ev_var rfl)) (ev_snd (ev_var rfl)) (hp.1.cm hq.2 (by omega))) (ev_mul (ev_fst (ev_var rfl)) (ev_snd (ev_var rfl)) (hq.1.cm hp.2 (by omega)))) (ev_mul (ev_snd (ev_var rfl)) (ev_snd (ev_var rfl)) (hp.2.cm hq.2 (by omega)))
    ((Bd.add (hp.1.mul hq.2) (by rw [Nat.add_comm n m]; exact hq.1.mul hp.2)).mono (by omega)) ((hp.2.mul hq.2).mono (by omega)) (Int.mul_ne_zero hc.1 hc.2))
-- slots of minus: 0 one, 1 other
def t_times (K : Fg) (cs : Cs) : TS := (tRet (tCallSD (spX K cs P_partX) [] (WE W0) (tCons (tOp (rI CMulW fun i j => V.int (i * j)) (tOp (rIx K) (tVar 0) (tC (V.int 0))) (tOp (rIx K) (tVar 1) (tC (V.int 0)))) (tCons (tOp (rI CMulW fun i j => V.int (i * j)) (tOp (rIx K) (tVar 0) (tC (V.int 1))) (tOp (rIx K) (tVar 1) (tC (V.int 1)))) tNil))))
-- slots of times: 0 one, 1 other
theorem ln_times : ∀ ds r, P_times ds r → ds.length = 2 := ln_fg
theorem rd_times {ds r} (h : P_times ds r) (b : Bag) : SG K (t_times K cs) (frame 2 ds) b (.rt r b) := by
  obtain ⟨n, m, p, q, rfl, hp, hq, hl, hc, rfl⟩ := h
  exact sg_ret (ev_partX (ev_mul (ev_fst (ev_var rfl)) (ev_fst (ev_var rfl)) (hp.1.cm hq.1 (by omega))) (ev_mul (ev_snd (ev_var rfl)) (ev_snd (ev_var rfl)) (hp.2.cm hq.2 (by omega)))
    ((hp.1.mul hq.1).mono (by omega)) ((hp.2.mul hq.2).mono (by omega)) (Int.mul_ne_zero hc.1 hc.2))
-- slots of over: 0 one, 1 other
-- slots of middle: 0 one, 1 other
def t__law_sub (K : Fg) : TS := (tRet (tCall (spP K P_frac) [] E0 (tCons (tOp (rI0 fun i j => V.int (i - j)) (tOp (rI CMulW fun i j => V.int (i * j)) (tOp (rIx K) (tVar 0) (tC (V.int 0))) (tOp (rIx K) (tVar 1) (tC (V.int 1)))) (tOp (rI CMulW fun i j => V.int (i * j)) (tOp (rIx K) (tVar 1) (tC (V.int 0))) (tOp (rIx K) (tVar 0) (tC (V.int 1))))) (tCons (tOp (rI CMulW fun i j => V.int (i * j)) (tOp (rIx K) (tVar 0) (tC (V.int 1))) (tOp (rIx K) (tVar 1) (tC (V.int 1)))) tNil))))
-- slots of _law_sub: 0 _law_one, 1 _law_other
theorem ln__law_sub : ∀ ds r, P_lsub ds r → ds.length = 2 := ln_fg
theorem rd__law_sub {ds r} (h : P_lsub ds r) (b : Bag) : SG K (t__law_sub K) (frame 2 ds) b (.rt r b) := by
  obtain ⟨n, m, p, q, rfl, hp, hq, hl, hc, rfl⟩ := h
  exact sg_ret (ev_fracN (ev_sub (ev_mul (ev_fst (ev_var rfl)) (ev_snd (ev_var rfl)) (hp.1.cm hq.2 (by omega))) (ev_mul (ev_fst (ev_var rfl)) (ev_snd (ev_var rfl)) (hq.1.cm hp.2 (by omega)))) (ev_mul (ev_snd (ev_var rfl)) (ev_snd (ev_var rfl)) (hp.2.cm hq.2 (by omega)))
    ((Bd.sub (hp.1.mul hq.2) (by rw [Nat.add_comm n m]; exact hq.1.mul hp.2)).mono (by omega)) ((hp.2.mul hq.2).mono (by omega)))
def t__law_mul (K : Fg) : TS := (tRet (tCall (spP K P_frac) [] E0 (tCons (tOp (rI CMulW fun i j => V.int (i * j)) (tOp (rIx K) (tVar 0) (tC (V.int 0))) (tOp (rIx K) (tVar 1) (tC (V.int 0)))) (tCons (tOp (rI CMulW fun i j => V.int (i * j)) (tOp (rIx K) (tVar 0) (tC (V.int 1))) (tOp (rIx K) (tVar 1) (tC (V.int 1)))) tNil))))
-- slots of _law_mul: 0 _law_one, 1 _law_other
theorem ln__law_mul : ∀ ds r, P_lmul ds r → ds.length = 2 := ln_fg
theorem rd__law_mul {ds r} (h : P_lmul ds r) (b : Bag) : SG K (t__law_mul K) (frame 2 ds) b (.rt r b) := by
  obtain ⟨n, m, p, q, rfl, hp, hq, hl, hc, rfl⟩ := h
  exact sg_ret (ev_fracN (ev_mul (ev_fst (ev_var rfl)) (ev_fst (ev_var rfl)) (hp.1.cm hq.1 (by omega))) (ev_mul (ev_snd (ev_var rfl)) (ev_snd (ev_var rfl)) (hp.2.cm hq.2 (by omega)))
    ((hp.1.mul hq.1).mono (by omega)) ((hp.2.mul hq.2).mono (by omega)))
-- slots of _law_div: 0 _law_one, 1 _law_other
-- slots of told03: 0 _law_one, 1 _law_other, 2 why
end
end U


end
section
namespace U
open PySem PyProof.Rows L2 Evl
local macro_rules | `(tactic| walk_at "ev1") => `(tactic| first
  | exact ev_int | exact ev_bl | exact ev_str | exact ev_non | exact ev_var rfl | exact ea_nil | exact eo_none
  | with_reducible apply ev_ixDisp | with_reducible apply ev_fst | with_reducible apply ev_snd
  | with_reducible apply ev_add | with_reducible apply ev_sub | with_reducible apply ev_mul | with_reducible apply ev_fdiv | with_reducible apply ev_mod | with_reducible apply ev_pow
  | with_reducible apply ev_lt | with_reducible apply ev_le | with_reducible apply ev_gt | with_reducible apply ev_ge
  | with_reducible apply ev_eqI | with_reducible apply ev_neI
  | with_reducible apply ev_neg | with_reducible apply ev_subB | with_reducible apply ev_isNo | with_reducible apply ev_noNo
  | with_reducible apply ev_not | with_reducible apply et_test | with_reducible apply et_B | with_reducible apply et_not
  | with_reducible apply ev_abs | with_reducible apply ev_max | with_reducible apply ev_min | with_reducible apply ev_intB
  | with_reducible apply ev_gcd | with_reducible apply ev_frac | with_reducible apply ev_fadd | with_reducible apply ev_sign | with_reducible apply ev_cmpF
  | with_reducible apply ev_pull rfl
  | with_reducible apply ev_like
  | with_reducible apply ev_tup | with_reducible apply ev_lst | with_reducible apply ea_cons | with_reducible apply eo_some
  | with_reducible apply ev_order | exact ev_part rfl | exact ev_far rfl | exact ev_farPart rfl
  | (with_reducible show List.length _ ≤ 16000000; (simp; done)) | (with_reducible show (0 : Int) < _; decide) | (with_reducible show (_ : Int) < 1000000000000; decide) | (with_reducible show CPow _ _; (unfold CPow; decide)) | (with_reducible show CNz _ _; (unfold CNz; decide))
  | with_reducible apply sg_ret | with_reducible apply sg_asg | with_reducible apply sg_next)
local macro_rules | `(tactic| walk_at "ln") => `(tactic| first | walk_at "ev1" | with_reducible apply sg_seq)

/-! ### fractions in lowest terms -/
theorem gI_dvd_left {a b : Int} (hb : b ≠ 0) : ∃ c, a = gI a b * c := by
  have e : gI a b = (Nat.gcd a.natAbs b.natAbs : Nat) := by
    unfold gI gN
    have : 0 < Nat.gcd a.natAbs b.natAbs := Nat.gcd_pos_of_pos_right _ (Int.natAbs_pos.mpr hb)
    have : max (Nat.gcd a.natAbs b.natAbs) 1 = Nat.gcd a.natAbs b.natAbs := Nat.max_eq_left this
    omega
  rw [e]
  exact Int.ofNat_dvd_left.mpr (Nat.gcd_dvd_left _ _)
theorem gI_dvd_right {a b : Int} (hb : b ≠ 0) : ∃ c, b = gI a b * c := by
  have e : gI a b = (Nat.gcd a.natAbs b.natAbs : Nat) := by
    unfold gI gN
    have : 0 < Nat.gcd a.natAbs b.natAbs := Nat.gcd_pos_of_pos_right _ (Int.natAbs_pos.mpr hb)
    have : max (Nat.gcd a.natAbs b.natAbs) 1 = Nat.gcd a.natAbs b.natAbs := Nat.max_eq_left this
    omega
  rw [e]
  exact Int.ofNat_dvd_left.mpr (Nat.gcd_dvd_right _ _)
/-- fracF by its factor -/
theorem fracF_spec {a b : Int} (hb : b ≠ 0) : ∃ k : Int, k ≠ 0 ∧ a = k * (fracF a b).1 ∧ b = k * (fracF a b).2 ∧ k.natAbs = Nat.gcd a.natAbs b.natAbs := by
  have hg := gI_pos a b
  have hn : gI a b = (Nat.gcd a.natAbs b.natAbs : Nat) := by
    unfold gI gN
    have : 0 < Nat.gcd a.natAbs b.natAbs := Nat.gcd_pos_of_pos_right _ (Int.natAbs_pos.mpr hb)
    have : max (Nat.gcd a.natAbs b.natAbs) 1 = Nat.gcd a.natAbs b.natAbs := Nat.max_eq_left this
    omega
  obtain ⟨c, hc⟩ := gI_dvd_left (a := a) hb
  obtain ⟨d, hd⟩ := gI_dvd_right (a := a) hb
  have fd : ∀ (g x : Int), g ≠ 0 → (g * x).fdiv g = x := fun g x h => Int.mul_fdiv_cancel_left x h
  unfold fracF
  by_cases h : b < 0
  · rw [if_pos h]
    refine ⟨-gI a b, by omega, ?_, ?_, by rw [Int.natAbs_neg, hn, Int.natAbs_natCast]⟩
    · have : a = -gI a b * -c := by rw [Int.neg_mul_neg]; exact hc
      show a = -gI a b * a.fdiv (-gI a b)
      have e := fd (-gI a b) (-c) (by omega)
      rw [← this] at e
      rw [e]; exact this
    · have : b = -gI a b * -d := by rw [Int.neg_mul_neg]; exact hd
      show b = -gI a b * b.fdiv (-gI a b)
      have e := fd (-gI a b) (-d) (by omega)
      rw [← this] at e
      rw [e]; exact this
  · rw [if_neg h]
    refine ⟨gI a b, by omega, ?_, ?_, by rw [hn, Int.natAbs_natCast]⟩
    · show a = gI a b * a.fdiv (gI a b)
      have e := fd (gI a b) c (by omega)
      rw [← hc] at e
      rw [e]; exact hc
    · show b = gI a b * b.fdiv (gI a b)
      have e := fd (gI a b) d (by omega)
      rw [← hd] at e
      rw [e]; exact hd
theorem fracF_low {a b : Int} (hb : b ≠ 0) : gI (fracF a b).1 (fracF a b).2 = 1 := by
  obtain ⟨k, hk, h1, h2, h3⟩ := fracF_spec (a := a) hb
  have hpos : 0 < k.natAbs := Int.natAbs_pos.mpr hk
  generalize (fracF a b).1 = x at *
  generalize (fracF a b).2 = y at *
  have : Nat.gcd (k * x).natAbs (k * y).natAbs = k.natAbs * Nat.gcd x.natAbs y.natAbs := by
    rw [Int.natAbs_mul, Int.natAbs_mul, Nat.gcd_mul_left]
  rw [← h1, ← h2, ← h3] at this
  have g1 : Nat.gcd x.natAbs y.natAbs = 1 := Nat.eq_of_mul_eq_mul_left hpos (by rw [← this, Nat.mul_one])
  unfold gI gN
  rw [g1]
  rfl
theorem fracF_isPart {a b : Int} (hb : b ≠ 0) : isPart (fr (fracF a b)) = true := by
  show (decide (0 < (fracF a b).2) && decide (gI (fracF a b).1 (fracF a b).2 = 1)) = true
  rw [decide_eq_true (fracF_pos hb), decide_eq_true (fracF_low hb)]
  rfl
theorem partOf_isPart (s : Bag) : isPart (fr (partOf s)) = true := by
  obtain ⟨y1, y2⟩ := pullV_range (pullS s 13) (n := 4) (by decide)
  have hm := menu_mem (l := [1, 1, 2, 3]) y1 y2
  refine fracF_isPart ?_
  generalize menu _ _ = m at hm
  simp only [List.mem_cons, List.not_mem_nil, or_false] at hm
  omega
/-! ### spots -/
section
variable {K : Fg} {cs : Cs} {W : WX} {G : Gam} {s s1 s2 s' : Bag} {ta tb te : TE} {x y : PyData} {E : XK}
-- slots of is_spot: 0 thing, 1 room, 2 one
-- slots of _law_spot: 0 _law_bag_here, 1 _law_rank, 2 _law_at
end
end U


end
section
namespace U
open PySem PyProof.Rows L2 Evl
/-! ### fractions as rational numbers -/
def val (p : Fr) : Rat := (p.1 : Rat) / (p.2 : Rat)
structure Gd (n : Nat) (p : Fr) : Prop where
  sz : Sz n p
  pos : 0 < p.2
  low : gI p.1 p.2 = 1
theorem Gd.mono {n m : Nat} {p : Fr} (h : Gd n p) (l : n ≤ m) : Gd m p := ⟨h.sz.mono l, h.pos, h.low⟩
theorem Gd.ne {n : Nat} {p : Fr} (h : Gd n p) : p.2 ≠ 0 := Int.ne_of_gt h.pos
theorem qne {a : Int} (h : a ≠ 0) : (a : Rat) ≠ 0 := fun e => h (by exact_mod_cast e)
theorem Gd.qne {n : Nat} {p : Fr} (h : Gd n p) : (p.2 : Rat) ≠ 0 := U.qne h.ne
theorem Gd.add {n m : Nat} {p q : Fr} (hp : Gd n p) (hq : Gd m q) : Gd (n + m + 1) (addF p q) := ⟨Sz.add hp.sz hq.sz, addF_pos hp.ne hq.ne, fracF_low (Int.mul_ne_zero hp.ne hq.ne)⟩
theorem Gd.sub {n m : Nat} {p q : Fr} (hp : Gd n p) (hq : Gd m q) : Gd (n + m + 1) (subF p q) := ⟨Sz.subF hp.sz hq.sz, subF_pos hp.ne hq.ne, fracF_low (Int.mul_ne_zero hp.ne hq.ne)⟩
theorem Gd.mul {n m : Nat} {p q : Fr} (hp : Gd n p) (hq : Gd m q) : Gd (n + m) (mulF p q) := ⟨Sz.mulF hp.sz hq.sz, mulF_pos hp.ne hq.ne, fracF_low (Int.mul_ne_zero hp.ne hq.ne)⟩
theorem partOf_gd (s : Bag) : Gd 10 (partOf s) := by
  refine ⟨partOf_sz s, partOf_pos s, ?_⟩
  have h := partOf_isPart s
  have h : (decide (0 < (partOf s).2) && decide (gI (partOf s).1 (partOf s).2 = 1)) = true := h
  exact of_decide_eq_true (Bool.and_eq_true_iff.mp h).2
theorem val_frac {a b : Int} (hb : b ≠ 0) : val (fracF a b) = (a : Rat) / (b : Rat) := by
  obtain ⟨k, hk, h1, h2, _⟩ := fracF_spec (a := a) hb
  have hy := Int.ne_of_gt (fracF_pos (a := a) hb)
  unfold val
  generalize (fracF a b).1 = x at *
  generalize (fracF a b).2 = y at *
  have k0 := qne hk
  have y0 := qne hy
  rw [h1, h2, Rat.intCast_mul, Rat.intCast_mul]
  grind
theorem val_add {n m : Nat} {p q : Fr} (hp : Gd n p) (hq : Gd m q) : val (addF p q) = val p + val q := by
  unfold addF
  rw [val_frac (Int.mul_ne_zero hp.ne hq.ne), Rat.intCast_add, Rat.intCast_mul, Rat.intCast_mul, Rat.intCast_mul]
  have := hp.qne
  have := hq.qne
  unfold val
  grind
theorem val_sub {n m : Nat} {p q : Fr} (hp : Gd n p) (hq : Gd m q) : val (subF p q) = val p - val q := by
  unfold subF
  rw [val_frac (Int.mul_ne_zero hp.ne hq.ne), Rat.intCast_sub, Rat.intCast_mul, Rat.intCast_mul, Rat.intCast_mul]
  have := hp.qne
  have := hq.qne
  unfold val
  grind
theorem val_mul {n m : Nat} {p q : Fr} (hp : Gd n p) (hq : Gd m q) : val (mulF p q) = val p * val q := by
  unfold mulF
  rw [val_frac (Int.mul_ne_zero hp.ne hq.ne), Rat.intCast_mul, Rat.intCast_mul]
  have := hp.qne
  have := hq.qne
  unfold val
  grind
/-! ### signs -/
end U

end
section
namespace U
open PySem PyProof.Rows L2 Evl
local macro_rules | `(tactic| walk_at "ev1") => `(tactic| first
  | exact ev_int | exact ev_bl | exact ev_str | exact ev_non | exact ev_var rfl | exact ea_nil | exact eo_none
  | with_reducible apply ev_ixDisp | with_reducible apply ev_fst | with_reducible apply ev_snd
  | with_reducible apply ev_add | with_reducible apply ev_sub | with_reducible apply ev_mul | with_reducible apply ev_fdiv | with_reducible apply ev_mod | with_reducible apply ev_pow
  | with_reducible apply ev_lt | with_reducible apply ev_le | with_reducible apply ev_gt | with_reducible apply ev_ge
  | with_reducible apply ev_eqI | with_reducible apply ev_neI
  | with_reducible apply ev_neg | with_reducible apply ev_subB | with_reducible apply ev_isNo | with_reducible apply ev_noNo
  | with_reducible apply ev_not | with_reducible apply et_test | with_reducible apply et_B | with_reducible apply et_not
  | with_reducible apply ev_abs | with_reducible apply ev_max | with_reducible apply ev_min | with_reducible apply ev_intB
  | with_reducible apply ev_gcd | with_reducible apply ev_frac | with_reducible apply ev_fadd | with_reducible apply ev_sign | with_reducible apply ev_cmpF
  | with_reducible apply ev_pull rfl
  | with_reducible apply ev_like
  | with_reducible apply ev_tup | with_reducible apply ev_lst | with_reducible apply ea_cons | with_reducible apply eo_some
  | with_reducible apply ev_order | exact ev_part rfl | exact ev_far rfl | exact ev_farPart rfl
  | (with_reducible show List.length _ ≤ 16000000; (simp; done)) | (with_reducible show (0 : Int) < _; decide) | (with_reducible show (_ : Int) < 1000000000000; decide) | (with_reducible show CPow _ _; (unfold CPow; decide)) | (with_reducible show CNz _ _; (unfold CNz; decide))
  | with_reducible apply sg_ret | with_reducible apply sg_asg | with_reducible apply sg_next)
local macro_rules | `(tactic| walk_at "ln") => `(tactic| first | walk_at "ev1" | with_reducible apply sg_seq)

/-! ### rows of fractions -/
abbrev frs (ps : List Fr) : PyData := .tuple (ps.map fr)
def Gds (n : Nat) (ps : List Fr) : Prop := ∀ p ∈ ps, Gd n p
section
variable {K : Fg} {cs : Cs} {W : WX} {G : Gam} {s s1 s2 s3 s' : Bag} {ta tb tc te : TE} {x y : PyData} {E : XK}
/-! step_from, across, side_of -/
-- slots of step_from: 0 one, 1 other, 2 first, 3 second
-- slots of across: 0 one, 1 other
-- slots of side_of: 0 start, 1 end, 2 spot
/-! ### the law's own -/
-- slots of _law_hom: 0 _law_spot_here
-- slots of _law_det: 0 _law_one, 1 _law_two, 2 _law_three, 3 _law_first, 4 _law_second
-- slots of _law_turn: 0 _law_one, 1 _law_two, 2 _law_three
-- slots of _law_along: 0 _law_one, 1 _law_two, 2 _law_share, 3 _law_steps, 4 _law_at
end
end U


end
section
namespace U
open PySem PyProof.Rows L2 Evl
local macro_rules | `(tactic| walk_at "ev1") => `(tactic| first
  | exact ev_int | exact ev_bl | exact ev_str | exact ev_non | exact ev_var rfl | exact ea_nil | exact eo_none
  | with_reducible apply ev_ixDisp | with_reducible apply ev_fst | with_reducible apply ev_snd
  | with_reducible apply ev_add | with_reducible apply ev_sub | with_reducible apply ev_mul | with_reducible apply ev_fdiv | with_reducible apply ev_mod | with_reducible apply ev_pow
  | with_reducible apply ev_lt | with_reducible apply ev_le | with_reducible apply ev_gt | with_reducible apply ev_ge
  | with_reducible apply ev_eqI | with_reducible apply ev_neI
  | with_reducible apply ev_neg | with_reducible apply ev_subB | with_reducible apply ev_isNo | with_reducible apply ev_noNo
  | with_reducible apply ev_not | with_reducible apply et_test | with_reducible apply et_B | with_reducible apply et_not
  | with_reducible apply ev_abs | with_reducible apply ev_max | with_reducible apply ev_min | with_reducible apply ev_intB
  | with_reducible apply ev_gcd | with_reducible apply ev_frac | with_reducible apply ev_fadd | with_reducible apply ev_sign | with_reducible apply ev_cmpF
  | with_reducible apply ev_pull rfl
  | with_reducible apply ev_like
  | with_reducible apply ev_tup | with_reducible apply ev_lst | with_reducible apply ea_cons | with_reducible apply eo_some
  | with_reducible apply ev_order | exact ev_part rfl | exact ev_far rfl | exact ev_farPart rfl
  | (with_reducible show List.length _ ≤ 16000000; (simp; done)) | (with_reducible show (0 : Int) < _; decide) | (with_reducible show (_ : Int) < 1000000000000; decide) | (with_reducible show CPow _ _; (unfold CPow; decide)) | (with_reducible show CNz _ _; (unfold CNz; decide))
  | with_reducible apply sg_ret | with_reducible apply sg_asg | with_reducible apply sg_next)
local macro_rules | `(tactic| walk_at "ln") => `(tactic| first | walk_at "ev1" | with_reducible apply sg_seq)

section
variable {K : Fg} {cs : Cs} {W : WX} {G : Gam} {s s1 s2 s3 s4 s' : Bag} {ta tb tc td te : TE} {x y : PyData} {E : XK} {E2 : St → XK}
-- slots of gone: 0 spot, 1 step, 2 many, 3 first, 4 second
/-! crossing -/
structure Sp2 where
  x : Fr
  y : Fr
  deriving DecidableEq
abbrev Sp2.l (p : Sp2) : List Fr := [p.x, p.y]
abbrev Sp2.g (n : Nat) (p : Sp2) : Prop := Gds n p.l
-- slots of crossing: 0 start, 1 end, 2 other_start, 3 other_end, 4 step, 5 other_step, 6 span, 7 many
-- slots of told09: 0 _law_one, 1 _law_two, 2 _law_three, 3 _law_four, 4 why
/-! the law's own -/
-- slots of _law_mid: 0 _law_one, 1 _law_two, 2 _law_at
-- slots of _law_lowest: 0 _law_one, 1 _law_number
-- slots of _law_right: 0 _law_found, 1 _law_one, 2 _law_two, 3 _law_three, 4 _law_four, 5 _law_first, 6 _law_second
end
end U


end
section
namespace U
open PySem PyProof.Rows L2 Evl
local macro_rules | `(tactic| walk_at "ev1") => `(tactic| first
  | exact ev_int | exact ev_bl | exact ev_str | exact ev_non | exact ev_var rfl | exact ea_nil | exact eo_none
  | with_reducible apply ev_ixDisp | with_reducible apply ev_fst | with_reducible apply ev_snd
  | with_reducible apply ev_add | with_reducible apply ev_sub | with_reducible apply ev_mul | with_reducible apply ev_fdiv | with_reducible apply ev_mod | with_reducible apply ev_pow
  | with_reducible apply ev_lt | with_reducible apply ev_le | with_reducible apply ev_gt | with_reducible apply ev_ge
  | with_reducible apply ev_eqI | with_reducible apply ev_neI
  | with_reducible apply ev_neg | with_reducible apply ev_subB | with_reducible apply ev_isNo | with_reducible apply ev_noNo
  | with_reducible apply ev_not | with_reducible apply et_test | with_reducible apply et_B | with_reducible apply et_not
  | with_reducible apply ev_abs | with_reducible apply ev_max | with_reducible apply ev_min | with_reducible apply ev_intB
  | with_reducible apply ev_gcd | with_reducible apply ev_frac | with_reducible apply ev_fadd | with_reducible apply ev_sign | with_reducible apply ev_cmpF
  | with_reducible apply ev_pull rfl
  | with_reducible apply ev_like
  | with_reducible apply ev_tup | with_reducible apply ev_lst | with_reducible apply ea_cons | with_reducible apply eo_some
  | with_reducible apply ev_order | exact ev_part rfl | exact ev_far rfl | exact ev_farPart rfl
  | (with_reducible show List.length _ ≤ 16000000; (simp; done)) | (with_reducible show (0 : Int) < _; decide) | (with_reducible show (_ : Int) < 1000000000000; decide) | (with_reducible show CPow _ _; (unfold CPow; decide)) | (with_reducible show CNz _ _; (unfold CNz; decide))
  | with_reducible apply sg_ret | with_reducible apply sg_asg | with_reducible apply sg_next)
local macro_rules | `(tactic| walk_at "ln") => `(tactic| first | walk_at "ev1" | with_reducible apply sg_seq)

/-! ### lists or tuples -/
def itemsOf : PyData → Option (List PyData)
  | .list xs => some xs
  | .tuple xs => some xs
  | _ => none
theorem items_cases {x : PyData} {xs : List PyData} (h : itemsOf x = some xs) : x = .list xs ∨ x = .tuple xs := by
  cases x <;> first | cases h | skip
  · exact .inl rfl
  · exact .inr rfl
section
variable {K : Fg} {cs : Cs} {gs : Gs} {W : WX} {G : Gam} {s s1 s2 s3 s' : Bag} {ta tb tc te : TE} {x y : PyData} {E : XK} {xs : List PyData}
/-! ### maps -/
abbrev mp (m : List (List Fr)) : PyData := .tuple (m.map frs)
-- slots of map_of: 0 rows, 1 row, 2 one
end
end U


end
section
namespace U
open PySem PyProof.Rows L2 Evl
local macro_rules | `(tactic| walk_at "ev1") => `(tactic| first
  | exact ev_int | exact ev_bl | exact ev_str | exact ev_non | exact ev_var rfl | exact ea_nil | exact eo_none
  | with_reducible apply ev_ixDisp | with_reducible apply ev_fst | with_reducible apply ev_snd
  | with_reducible apply ev_add | with_reducible apply ev_sub | with_reducible apply ev_mul | with_reducible apply ev_fdiv | with_reducible apply ev_mod | with_reducible apply ev_pow
  | with_reducible apply ev_lt | with_reducible apply ev_le | with_reducible apply ev_gt | with_reducible apply ev_ge
  | with_reducible apply ev_eqI | with_reducible apply ev_neI
  | with_reducible apply ev_neg | with_reducible apply ev_subB | with_reducible apply ev_isNo | with_reducible apply ev_noNo
  | with_reducible apply ev_not | with_reducible apply et_test | with_reducible apply et_B | with_reducible apply et_not
  | with_reducible apply ev_abs | with_reducible apply ev_max | with_reducible apply ev_min | with_reducible apply ev_intB
  | with_reducible apply ev_gcd | with_reducible apply ev_frac | with_reducible apply ev_fadd | with_reducible apply ev_sign | with_reducible apply ev_cmpF
  | with_reducible apply ev_pull rfl
  | with_reducible apply ev_like
  | with_reducible apply ev_tup | with_reducible apply ev_lst | with_reducible apply ea_cons | with_reducible apply eo_some
  | with_reducible apply ev_order | exact ev_part rfl | exact ev_far rfl | exact ev_farPart rfl
  | (with_reducible show List.length _ ≤ 16000000; (simp; done)) | (with_reducible show (0 : Int) < _; decide) | (with_reducible show (_ : Int) < 1000000000000; decide) | (with_reducible show CPow _ _; (unfold CPow; decide)) | (with_reducible show CNz _ _; (unfold CNz; decide))
  | with_reducible apply sg_ret | with_reducible apply sg_asg | with_reducible apply sg_next)
local macro_rules | `(tactic| walk_at "ln") => `(tactic| first | walk_at "ev1" | with_reducible apply sg_seq)

section
variable {K : Fg} {cs : Cs} {gs : Gs} {W : WX} {G : Gam} {s s1 s2 s3 s' : Bag} {ta tb tc te : TE} {x y : PyData} {E : XK} {xs : List PyData}
-- slots of still: 0 room
-- slots of straightened: 0 way, 1 row
/-! ### drawn maps -/
def wholePartOf (s : Bag) : Fr := (pullV s 9 - 4, 1)
def P_wholePart : Bag → List PyData → PyData → Bag → Prop := fun s ds r s' => ds = [] ∧ r = fr (wholePartOf s) ∧ s' = pullS s 9
def t__law_whole_part (K : Fg) : TS := (tRet (tTup (tCons (tOp (rI0 fun i j => V.int (i - j)) (tCall (spB K P_pull) [] E0 (tCons (tVar 0) (tCons (tC (V.int 9)) tNil))) (tC (V.int 4))) (tCons (tC (V.int 1)) tNil))))
-- slots of _law_whole_part: 0 _law_bag_here
theorem ln__law_whole_part : ∀ s ds r s', P_wholePart s ds r s' → ds.length + 1 = 1 := fun s ds r s' h => by obtain ⟨rfl, _⟩ := h; rfl
theorem rd__law_whole_part {s ds r s'} (h : P_wholePart s ds r s') (ok : s.ok) : SG K (t__law_whole_part K) (.bag :: frame 0 ds) s (.rt r s') := by
  obtain ⟨rfl, rfl, rfl⟩ := h
  exact sg_ret (ev_tup (ea_cons (ev_sub (ev_pull rfl ev_int (by decide) (by decide)) ev_int) (ea_cons ev_int ea_nil)) (by show 2 ≤ 16000000; decide))
theorem wholePartOf_gd (s : Bag) : Gd 10 (wholePartOf s) := by
  have h := pullV_range s (n := 9) (by decide)
  refine ⟨⟨?_, ?_⟩, by show (0 : Int) < 1; decide, gI_one _⟩
  · show Bd 10 (pullV s 9 - 4)
    unfold Bd; omega
  · show Bd 10 1
    unfold Bd; decide
def entryOf (s : Bag) : Fr := if pullV s 2 = 0 then partOf (pullS s 2) else wholePartOf (pullS s 2)
def entryS (s : Bag) : Bag := if pullV s 2 = 0 then partS (pullS s 2) else pullS (pullS s 2) 9
def P_entry : Bag → List PyData → PyData → Bag → Prop := fun s ds r s' => ds = [] ∧ r = fr (entryOf s) ∧ s' = entryS s
theorem entryOf_gd (s : Bag) : Gd 10 (entryOf s) := by
  unfold entryOf
  split
  · exact partOf_gd _
  · exact wholePartOf_gd _
theorem entryS_ok {s : Bag} (h : s.ok) : (entryS s).ok := by
  unfold entryS
  split
  · exact partS_ok (pullS_ok _ h)
  · exact pullS_ok _ (pullS_ok _ h)
def t__law_entry (K : Fg) : TS := (tRet (tIf (tTest (tOp rEq (tCall (spB K P_pull) [] E0 (tCons (tVar 0) (tCons (tC (V.int 2)) tNil))) (tC (V.int 0)))) (tCall (spB K P_part) [] E0 (tCons (tVar 0) tNil)) (tCall (spB K P_wholePart) [] E0 (tCons (tVar 0) tNil))))
-- slots of _law_entry: 0 _law_bag_here
theorem ln__law_entry : ∀ s ds r s', P_entry s ds r s' → ds.length + 1 = 1 := fun s ds r s' h => by obtain ⟨rfl, _⟩ := h; rfl
theorem rd__law_entry {s ds r s'} (h : P_entry s ds r s') (ok : s.ok) : SG K (t__law_entry K) (.bag :: frame 0 ds) s (.rt r s') := by
  obtain ⟨rfl, rfl, rfl⟩ := h
  unfold entryOf entryS
  by_cases h : pullV s 2 = 0
  · rw [if_pos h, if_pos h]
    exact sg_ret (ev_ifT (et_is (et_test (ev_eqI (ev_pull rfl ev_int (by decide) (by decide)) ev_int)) (decide_eq_true h)) (ev_part rfl))
  · rw [if_neg h, if_neg h]
    exact sg_ret (ev_ifF (et_is (et_test (ev_eqI (ev_pull rfl ev_int (by decide) (by decide)) ev_int)) (decide_eq_false h)) (ev_b0 rfl ⟨rfl, rfl, rfl⟩))
def drawFr (F : Bag → Fr) (N : Bag → Bag) (n : Nat) (s : Bag) : List Fr := (List.range n).map fun i => F (itB N i s)
theorem drawn_fr (F : Bag → Fr) (N : Bag → Bag) (n : Nat) (s : Bag) : drawn (fun s => fr (F s)) N n s = (drawFr F N n s).map fr := by
  unfold drawn drawFr
  rw [List.map_map]
  rfl
theorem drawFr_gd {k : Nat} {F : Bag → Fr} {N : Bag → Bag} (h : ∀ s, Gd k (F s)) (n : Nat) (s : Bag) : Gds k (drawFr F N n s) := fun p hp => by
  unfold drawFr at hp
  obtain ⟨i, _, rfl⟩ := List.mem_map.mp hp
  exact h _
theorem drawFr_len (F : Bag → Fr) (N : Bag → Bag) (n : Nat) (s : Bag) : (drawFr F N n s).length = n := by simp [drawFr]
theorem itB_ok {N : Bag → Bag} (h : ∀ {s : Bag}, s.ok → (N s).ok) {s : Bag} (hs : s.ok) : ∀ n, (itB N n s).ok
  | 0 => hs
  | n + 1 => h (itB_ok h hs n)
def rowOf (n : Nat) (s : Bag) : List Fr := drawFr entryOf entryS n s
def rowS (n : Nat) (s : Bag) : Bag := itB entryS n s
def mapOf (st gl : Nat) (s : Bag) : List (List Fr) := (List.range gl).map fun i => rowOf (st + 1) (itB (rowS (st + 1)) i s)
def mapS (st gl : Nat) (s : Bag) : Bag := itB (rowS (st + 1)) gl s
/-- a map of n rows of m + 1 fractions -/
structure Mp (k n m : Nat) (a : List (List Fr)) : Prop where
  len : a.length = n
  row : ∀ r ∈ a, r.length = m + 1 ∧ Gds k r
theorem mapOf_mp (st gl : Nat) (s : Bag) : Mp 10 gl st (mapOf st gl s) := by
  refine ⟨by simp [mapOf], fun r hr => ?_⟩
  unfold mapOf at hr
  obtain ⟨i, _, rfl⟩ := List.mem_map.mp hr
  exact ⟨drawFr_len _ _ _ _, drawFr_gd entryOf_gd _ _⟩
theorem mapS_ok {s : Bag} (h : s.ok) (st gl : Nat) : (mapS st gl s).ok := itB_ok (fun h => itB_ok entryS_ok h _) h _
def P_map : Bag → List PyData → PyData → Bag → Prop := fun s ds r s' => ∃ st gl : Nat, ds = [.int st, .int gl] ∧ st ≤ 1000 ∧ gl ≤ 1000 ∧ r = mp (mapOf st gl s) ∧ s' = mapS st gl s
def t__law_map (K : Fg) : TS := (tRet (tCB (rTupQ K) (tCons (tLc (iRng1 (tCons (tVar 2) tNil)) (gName 3) tYes (tCB (rTupQ K) (tCons (tLc (iRng1 (tCons (tOp (rI0 fun i j => V.int (i + j)) (tVar 1) (tC (V.int 1))) tNil)) (gName 4) tYes (tCall (spB K P_entry) [] E0 (tCons (tVar 0) tNil)) [4]) tNil)) [3]) tNil)))
-- slots of _law_map: 0 _law_bag_here, 1 _law_start, 2 _law_goal, 3 _law_row, 4 _law_at
theorem ln__law_map : ∀ s ds r s', P_map s ds r s' → ds.length + 1 = 3 := fun s ds r s' h => by obtain ⟨_, _, rfl, _⟩ := h; rfl
theorem rd__law_map {s ds r s'} (h : P_map s ds r s') (ok : s.ok) : SG K (t__law_map K) (.bag :: frame 4 ds) s (.rt r s') := by
  obtain ⟨st, gl, rfl, h1, h2, rfl, rfl⟩ := h
  have inner : ∀ (x : PyData) (s : Bag), EvG K (tCB (rTupQ K) (tCons (tLc (iRng1 (tCons (tOp (rI0 fun i j => V.int (i + j)) (tVar 1) (tC (V.int 1))) tNil)) (gName 4) tYes (tCall (spB K P_entry) [] E0 (tCons (tVar 0) tNil)) [4]) tNil)) [.bag, .d (.int st), .d (.int gl), .d x, .un] s (frs (rowOf (st + 1) s)) (rowS (st + 1) s) := fun x s => by
    have e := ev_lcDraw (K := K) (te := tCall (spB K P_entry) [] E0 (tCons (tVar 0) tNil)) (G := [.bag, .d (.int st), .d (.int gl), .d x, .un]) (src_rng1 (ta := tCons (tOp (rI0 fun i j => V.int (i + j)) (tVar 1) (tC (V.int 1))) tNil) (s := s) (ea_cons (ev_add (ev_var rfl) ev_int) ea_nil) ⟨by omega, by omega⟩) (g := gName 4) (vs := [4]) (fun s => fr (entryOf s)) entryS (un_at rfl) (by rw [rngD_len]; omega)
      (fun x s hx => ⟨_, tgt_name, ev_b0 rfl ⟨rfl, rfl, rfl⟩⟩)
    rw [rngD_len, show ((st : Int) + 1).toNat = st + 1 by omega, drawn_fr] at e
    exact ev_tupL e
  have e := ev_lcDraw (K := K) (G := .bag :: frame 4 [.int st, .int gl]) (src_rng1 (ta := tCons (tVar 2) tNil) (s := s) (ea_cons (ev_var rfl) ea_nil) ⟨by omega, by omega⟩) (g := gName 3) (vs := [3]) (fun s => frs (rowOf (st + 1) s)) (rowS (st + 1)) (un_at rfl) (by rw [rngD_len]; omega)
    (fun x s hx => ⟨_, tgt_name, inner x s⟩)
  rw [rngD_len, Int.toNat_natCast] at e
  refine sg_ret (ev_is (ev_tupL e) ?_)
  unfold mapOf drawn mp
  rw [List.map_map]
  rfl
-- slots of told15: 0 _law_rows, 1 why
end
end U


end
section
namespace U
open PySem PyProof.Rows L2 Evl
section
variable {K : Fg} {cs : Cs} {gs : Gs} {W : WX} {G GI G1 : Gam} {s s1 s2 s3 s' : Bag} {ta tb tc te : TE} {x y : PyData} {E : XK} {xs : List PyData}
end
end U


end
section
namespace U.N
open PySem PyProof.Rows L2 Evl
section
variable {K : Fg} {cs : Cs} {W : WX} {G G' G1 G2 : Gam} {ta tb tc te : TE} {t u : TT} {φ : PyData → Prop} {ε : Xw → Prop} {ψ : Bool → Prop} {α : List PyData → Prop} {ι : List PyData → Prop} {χ : Own → Prop} {ω : Option Int → Prop}
variable {Wd : Addr → Prop} {B : Option (Addr × Addr)} {ad : Nat → Addr} {H0 H H1 H2 : Hp} {σ : St}
/-! ### items -/
/-- an item of a list or a tuple -/
theorem ew_ix (h : EW K cs W ta G (fun x => ∃ xs, itemsOf x = some xs ∧ EW K cs W tb G (fun y => ∃ j, y = .int j ∧ ∃ z, atI xs j = some z ∧ φ z) ε) ε) : EW K cs W (tOp (rIx K) ta tb) G φ ε :=
  ew_op (ew_mono h fun x ⟨xs, e, h⟩ => ew_mono h fun y ⟨j, e2, z, hz, p⟩ => fun Wd B ad H0 H σ v w S d1 d2 Q q => by
    subst e2
    cases d2
    rcases items_cases e with rfl | rfl
    · cases d1 with
      | lst g t =>
        obtain ⟨v, g1, g2⟩ := dpa_atI t hz
        exact .inl ⟨_, _, j, v, rfl, rfl, ex_l less_ex g, g1, q _ p _ H S Xb.refl g2⟩
    · cases d1 with
      | tup g t =>
        obtain ⟨v, g1, g2⟩ := dpa_atI t hz
        exact .inr (.inl ⟨_, _, j, v, rfl, rfl, ex_t less_ex g, g1, q _ p _ H S Xb.refl g2⟩))
/-- an item of a list of one's own -/
theorem ew_ixO {xs : List PyData} {i : Nat} (hi : G[i]? = some (.ow (ol xs))) (h : EW K cs W tb G (fun y => ∃ j, y = .int j ∧ ∃ z, atI xs j = some z ∧ φ z) ε) : EW K cs W (tOp (rIx K) (tVar i) tb) G φ ε := fun Wd B ad H0 H σ S Q q x => by
  obtain ⟨o, g1, rfl, _⟩ := S.at_ i _ hi
  refine ⟨_, g1, h Wd B ad H0 H σ S _ (fun y ⟨j, e, z, hz, p⟩ w H2 S2 e2 d2 => ?_) x⟩
  subst e
  cases d2
  obtain ⟨_, _, _, vs, g3, g4⟩ := S2.at_ i _ hi
  have g3 : H2 (ad i) = some (.lst vs) := g3
  have g4 : DpAll K _ vs xs := g4
  obtain ⟨v, g5, g6⟩ := dpa_atI g4 hz
  exact .inl ⟨_, _, j, v, rfl, rfl, sq_of g3, g5, q _ p _ H2 S2 e2 g6⟩
/-! ### tests -/
theorem tw_test (h : EW K cs W te G (fun x => ∃ b, x = .bool b ∧ ψ b) ε) : TW K cs W (tTest te) G ψ ε := fun Wd B ad H0 H σ S Q q x => h Wd B ad H0 H σ S _ (fun y ⟨b, e, p⟩ v H1 S1 e1 d1 => by
  subst e
  cases d1
  exact ⟨b, rfl, q b p H1 S1 e1⟩) x
theorem tw_B (h : EW K cs W te G (fun x => ∃ b, x = .bool b ∧ ψ b) ε) : TW K cs W (tB te) G ψ ε := tw_test h
theorem tw_yes (h : ψ true) : TW K cs W tYes G ψ ε := fun Wd B ad H0 H σ S Q q x => q true h H S Xb.refl
theorem tw_not (h : TW K cs W t G (fun b => ψ (!b)) ε) : TW K cs W (tNot t) G ψ ε := fun Wd B ad H0 H σ S Q q x => h Wd B ad H0 H σ S _ (fun b p => q (!b) p) x
theorem ew_if (h : TW K cs W t G (fun b => Cnd b (EW K cs W ta G φ ε) (EW K cs W tb G φ ε)) ε) : EW K cs W (tIf t ta tb) G φ ε := fun Wd B ad H0 H σ S Q q x => h Wd B ad H0 H σ S _ (fun b p H1 S1 e1 => by
  cases b with
  | true => exact iteT (p.1 rfl Wd B ad H0 H1 σ S1 _ (fun b p v H2 S2 e2 d2 => q b p v H2 S2 (e1.trans e2) d2) (x.go e1))
  | false => exact iteF (p.2 rfl Wd B ad H0 H1 σ S1 _ (fun b p v H2 S2 e2 d2 => q b p v H2 S2 (e1.trans e2) d2) (x.go e1))) x
/-! ### promises -/
inductive Rs where
  | ok (x : PyData)
  | fl (c : Own)
  | er (e : Xw)
abbrev Pr := List PyData → (Rs → Prop) → Prop
def okRs (H : Hp) (K : Fg) (Wd : Addr → Prop) (Q : VK) (A : Rs → Prop) : Prop :=
  (∀ x, A (.ok x) → ∀ v H', Ex H H' → Dp K (less H' Wd) v x → Q v H') ∧
  (∀ c, A (.fl c) → ∀ a vs H', Ex H H' → H a = none → H' a = some (c.obj a vs) → DpAll K (less H' fun b => Wd b ∨ b = a) vs c.flat → Q (.ref a) H')
/-- a def that never raises -/
def spW0 (K : Fg) (P : Pr) : Sp := fun vs H Q _ => ∃ (Wd : Addr → Prop) (ds : List PyData) (A : Rs → Prop), (∀ a, Wd a → ∃ o, H a = some o) ∧ DpAll K (less H Wd) vs ds ∧ P ds A ∧ okRs H K Wd Q A
/-- a def that may raise -/
def spW (K : Fg) (cs : Cs) (P : Pr) : Sp := fun vs H Q E => ∃ (Wd : Addr → Prop) (ds : List PyData) (A : Rs → Prop), (∀ a, Wd a → ∃ o, H a = some o) ∧ DpAll K (less H Wd) vs ds ∧ P ds A ∧ okRs H K Wd Q A ∧
  ∀ e, A (.er e) → ∀ d H', Ex H H' → H d = none → H' d = some (.xd e.fs) → E (.ref (cs e.cls)) (some d) H'
/-- what is wanted of a call's answer -/
def rE (φ : PyData → Prop) (ε : Xw → Prop) : Rs → Prop
  | .ok x => φ x
  | .fl c => ∃ xs, c = ol xs ∧ φ (.list xs)
  | .er e => ε e
theorem fl_upd {a : Addr} {o : HO} (h : H a = some o) : upd (less H fun b => b = a) a o = H := by
  funext b
  by_cases e : b = a
  · rw [e, upd_same, h]
  · rw [upd_ne e]; exact less_no (Z := fun b => b = a) e
theorem less_less {Z Z' : Addr → Prop} : less (less H Z) Z' = less H fun b => Z b ∨ Z' b := by
  funext b
  by_cases z' : Z' b
  · rw [less_yes z', less_yes (.inr z')]
  · rw [less_no z']
    by_cases z : Z b
    · rw [less_yes z, less_yes (.inl z)]
    · rw [less_no z, less_no (fun h => h.elim z z')]
/-- the answer of a call, a new thing: what stood before stands without it -/
theorem fl_go {a : Addr} {o : HO} (S : Sta K Wd B ad H0 H σ G) (e : Xb B H H2) (b : BagOk H2 B) (hn : H a = none) (ho : H2 a = some o) : Sta K Wd B ad H0 (less H2 fun b => b = a) σ G ∧ Xb B H (less H2 fun b => b = a) ∧ (less H2 fun b => b = a) a = none ∧ (less (less H2 fun b => b = a) (Zs Wd B ad G)) = less H2 (fun b => Zs Wd B ad G b ∨ b = a) := by
  have x : Xb B H (less H2 fun b => b = a) := fun p u h n => less_of (fun z => by rw [z, hn] at h; cases h) (e p u h n)
  have nb : ¬ InB B a := (S.fresh hn).2.1
  refine ⟨S.drawn x (b.xb fun p z => less_no fun e => nb (e ▸ z)), x, less_yes rfl, ?_⟩
  rw [less_less]
  exact congrArg (less H2) (funext fun b => propext Or.comm)
theorem ew_callP {P : List PyData → PyData → Prop} {ta : TA} {dvs : List V} {des : List PyData} {E : XK} (hd : ∀ H, DpAll K H dvs des) (h : AW K cs W ta G (fun ds => ∃ r, P (ds ++ des) r ∧ φ r) ε) : EW K cs W (tCall (spP K P) dvs E ta) G φ ε := fun Wd B ad H0 H σ S Q q x =>
  h Wd B ad H0 H σ S _ (fun ds ⟨r, hp, p⟩ vs H1 S1 e1 d1 => ⟨Zs Wd B ad G, ds ++ des, r, S1.there, dpa_app d1 (hd _), hp, fun v H' e d => q r p v H' (S1.ext e) (e1.trans (.of e)) d⟩) x
theorem bag_zl {b c : Addr} (H : Hp) : (less H fun a => (Wd a ∨ ∃ i c, G[i]? = some (En.ow c) ∧ a = ad i) ∨ InB (some (b, c)) a) = less H (Zs Wd (some (b, c)) ad G) := congrArg (less H) (funext fun a => propext or_assoc)
theorem ew_callB {P : Bag → List PyData → PyData → Bag → Prop} {tr : TA} {i : Nat} {E : XK} (hi : G[i]? = some .bag) (h : AW K cs W tr G (fun ds => ∀ s : Bag, s.ok → ∃ r s', P s ds r s' ∧ s'.ok ∧ φ r) ε) : EW K cs W (tCall (spB K P) [] E (tCons (tVar i) tr)) G φ ε := fun Wd B ad H0 H σ S Q q x => by
  obtain ⟨o, g1, b, c, rfl, rfl⟩ := S.at_ i _ hi
  refine ⟨_, g1, h Wd _ ad H0 H σ S _ (fun ds hp vs H1 S1 e1 d1 => ?_) x⟩
  obtain ⟨s, ok, hb⟩ := S1.bag
  obtain ⟨r, s', hp, ok', p⟩ := hp s ok
  refine ⟨fun a => Wd a ∨ ∃ i c, G[i]? = some (En.ow c) ∧ a = ad i, b, c, vs, s, ds, r, s', fun a z => S1.there a (or_assoc.mp (.inl z)), ?_, hb, ?_, hp, fun v H' e hb d => ?_⟩
  · rw [List.append_nil]
  · rw [bag_zl]; exact d1
  · rw [bag_zl] at d
    exact q r p v H' (S1.drawn e ⟨s', ok', hb⟩) (e1.trans e) d
section
variable {P : Pr} {ta : TA} {dvs : List V} {des : List PyData} {E : XK}
theorem ew_call0 (hd : ∀ H, DpAll K H dvs des) (h : AW K cs W ta G (fun ds => P (ds ++ des) (rE φ fun _ => False)) ε) : EW K cs W (tCall (spW0 K P) dvs E ta) G φ ε := fun Wd B ad H0 H σ S Q q x =>
  h Wd B ad H0 H σ S _ (fun ds hp vs H1 S1 e1 d1 => ⟨Zs Wd B ad G, ds ++ des, _, S1.there, dpa_app d1 (hd _), hp, fun y p v H' e d => q y p v H' (S1.ext e) (e1.trans (.of e)) d, fun c p a us H' e hn ho d => by
    obtain ⟨xs, rfl, p⟩ := p
    have S2 := S1.ext e
    refine q _ p _ H' S2 (e1.trans (.of e)) (.lst (sq_of (less_of (S1.fresh hn).2.2 ho)) (dpa_mono (less_sub fun b z => .inl z) d))⟩) x
theorem ew_callW (hd : ∀ H, DpAll K H dvs des) (h : AW K cs W ta G (fun ds => P (ds ++ des) (rE φ ε)) ε) : EW K cs W (tCallSD (spW K cs P) dvs (WE W) ta) G φ ε := fun Wd B ad H0 H σ S Q q x =>
  h Wd B ad H0 H σ S _ (fun ds hp vs H1 S1 e1 d1 => ⟨Zs Wd B ad G, ds ++ des, _, S1.there, dpa_app d1 (hd _), hp, ⟨fun y p v H' e d => q y p v H' (S1.ext e) (e1.trans (.of e)) d, fun c p a us H' e hn ho d => by
    obtain ⟨xs, rfl, p⟩ := p
    have S2 := S1.ext e
    refine q _ p _ H' S2 (e1.trans (.of e)) (.lst (sq_of (less_of (S1.fresh hn).2.2 ho)) (dpa_mono (less_sub fun b z => .inl z) d))⟩, fun e p d H' e2 hn hx => x e p d H' (S1.ext e2) (e1.trans (.of e2)) (S1.fresh hn).1 (less_of (S1.fresh hn).2.2 hx)⟩) x
end
/-! ### built-ins -/
theorem ew_cb {r : List V → Hp → VK → Prop} {ta : TA} (h : AW K cs W ta G (fun xs => ∀ Wd B ad H0 H σ vs, Sta K Wd B ad H0 H σ G → DpAll K (less H (Zs Wd B ad G)) vs xs → ∀ Q : VK, (∀ z, φ z → ∀ v H2, Sta K Wd B ad H0 H2 σ G → Xb B H H2 → Dp K (less H2 (Zs Wd B ad G)) v z → Q v H2) → r vs H Q) ε) : EW K cs W (tCB r ta) G φ ε := fun Wd B ad H0 H σ S Q q x =>
  h Wd B ad H0 H σ S _ (fun xs p vs H1 S1 e1 d1 => p Wd B ad H0 H1 σ vs S1 d1 Q fun z p v H2 S2 e2 d2 => q z p v H2 S2 (e1.trans e2) d2) x
theorem ew_len {ta : TA} (h : AW K cs W ta G (fun xs => ∃ x ys, xs = [x] ∧ itemsOf x = some ys ∧ φ (.int ys.length)) ε) : EW K cs W (tCB (rLenQ K) ta) G φ ε := ew_cb (aw_mono h fun xs ⟨x, ys, e, hx, p⟩ Wd B ad H0 H σ vs S d Q q => by
  subst e
  obtain ⟨v, rfl, d1⟩ := dp1 d
  rcases items_cases hx with rfl | rfl
  · cases d1 with
    | lst g t => exact ⟨_, _, rfl, .inl (ex_l less_ex g), by rw [dpa_len t]; exact q _ p _ H S Xb.refl (.int _)⟩
  · cases d1 with
    | tup g t => exact ⟨_, _, rfl, .inr (ex_t less_ex g), by rw [dpa_len t]; exact q _ p _ H S Xb.refl (.int _)⟩)
theorem new_tupW {vs : List V} {xs : List PyData} (S : Sta K Wd B ad H0 H σ G) (d : DpAll K (less H (Zs Wd B ad G)) vs xs) {l : Addr} (hl : H l = none) {Q : VK} (p : φ (.tuple xs))
    (q : ∀ z, φ z → ∀ v H2, Sta K Wd B ad H0 H2 σ G → Xb B H H2 → Dp K (less H2 (Zs Wd B ad G)) v z → Q v H2) : Q (.ref l) (upd H l (.tup vs)) := by
  obtain ⟨S2, e2, g⟩ := new_ex (o := .tup vs) S hl
  exact q _ p _ _ S2 e2 (.tup (st_of g) (dpa_mono (Xb.lz e2) d))
theorem ew_tuple {ta : TA} (h : AW K cs W ta G (fun xs => ∃ x ys, xs = [x] ∧ itemsOf x = some ys ∧ φ (.tuple ys)) ε) : EW K cs W (tCB (rTupQ K) ta) G φ ε := ew_cb (aw_mono h fun xs ⟨x, ys, e, hx, p⟩ Wd B ad H0 H σ vs S d Q q => by
  subst e
  obtain ⟨v, rfl, d1⟩ := dp1 d
  rcases items_cases hx with rfl | rfl
  · cases d1 with
    | lst g t => exact ⟨_, _, rfl, .inl ⟨ex_l less_ex g, fun l hl => new_tupW S t hl p q⟩⟩
  · cases d1 with
    | tup g t => exact ⟨_, _, rfl, .inr ⟨ex_t less_ex g, q _ p _ H S Xb.refl (.tup g t)⟩⟩)
theorem ew_tupO {xs : List PyData} {i : Nat} (hi : G[i]? = some (.ow (ol xs))) (p : φ (.tuple xs)) : EW K cs W (tCB (rTupQ K) (tCons (tVar i) tNil)) G φ ε := fun Wd B ad H0 H σ S Q q x => by
  obtain ⟨o, g1, rfl, vs, g3, g4⟩ := S.at_ i _ hi
  have g3 : H (ad i) = some (.lst vs) := g3
  exact ⟨_, g1, _, _, rfl, .inl ⟨sq_of g3, fun l hl => new_tupW S g4 hl p q⟩⟩
/-! ### slices, joins -/
theorem ow_none (p : ω none) : OW K cs W tNoPart G ω ε := fun Wd B ad H0 H σ S Q q _ => q _ p H S Xb.refl
theorem ow_some (h : EW K cs W te G (fun x => ∃ i, x = .int i ∧ ω (some i)) ε) : OW K cs W (tPart te) G ω ε := fun Wd B ad H0 H σ S Q q x => h Wd B ad H0 H σ S _ (fun y ⟨i, e, p⟩ v H1 S1 e1 d1 => by
  subst e
  cases d1
  exact ⟨i, rfl, q _ p H1 S1 e1⟩) x
theorem ew_slA {tl th : TO} (h : EW K cs W te G (fun x => ∃ xs, x = .tuple xs ∧ OW K cs W tl G (fun lo => OW K cs W th G (fun hi => φ (.tuple (cutD xs lo hi))) ε) ε) ε) : EW K cs W (tSl (rSlA K) te tl th) G φ ε := fun Wd B ad H0 H σ S Q q x =>
  h Wd B ad H0 H σ S _ (fun y ⟨xs, e, p⟩ v H1 S1 e1 d1 => p Wd B ad H0 H1 σ S1 _ (fun lo p H2 S2 e2 => p Wd B ad H0 H2 σ S2 _ (fun hi p H3 S3 e3 => by
    subst e
    cases dp_mono (Xb.lz (e2.trans e3)) d1 with
    | tup g t =>
      have l := dpa_len t
      refine ⟨_, _, rfl, ex_t less_ex g, fun z => ?_, fun z l hl => new_tupW S3 (dpa_cut t lo hi) hl p fun z p v H4 S4 e4 d4 => q z p v H4 S4 ((e1.trans (e2.trans e3)).trans e4) d4⟩
      rw [l] at z
      exact q _ p _ H3 S3 (e1.trans (e2.trans e3)) (by rw [cutD_whole z]; exact .tup g t)) ((x.go e1).go e2)) (x.go e1)) x
theorem ef_catL (h : EW K cs W ta G (fun x => ∃ xs, x = .list xs ∧ EW K cs W tb G (fun y => ∃ ys, y = .list ys ∧ xs.length + ys.length ≤ 16000000 ∧ χ (ol (xs ++ ys))) ε) ε) : EF K cs W (tOp (rCatL K) ta tb) G χ ε := fun Wd B ad H0 H σ S Q q x =>
  h Wd B ad H0 H σ S _ (fun y ⟨xs, e, p⟩ v H1 S1 e1 d1 => p Wd B ad H0 H1 σ S1 _ (fun y ⟨ys, e', hl, p⟩ w H2 S2 e2 d2 => by
    subst e; subst e'
    cases dp_mono (Xb.lz e2) d1 with
    | lst g t =>
      cases d2 with
      | lst g2 t2 =>
        exact ⟨_, _, _, _, rfl, rfl, ex_l less_ex g, ex_l less_ex g2, by rw [dpa_len t, dpa_len t2]; exact sz_line hl, fun l hn => q _ p l _ H2 S2 (e1.trans e2) hn (dpa_app t t2)⟩) (x.go e1)) x
theorem ew_catL (h : EW K cs W ta G (fun x => ∃ xs, x = .list xs ∧ EW K cs W tb G (fun y => ∃ ys, y = .list ys ∧ xs.length + ys.length ≤ 16000000 ∧ φ (.list (xs ++ ys))) ε) ε) : EW K cs W (tOp (rCatL K) ta tb) G φ ε :=
  ew_ef (ef_catL (ew_mono h fun x ⟨xs, e, p⟩ => ⟨xs, e, ew_mono p fun y ⟨ys, e, hl, p⟩ => ⟨ys, e, hl, _, rfl, p⟩⟩))
theorem ew_catA (h : EW K cs W ta G (fun x => ∃ xs, x = .tuple xs ∧ EW K cs W tb G (fun y => ∃ ys, y = .tuple ys ∧ xs.length + ys.length ≤ 16000000 ∧ φ (.tuple (xs ++ ys))) ε) ε) : EW K cs W (tOp (rCatA K) ta tb) G φ ε :=
  ew_op (ew_mono h fun x ⟨xs, e, h⟩ => ew_mono h fun y ⟨ys, e2, hl, p⟩ => fun Wd B ad H0 H σ v w S d1 d2 Q q => by
    subst e; subst e2
    cases d1 with
    | tup g t =>
      cases d2 with
      | tup g2 t2 =>
        refine ⟨_, _, _, _, rfl, rfl, ex_t less_ex g, ex_t less_ex g2, by rw [dpa_len t, dpa_len t2]; exact sz_line hl, fun z => ?_, fun z1 z2 => ?_, fun z1 z2 l hl => new_tupW S (dpa_app t t2) hl p q⟩
        · have e := (dpa_nil t).mp z
          subst e
          exact q _ p _ H S Xb.refl (.tup g2 t2)
        · have e := (dpa_nil t2).mp z2
          subst e
          exact q _ p _ H S Xb.refl (by rw [List.append_nil]; exact .tup g t))
/-! ### in, of whole numbers -/
end
end U.N

end
section
namespace U.N
open PySem PyProof.Rows L2 Evl
/-! ### statements -/
def sq (K : Fg) (cs : Cs) (W : WX) (tz : TS) (Φ : Out → Prop) : Out → Prop
  | .nx G => SW K cs W tz G Φ
  | .rt x => Φ (.rt x)
  | .rl c => Φ (.rl c)
  | .bk G => Φ (.bk G)
  | .ct G => Φ (.ct G)
  | .ex e G => Φ (.ex e G)
/-- what a turn of a loop may end with -/
def lp (I : Gam → Prop) (Φ : Out → Prop) : Out → Prop
  | .nx G => I G
  | .ct G => I G
  | .bk G => Φ (.nx G)
  | .rt x => Φ (.rt x)
  | .rl c => Φ (.rl c)
  | .ex e G => Φ (.ex e G)
section
variable {K : Fg} {cs : Cs} {W : WX} {G G' G1 G2 : Gam} {ta tb tc te : TE} {t u : TT} {tu tw tz : TS} {φ : PyData → Prop} {ε : Xw → Prop} {ψ : Bool → Prop} {α : List PyData → Prop} {ι : List PyData → Prop} {χ : Own → Prop} {Φ Ψ : Out → Prop}
variable {Wd : Addr → Prop} {B : Option (Addr × Addr)} {ad : Nat → Addr} {H0 H H1 H2 : Hp} {σ : St}
theorem PostO.mono {M M' : Hp} {D : Ends} {o : Out} (e : Ex M M') (h : PostO K cs W Wd B H0 M D o) : PostO K cs W Wd B H0 M' D o := by
  cases o with
  | nx G => exact fun ad H σ S x => h ad H σ S (e.trans x)
  | rt x => exact h
  | rl c => exact h
  | bk G => exact fun ad H σ S x => h ad H σ S (e.trans x)
  | ct G => exact fun ad H σ S x => h ad H σ S (e.trans x)
  | ex e' G => exact fun d ad H σ S x => h d ad H σ S (e.trans x)
theorem post_xp {D : Ends} (q : ∀ o, Φ o → PostO K cs W Wd B H0 (less H (Zs Wd B ad G)) D o) : XP K cs W Wd B ad H0 H σ G (fun e => Φ (.ex e G)) := fun e he d H2 S x hd hx => q _ he d ad H2 σ S (Xb.lz x) hd hx
theorem sw_mono (h : SW K cs W tu G Φ) (m : ∀ o, Φ o → Ψ o) : SW K cs W tu G Ψ := fun Wd B ad H0 H σ D S q => h Wd B ad H0 H σ D S fun o p => q o (m o p)
theorem sw_seq (h : SW K cs W tu G (sq K cs W tz Φ)) : SW K cs W (tSeq tu tz) G Φ := fun Wd B ad H0 H σ D S q =>
  h Wd B ad H0 H σ { D with nx := tz D } S fun o p => by
    cases o with
    | nx G1 => exact fun ad' H' σ' S' e => p Wd B ad' H0 H' σ' D S' fun o p => (q o p).mono e
    | rt x => exact q _ p
    | rl c => exact q _ p
    | bk G => exact q _ p
    | ct G => exact q _ p
    | ex e G => exact q _ p
theorem sq_nx (h : SW K cs W tz G Φ) : sq K cs W tz Φ (.nx G) := h
theorem lp_nx {I : Gam → Prop} (h : I G) : lp I Φ (.nx G) := h
theorem sw_next (h : Φ (.nx G)) : SW K cs W tNext G Φ := fun Wd B ad H0 H σ D S q => q _ h ad H σ S (Ex.refl _)
theorem sw_asg {i : Nat} (h : EW K cs W te G (fun x => Φ (.nx (G.set i (.d x)))) (fun e => Φ (.ex e G))) : SW K cs W (tAsg te (gName i)) G Φ := fun Wd B ad H0 H σ D S q =>
  h Wd B ad H0 H σ S _ (fun x p v H1 S1 e1 d1 => q _ p ad H1 _ (S1.setD d1) ((Xb.lz e1).trans (less_sub fun a z => Zs.set_of (fun _ z => by cases z) z))) (post_xp q)
/-- a new thing of one's own -/
theorem sw_asgF {i : Nat} (h : EF K cs W te G (fun c => Φ (.nx (G.set i (.ow c)))) (fun e => Φ (.ex e G))) : SW K cs W (tAsg te (gName i)) G Φ := fun Wd B ad H0 H σ D S q =>
  h Wd B ad H0 H σ S _ (fun c p a vs H1 S1 e1 hn d => q _ p _ _ _ (S1.setOwn (i := i) hn d) ((Xb.lz e1).trans (own_ex hn))) (post_xp q)
theorem sw_ret (h : EW K cs W te G (fun x => Φ (.rt x)) (fun e => Φ (.ex e G))) : SW K cs W (tRet te) G Φ := fun Wd B ad H0 H σ D S q =>
  h Wd B ad H0 H σ S _ (fun x p v H1 S1 e1 d1 => q _ p v H1 S1.base S1.bag (dp_mono (less_sub fun a z => z.elim .inl fun z => .inr (.inr z)) d1)) (post_xp q)
theorem sw_if (h : TW K cs W t G (fun b => Cnd b (SW K cs W tu G Φ) (SW K cs W tw G Φ)) (fun e => Φ (.ex e G))) : SW K cs W (tIfS t tu tw) G Φ := fun Wd B ad H0 H σ D S q =>
  h Wd B ad H0 H σ S _ (fun b p H1 S1 e1 => by
    cases b with
    | true => exact iteT (p.1 rfl Wd B ad H0 H1 σ D S1 fun o p => (q o p).mono (Xb.lz e1))
    | false => exact iteF (p.2 rfl Wd B ad H0 H1 σ D S1 fun o p => (q o p).mono (Xb.lz e1))) (post_xp q)
theorem sw_freeze {i : Nat} {xs : List PyData} (hi : G[i]? = some (.ow (ol xs))) (h : SW K cs W tu (G.set i (.d (.list xs))) Φ) (hx : ∀ e G', Φ (.ex e G') → True := by intros; trivial) : SW K cs W tu G Φ := fun Wd B ad H0 H σ D S q =>
  h Wd B ad H0 H σ D (S.freeze hi) fun o p => (q o p).mono (less_sub fun a z => Zs.set_of (fun _ z => by cases z) z)
/-! ### lists of one's own -/
theorem sw_app {i : Nat} {xs : List PyData} (hi : G[i]? = some (.ow (ol xs))) (hl : xs.length < 16000000) (h : EW K cs W te G (fun x => Φ (.nx (G.set i (.ow (ol (xs ++ [x])))))) (fun e => Φ (.ex e G))) : SW K cs W (tDrop (tBM K "list" rAppend (tVar i) (tCons te tNil))) G Φ := fun Wd B ad H0 H σ D S q => by
  obtain ⟨o, g1, rfl, vs, g3, g4⟩ := S.at_ i _ hi
  have g3 : H (ad i) = some (.lst vs) := g3
  refine ⟨_, g1, Or.inl ⟨rfl, vs, sq_of g3⟩, h Wd B ad H0 H σ S _ (fun x p v H1 S1 e1 d1 => ?_) (post_xp q)⟩
  obtain ⟨_, _, _, us, g5, g6⟩ := S1.at_ i _ hi
  have g6 : DpAll K _ us xs := g6
  exact ⟨_, us, v, rfl, rfl, g5, by rw [dpa_len g6]; exact Nat.lt_of_lt_of_le hl (by decide), q _ p ad _ σ (S1.chg (c' := ol (xs ++ [x])) hi (dpa_app g6 (.cons d1 .nil))) ((Xb.lz e1).trans (chg_ex hi))⟩
/-! ### what is forgotten -/
inductive Wk : Gam → Gam → Prop
  | nil : Wk [] []
  | cons {e : En} {G G' : Gam} : Wk G G' → Wk (e :: G) (e :: G')
  | drop {e : En} {G G' : Gam} : Wk G G' → Wk (e :: G) (.un :: G')
theorem Wk.length : ∀ {G G' : Gam}, Wk G G' → G.length = G'.length
  | _, _, .nil => rfl
  | _, _, .cons h => congrArg (· + 1) h.length
  | _, _, .drop h => congrArg (· + 1) h.length
theorem Wk.get : ∀ {G G' : Gam} {i : Nat} {e : En}, Wk G G' → G'[i]? = some e → G[i]? = some e ∨ e = .un
  | _, _, _, _, .nil, h => by simp at h
  | _, _, 0, _, .cons _, h => .inl h
  | _, _, 0, _, .drop _, h => .inr (Option.some.inj h).symm
  | _, _, i + 1, _, .cons w, h => Wk.get (i := i) w h
  | _, _, i + 1, _, .drop w, h => Wk.get (i := i) w h
theorem Wk.own {G G' : Gam} {i : Nat} {c : Own} (w : Wk G G') (h : G'[i]? = some (.ow c)) : G[i]? = some (.ow c) := (w.get h).resolve_right fun z => by cases z
theorem Wk.ex {G G' : Gam} (w : Wk G G') : Ex (less H (Zs Wd B ad G)) (less H (Zs Wd B ad G')) := less_sub fun a q => by
  rcases q with q | ⟨i, c, g, r⟩ | q
  · exact .inl q
  · exact .inr (.inl ⟨i, c, w.own g, r⟩)
  · exact .inr (.inr q)
theorem Sta.wk {G G' : Gam} (w : Wk G G') (S : Sta K Wd B ad H0 H σ G) : Sta K Wd B ad H0 H σ G' where
  len := S.len.trans w.length
  at_ := fun i e h => by
    rcases w.get h with g | rfl
    · obtain ⟨o, g1, g2⟩ := S.at_ i e g
      exact ⟨o, g1, g2.mono w.ex fun _ _ _ q => q⟩
    · have il : i < σ.length := by rw [S.len, w.length]; exact (List.getElem?_eq_some_iff.mp h).1
      exact ⟨σ[i], List.getElem?_eq_getElem il, trivial⟩
  inj := fun i j c c' g g' q => S.inj i j c c' (w.own g) (w.own g') q
  sep := fun i c g => S.sep i c (w.own g)
  base := S.base
  bag := S.bag
  wd := S.wd
theorem sw_wk (w : Wk G G1) (h : SW K cs W tu G1 Φ) : SW K cs W tu G Φ := fun Wd B ad H0 H σ D S q =>
  h Wd B ad H0 H σ D (S.wk w) fun o p => (q o p).mono w.ex
/-! ### targets -/
/-- targets that only set names: vs tells which -/
def GC (K : Fg) (g : TG) (vs : List Nat) (G : Gam) (x : PyData) (γ : Gam → Prop) : Prop :=
  ∀ Wd B ad H0 H σ v, Sta K Wd B ad H0 H σ G → Dp K (less H (Zs Wd B ad G)) v x → ∀ Q : St → Hp → Prop,
  (∀ G' σ', γ G' → G.length = G'.length → (∀ i, i ∉ vs → G'[i]? = G[i]?) → (∀ i c, i ∈ vs → G'[i]? = some (.ow c) → G[i]? = some (.ow c)) → Sta K Wd B ad H0 H σ' G' → Ex (less H (Zs Wd B ad G)) (less H (Zs Wd B ad G')) → wipe σ' vs = wipe σ vs → Q σ' H) → g v σ H Q
def GsC (K : Fg) (g : TGs) (vs : List Nat) (G : Gam) (xs : List PyData) (γ : Gam → Prop) : Prop :=
  ∀ Wd B ad H0 H σ us, Sta K Wd B ad H0 H σ G → DpAll K (less H (Zs Wd B ad G)) us xs → ∀ Q : St → Hp → Prop,
  (∀ G' σ', γ G' → G.length = G'.length → (∀ i, i ∉ vs → G'[i]? = G[i]?) → (∀ i c, i ∈ vs → G'[i]? = some (.ow c) → G[i]? = some (.ow c)) → Sta K Wd B ad H0 H σ' G' → Ex (less H (Zs Wd B ad G)) (less H (Zs Wd B ad G')) → wipe σ' vs = wipe σ vs → Q σ' H) → g us σ H Q
variable {γ : Gam → Prop} {vs : List Nat}
theorem gc_name {i : Nat} {x : PyData} (hi : i ∈ vs) (h : γ (G.set i (.d x))) : GC K (gName i) vs G x γ := fun Wd B ad H0 H σ v S d Q q => by
  refine q _ _ h (by rw [List.length_set]) (fun j hj => List.getElem?_set_ne fun (e : i = j) => hj (by rw [← e]; exact hi)) (fun j c _ g => ?_) (S.setD d) (less_sub fun a z => Zs.set_of (fun _ z => by cases z) z) (wipe_set hi)
  rcases get_set g with ⟨rfl, _, e⟩ | ⟨_, g⟩
  · cases e
  · exact g
theorem gsc_nil (h : γ G) : GsC K gNil vs G [] γ := fun Wd B ad H0 H σ us S d Q q => by
  cases d
  exact ⟨rfl, q _ _ h rfl (fun _ _ => rfl) (fun _ _ _ g => g) S (Ex.refl _) rfl⟩
theorem gsc_cons {g : TG} {gs : TGs} {x : PyData} {xs : List PyData} (h : GC K g vs G x (fun G' => GsC K gs vs G' xs γ)) : GsC K (gCons g gs) vs G (x :: xs) γ := fun Wd B ad H0 H σ us S d Q q => by
  cases d with
  | cons a b =>
    refine ⟨_, _, rfl, h Wd B ad H0 H σ _ S a _ fun G1 σ1 p l1 o1 w1 S1 e1 x1 => ?_⟩
    exact p Wd B ad H0 H σ1 _ S1 (dpa_mono e1 b) _ fun G2 σ2 p l2 o2 w2 S2 e2 x2 => q G2 σ2 p (l1.trans l2) (fun i hi => (o2 i hi).trans (o1 i hi)) (fun i c hi g => w1 i c hi (w2 i c hi g)) S2 (e1.trans e2) (x2.trans x1)
theorem gc_tup {n : Nat} {gs : TGs} {xs : List PyData} (hn : xs.length = n) (h : GsC K gs vs G xs γ) : GC K (gTup K n gs) vs G (.tuple xs) γ := fun Wd B ad H0 H σ v S d Q q => by
  cases d with
  | tup g t => exact ⟨_, _, rfl, ex_t less_ex g, (dpa_len t).trans hn, h Wd B ad H0 H σ _ S t Q q⟩
/-- targets at large -/
def GW (K : Fg) (g : TG) (G : Gam) (x : PyData) (γ : Gam → Prop) : Prop :=
  ∀ Wd B ad H0 H σ v, Sta K Wd B ad H0 H σ G → Dp K (less H (Zs Wd B ad G)) v x → ∀ Q : St → Hp → Prop,
  (∀ G' ad' H' σ', γ G' → Sta K Wd B ad' H0 H' σ' G' → Ex (less H (Zs Wd B ad G)) (less H' (Zs Wd B ad' G')) → Q σ' H') → g v σ H Q
theorem gw_gc (vs : List Nat) {g : TG} {x : PyData} (h : GC K g vs G x γ) : GW K g G x γ := fun Wd B ad H0 H σ v S d Q q => h Wd B ad H0 H σ v S d Q fun G' σ' p _ _ _ S' e _ => q G' ad H σ' p S' e
theorem gw_name {i : Nat} {x : PyData} (h : γ (G.set i (.d x))) : GW K (gName i) G x γ := gw_gc [i] (gc_name (List.mem_singleton.mpr rfl) h)
theorem sw_asgT {g : TG} (h : EW K cs W te G (fun x => GW K g G x (fun G' => Φ (.nx G'))) (fun e => Φ (.ex e G))) : SW K cs W (tAsg te g) G Φ := fun Wd B ad H0 H σ D S q =>
  h Wd B ad H0 H σ S _ (fun x p v H1 S1 e1 d1 => p Wd B ad H0 H1 σ v S1 d1 _ fun G' ad' H' σ' p S' e' => q _ p ad' H' σ' S' ((Xb.lz e1).trans e')) (post_xp q)
/-- *a, b = a tuple -/
theorem gw_star {i j : Nat} {xs : List PyData} {x : PyData} (hij : i ≠ j) (hl : xs.length ≤ 10000) (h : γ ((G.set i (.ow (ol xs))).set j (.d x))) : GW K (gStar K (gCons (gName i) (gCons (gName j) gNil))) G (.tuple (xs ++ [x])) γ := fun Wd B ad H0 H σ v S d Q q => by
  cases d with
  | @tup a us _ g t =>
    obtain ⟨vs, w, rfl, d1, d2⟩ : ∃ vs w, us = vs ++ [w] ∧ DpAll K (less H (Zs Wd B ad G)) vs xs ∧ Dp K (less H (Zs Wd B ad G)) w x := by
      have key : ∀ (xs : List PyData) (us : List V), DpAll K (less H (Zs Wd B ad G)) us (xs ++ [x]) → ∃ vs w, us = vs ++ [w] ∧ DpAll K (less H (Zs Wd B ad G)) vs xs ∧ Dp K (less H (Zs Wd B ad G)) w x := fun xs => by
        induction xs with
        | nil =>
          intro us h
          cases h with
          | cons a b => cases b; exact ⟨[], _, rfl, .nil, a⟩
        | cons y ys ih =>
          intro us h
          cases h with
          | cons a b =>
            obtain ⟨vs, w, rfl, h1, h2⟩ := ih _ b
            exact ⟨_ :: vs, w, rfl, .cons a h1, h2⟩
      exact key xs us t
    refine ⟨a, vs, w, rfl, ex_t less_ex g, by rw [dpa_len d1]; exact hl, fun l hn => ?_⟩
    have S1 := S.setOwn (i := i) (c := ol xs) hn d1
    have e1 : Ex (less H (Zs Wd B ad G)) (less (upd H l (.lst vs)) (Zs Wd B (swp ad i l) (G.set i (.ow (ol xs))))) := own_ex hn
    refine ⟨_, _, rfl, _, _, rfl, rfl, ?_⟩
    exact q _ _ _ _ h (S1.setD (i := j) (dp_mono e1 d2)) (e1.trans (less_sub fun a z => Zs.set_of (fun _ z => by cases z) z))
/-! ### what is walked -/
theorem dp_itT {v : V} {ds : List PyData} {M : Hp} (d : Dp K M v (.tuple ds)) : ∃ a vs, v = .ref a ∧ SqT K M a vs ∧ ItOk K (Itt K a) ds M := by
  cases d with
  | @tup a vs _ g t =>
    refine ⟨a, vs, rfl, g, fun H' Z hz e i => ?_⟩
    have g' : SqT K H' a vs := ex_t less_ex (ex_t e g)
    refine ⟨fun d hd => ?_, fun hl => ⟨vs, g', by rw [dpa_len t]; exact hl⟩, fun x H'' hy => ?_⟩
    · obtain ⟨v, hv, _⟩ := dpa_get t hd
      exact ⟨vs, v, g', hv⟩
    · obtain ⟨rfl, hy⟩ := hy
      refine ⟨Ex.refl _, fun d hd => ?_⟩
      obtain ⟨v, hv, hd⟩ := dpa_get t hd
      have ev : v = x := Option.some.inj (hv.symm.trans (hy vs g'))
      rw [← ev]
      exact dp_mono e hd
theorem iw_tup (h : EW K cs W te G (fun x => ∃ ds, x = .tuple ds ∧ ι ds) ε) : IW K cs W (iTup K te) G ι ε := fun Wd B ad H0 H σ S R q x => h Wd B ad H0 H σ S _ (fun y ⟨ds, e, p⟩ v H1 S1 e1 d1 => by
  subst e
  obtain ⟨a, vs, rfl, g, ok⟩ := dp_itT d1
  exact ⟨a, rfl, ⟨vs, ex_t less_ex g⟩, q ds p _ H1 S1 e1 ok⟩) x
theorem iw_rng1 {ta : TA} (h : AW K cs W ta G (fun xs => ∃ n : Int, xs = [.int n] ∧ (-1000000 ≤ n ∧ n ≤ 1000000) ∧ ι (rngD 0 n.toNat)) ε) : IW K cs W (iRng1 ta) G ι ε := fun Wd B ad H0 H σ S R q x => h Wd B ad H0 H σ S _ (fun xs ⟨n, e, hn, p⟩ vs H1 S1 e1 d1 => by
  subst e
  obtain ⟨v, rfl, d⟩ := dp1 d1
  cases d
  exact ⟨n, rfl, by omega, by omega, q _ p _ H1 S1 e1 it_rng⟩) x
def zipD (xs ys : List PyData) : List PyData := List.zipWith (fun x y => .tuple [x, y]) xs ys
/-! ### loops -/
/-- what is asked of a loop over ds: an invariant of the turn and the slots -/
def ForI (K : Fg) (cs : Cs) (W : WX) (g : TG) (tb : TS) (G : Gam) (Φ : Out → Prop) (ds : List PyData) : Prop :=
  ∃ I : Nat → Gam → Prop, I 0 G ∧ (∀ i x G1, ds[i]? = some x → I i G1 → GW K g G1 x (fun Gt => SW K cs W tb Gt (lp (I (i + 1)) Φ))) ∧ ∀ G1, I ds.length G1 → Φ (.nx G1)
theorem sw_for {wi : TI} {g : TG} {tb : TS} (h : IW K cs W wi G (ForI K cs W g tb G Φ) (fun e => Φ (.ex e G))) : SW K cs W (tFor wi g tb) G Φ := fun Wd B ad H0 H σ D S q =>
  h Wd B ad H0 H σ S _ (fun ds ⟨I, i0, hs, hd⟩ J H1 S1 e1 ok => by
    refine ⟨fun i m σ' H' => m = ds.length - i ∧ i ≤ ds.length ∧ ∃ ad' G1, I i G1 ∧ Sta K Wd B ad' H0 H' σ' G1 ∧ Ex (less H1 (Zs Wd B ad G)) (less H' (Zs Wd B ad' G1)), ⟨ds.length, rfl, Nat.zero_le _, ad, G, i0, S1, Ex.refl _⟩, ?_⟩
    rintro i m σ' H' ⟨rfl, hi, ad', G1, hI, S', e'⟩
    obtain ⟨k1, k2, k3⟩ := ok H' (Zs Wd B ad' G1) S'.there e' i
    by_cases hlt : i < ds.length
    · have hx : ds[i]? = some ds[i] := List.getElem?_eq_getElem hlt
      refine .inr ⟨k1 _ hx, fun σ3 H3 => ∃ ad3 G3, I (i + 1) G3 ∧ Sta K Wd B ad3 H0 H3 σ3 G3 ∧ Ex (less H1 (Zs Wd B ad G)) (less H3 (Zs Wd B ad3 G3)), ?_, fun v H'' hy => ?_⟩
      · rintro σ3 H3 ⟨ad3, G3, h3, S3, e3⟩
        exact ⟨ds.length - (i + 1), by omega, rfl, hlt, ad3, G3, h3, S3, e3⟩
      · obtain ⟨ex, dx⟩ := k3 v H'' hy
        have S2 := S'.ext ex
        refine hs i _ G1 hx hI Wd B ad' H0 H'' σ' v S2 (dx _ hx) _ fun Gt ad2 H2 σ2 hb S3 e3 => ?_
        have e4 : Ex (less H1 (Zs Wd B ad G)) (less H2 (Zs Wd B ad2 Gt)) := (e'.trans (less_mono ex)).trans e3
        have e5 := (Xb.lz (W := Wd) (ad := ad) (G := G) e1).trans e4
        refine hb Wd B ad2 H0 H2 σ2 _ S3 fun o p => ?_
        cases o with
        | nx G4 => exact fun ad4 H4 σ4 S4 x4 => ⟨ad4, G4, p, S4, e4.trans x4⟩
        | ct G4 => exact fun ad4 H4 σ4 S4 x4 => ⟨ad4, G4, p, S4, e4.trans x4⟩
        | bk G4 => exact fun ad4 H4 σ4 S4 x4 => q _ p ad4 H4 σ4 S4 (e5.trans x4)
        | rt x => exact q _ p
        | rl c => exact q _ p
        | ex e G4 => exact fun d ad4 H4 σ4 S4 x4 => q _ p d ad4 H4 σ4 S4 (e5.trans x4)
    · have en : i = ds.length := by omega
      subst en
      exact .inl ⟨k2 (Nat.le_refl _), q _ (hd G1 hI) ad' H' σ' S' ((Xb.lz e1).trans e')⟩) (post_xp q)
/-- by what is done already -/
theorem forP {β : Type} {g : TG} {tb : TS} {xs : List β} {f : β → PyData} (I : List β → Gam → Prop) (h0 : I [] G) (hs : ∀ pre x post G1, xs = pre ++ x :: post → I pre G1 → GW K g G1 (f x) (fun Gt => SW K cs W tb Gt (lp (I (pre ++ [x])) Φ))) (he : ∀ G1, I xs G1 → Φ (.nx G1)) : ForI K cs W g tb G Φ (xs.map f) := by
  refine ⟨fun i G1 => I (xs.take i) G1, h0, fun i x G1 hx hI => ?_, fun G1 hI => he G1 (by rw [List.length_map, List.take_length] at hI; exact hI)⟩
  rw [List.getElem?_map] at hx
  cases hb : xs[i]? with
  | none => rw [hb] at hx; cases hx
  | some b =>
    rw [hb] at hx
    cases hx
    obtain ⟨hlt, hbe⟩ := List.getElem?_eq_some_iff.mp hb
    have e : xs = xs.take i ++ b :: xs.drop (i + 1) := by rw [← hbe, List.getElem_cons_drop, List.take_append_drop]
    have e2 : xs.take (i + 1) = xs.take i ++ [b] := by rw [List.take_succ, hb]; rfl
    show GW K g G1 (f b) (fun Gt => SW K cs W tb Gt (lp (fun G1 => I (xs.take (i + 1)) G1) Φ))
    rw [e2]
    exact hs _ b _ G1 e hI
end
end U.N

end
section
namespace U.N
open PySem PyProof.Rows L2 Evl
inductive All2 {α β : Type} (R : α → β → Prop) : List α → List β → Prop
  | nil : All2 R [] []
  | cons {x : α} {y : β} {xs : List α} {ys : List β} : R x y → All2 R xs ys → All2 R (x :: xs) (y :: ys)
namespace All2
variable {α β γ : Type} {R : α → β → Prop}
end All2
section
variable {K : Fg} {cs : Cs} {W : WX} {G G' G1 G2 : Gam} {ta tb tc te : TE} {t u tt tt1 : TT} {φ : PyData → Prop} {ε : Xw → Prop} {ψ : Bool → Prop} {α : List PyData → Prop} {ι : List PyData → Prop} {χ : Own → Prop} {Φ Ψ : Out → Prop}
variable {Wd : Addr → Prop} {B : Option (Addr × Addr)} {ad : Nat → Addr} {H0 H H1 H2 : Hp} {σ σ' : St} {vs vs1 : List Nat} {wi wi1 : TI} {g g1 : TG}
abbrev noX : Xw → Prop := fun _ => False
theorem xp_no : XP K cs W Wd B ad H0 H σ G noX := fun _ h => h.elim
theorem Sta.slots (S : Sta K Wd B ad H0 H σ G) (hl : G.length = G'.length) (ho : ∀ i, i ∉ vs → G'[i]? = G[i]?) (hu : ∀ i e, i ∈ vs → G'[i]? = some e → e = .un) (hg : ∀ i c, i ∈ vs → G[i]? ≠ some (.ow c)) (hw : wipe σ vs = wipe σ' vs) : Sta K Wd B ad H0 H σ' G' := by
  have hls : σ.length = σ'.length := by
    have := congrArg List.length hw
    rw [wipe_length, wipe_length] at this
    exact this
  have own : ∀ (i : Nat) (c : Own), G'[i]? = some (En.ow c) ↔ G[i]? = some (En.ow c) := fun i c => by
    by_cases hi : i ∈ vs
    · exact ⟨fun g => absurd (hu i _ hi g) (fun e => by cases e), fun g => absurd g (hg i c hi)⟩
    · rw [ho i hi]
  have zl : Zs Wd B ad G' = Zs Wd B ad G := funext fun a => propext (by
    constructor
    · rintro (z | ⟨i, c, g, r⟩ | z)
      · exact .inl z
      · exact .inr (.inl ⟨i, c, (own i c).mp g, r⟩)
      · exact .inr (.inr z)
    · rintro (z | ⟨i, c, g, r⟩ | z)
      · exact .inl z
      · exact .inr (.inl ⟨i, c, (own i c).mpr g, r⟩)
      · exact .inr (.inr z))
  refine ⟨hls ▸ (S.len.trans hl), fun i e g => ?_, fun i j c c' g g' q => S.inj i j c c' ((own i c).mp g) ((own j c').mp g') q, fun i c g => S.sep i c ((own i c).mp g), S.base, S.bag, S.wd⟩
  by_cases hi : i ∈ vs
  · have e := hu i e hi g
    subst e
    have il : i < σ'.length := by rw [← hls, S.len, hl]; exact (List.getElem?_eq_some_iff.mp g).1
    exact ⟨σ'[i], List.getElem?_eq_getElem il, trivial⟩
  · rw [ho i hi] at g
    obtain ⟨o, g1, g2⟩ := S.at_ i e g
    refine ⟨o, ?_, by rw [zl]; exact g2⟩
    rw [← wipe_get hi, ← hw, wipe_get hi]
    exact g1
theorem zs_same {G' : Gam} (hl : ∀ (i : Nat) (c : Own), G'[i]? = some (En.ow c) ↔ G[i]? = some (En.ow c)) : Zs Wd B ad G' = Zs Wd B ad G := funext fun a => propext (by
  constructor
  · rintro (z | ⟨i, c, g, r⟩ | z)
    · exact .inl z
    · exact .inr (.inl ⟨i, c, (hl i c).mp g, r⟩)
    · exact .inr (.inr z)
  · rintro (z | ⟨i, c, g, r⟩ | z)
    · exact .inl z
    · exact .inr (.inl ⟨i, c, (hl i c).mpr g, r⟩)
    · exact .inr (.inr z))
theorem zs_lend {p : Addr} : Zs (fun a => Wd a ∨ a = p) B ad G = fun a => Zs Wd B ad G a ∨ a = p := funext fun a => propext (by
  constructor
  · rintro ((z | z) | z | z)
    · exact .inl (.inl z)
    · exact .inr z
    · exact .inl (.inr (.inl z))
    · exact .inl (.inr (.inr z))
  · rintro ((z | z | z) | z)
    · exact .inl (.inl z)
    · exact .inr (.inl z)
    · exact .inr (.inr z)
    · exact .inl (.inr z))
def opts (os : List (Option PyData)) : List PyData := os.filterMap id
theorem opts_snoc {os : List (Option PyData)} {o : Option PyData} : opts (os ++ [o]) = opts os ++ o.toList := by
  unfold opts
  rw [List.filterMap_append]
  cases o <;> rfl
theorem opts_len (os : List (Option PyData)) : (opts os).length ≤ os.length := List.length_filterMap_le ..
/-- one for each turn -/
def Each {β : Type} (R : Nat → β → Prop) (n : Nat) (os : List β) : Prop := os.length = n ∧ ∀ i o, os[i]? = some o → R i o
theorem each_nil {β : Type} {R : Nat → β → Prop} : Each R 0 [] := ⟨rfl, fun i o h => by simp at h⟩
theorem Each.snoc {β : Type} {R : Nat → β → Prop} {n : Nat} {os : List β} {o : β} (h : Each R n os) (r : R n o) : Each R (n + 1) (os ++ [o]) := by
  refine ⟨by simp [h.1], fun i o' hi => ?_⟩
  by_cases hl : i < os.length
  · rw [List.getElem?_append_left hl] at hi
    exact h.2 i o' hi
  · rw [List.getElem?_append_right (by omega)] at hi
    have e : i - os.length = 0 := by
      have := (List.getElem?_eq_some_iff.mp hi).1
      simp at this
      omega
    rw [e] at hi
    cases hi
    have : i = n := by have := h.1; omega
    rw [this]; exact r
theorem Each.all2 {α β : Type} {R : Nat → β → Prop} : ∀ {xs : List α} {os : List β}, Each R xs.length os → ∀ {S : α → β → Prop}, (∀ i x o, xs[i]? = some x → R i o → S x o) → All2 S xs os := fun {xs} => by
  induction xs generalizing R with
  | nil =>
    intro os h S m
    have := h.1
    have e : os = [] := List.eq_nil_of_length_eq_zero this
    rw [e]; exact .nil
  | cons x xs ih =>
    intro os h S m
    cases os with
    | nil => have := h.1; simp at this
    | cons o os =>
      refine .cons (m 0 x o rfl (h.2 0 o rfl)) (ih (R := fun i => R (i + 1)) ⟨by have := h.1; simpa using this, fun i o' hi => h.2 (i + 1) o' hi⟩ fun i x o hx r => m (i + 1) x o hx r)
/-- the names that the comprehension sets are of no use before -/
def Unk (vs : List Nat) (G : Gam) : Prop := ∀ i e, i ∈ vs → G[i]? = some e → e = .un
def LcI (K : Fg) (cs : Cs) (W : WX) (g : TG) (tt : TT) (te : TE) (vs : List Nat) (G : Gam) (χ : Own → Prop) (ds : List PyData) : Prop :=
  ds.length ≤ 16000000 ∧ Unk vs G ∧ ∃ R : Nat → Option PyData → Prop, (∀ i x, ds[i]? = some x → GC K g vs G x (fun Gt => TW K cs W tt Gt (fun b => Cnd b (EW K cs W te Gt (fun y => R i (some y)) noX) (R i none)) noX)) ∧ ∀ os, Each R ds.length os → χ (ol (opts os))
theorem ef_lc (h : IW K cs W wi G (LcI K cs W g tt te vs G χ) ε) : EF K cs W (tLc wi g tt te vs) G χ ε := fun Wd B ad H0 H σ S Q q x =>
  h Wd B ad H0 H σ S _ (fun ds ⟨hz, hu, R, hs, hd⟩ J H1 S1 e1 ok Dl hD => by
    have hgu : ∀ i c, i ∈ vs → G[i]? ≠ some (.ow c) := fun i c hi g => by cases hu i _ hi g
    obtain ⟨L0, el0⟩ := S1.lend (o := .lst []) hD
    have fr := S1.fresh hD
    refine ⟨fun i m H' => m = ds.length - i ∧ i ≤ ds.length ∧ Sta K (fun a => Wd a ∨ a = Dl) B ad H0 H' σ G ∧ Ex (less H1 (Zs Wd B ad G)) (less H' (Zs (fun a => Wd a ∨ a = Dl) B ad G)) ∧ Xb B H1 H' ∧
      ∃ os acc, Each R i os ∧ H' Dl = some (.lst acc) ∧ DpAll K (less H' (Zs (fun a => Wd a ∨ a = Dl) B ad G)) acc (opts os), ⟨ds.length, rfl, Nat.zero_le _, L0, by rw [el0]; exact Ex.refl _, .of (Ex.new hD), [], [], each_nil, upd_same, .nil⟩, ?_⟩
    rintro i m H' ⟨rfl, hi, S', e', xb, os, acc, ha2, ha, hda⟩
    obtain ⟨k1, k2, k3⟩ := ok H' (Zs (fun a => Wd a ∨ a = Dl) B ad G) S'.there e' i
    by_cases hlt : i < ds.length
    · have hx : ds[i]? = some ds[i] := List.getElem?_eq_getElem hlt
      refine .inr ⟨k1 _ hx, fun H3 => Sta K (fun a => Wd a ∨ a = Dl) B ad H0 H3 σ G ∧ Ex (less H1 (Zs Wd B ad G)) (less H3 (Zs (fun a => Wd a ∨ a = Dl) B ad G)) ∧ Xb B H1 H3 ∧
        ∃ os acc, Each R (i + 1) os ∧ H3 Dl = some (.lst acc) ∧ DpAll K (less H3 (Zs (fun a => Wd a ∨ a = Dl) B ad G)) acc (opts os), fun H3 h3 => ⟨ds.length - (i + 1), by omega, rfl, hlt, h3⟩, fun v H'' hyl => ?_⟩
      obtain ⟨ex, dx⟩ := k3 v H'' hyl
      have S2 := (S'.ext ex).slots (σ' := wipe σ vs) (G' := G) (vs := vs) rfl (fun _ _ => rfl) hu hgu wipe_wipe.symm
      refine hs i _ hx _ B ad H0 H'' _ v S2 (dx _ hx) _ fun Gt σ2 hte hl ho hw S3 e3 ew => ⟨by rw [ew, wipe_wipe], ?_⟩
      have own : ∀ (i : Nat) (c : Own), Gt[i]? = some (En.ow c) ↔ G[i]? = some (En.ow c) := fun i c => by
        by_cases hi : i ∈ vs
        · exact ⟨fun g => hw i c hi g, fun g => absurd g (hgu i c hi)⟩
        · rw [ho i hi]
      have eZ : Zs (fun a => Wd a ∨ a = Dl) B ad Gt = Zs (fun a => Wd a ∨ a = Dl) B ad G := zs_same own
      have back : ∀ {H5 : Hp}, Sta K (fun a => Wd a ∨ a = Dl) B ad H0 H5 σ2 Gt → Sta K (fun a => Wd a ∨ a = Dl) B ad H0 H5 σ G := fun {H5} S5 =>
        S5.slots (G' := G) (vs := vs) hl.symm (fun i hi => (ho i hi).symm) hu (fun i c hi g => hgu i c hi (hw i c hi g)) (by rw [ew, wipe_wipe])
      have hB : ¬ InB B Dl := fr.2.1
      have ha3 : H'' Dl = some (.lst acc) := ex _ _ ha
      have al : acc.length < sizeLine := by
        have h1 := dpa_len hda
        have h2 := opts_len os
        have h3 := ha2.1
        exact Nat.lt_of_lt_of_le (show acc.length < 16777216 by omega) (by decide)
      refine hte _ B ad H0 H'' σ2 S3 _ (fun b p H3 S4 e4 => ?_) xp_no
      have e4' : Ex (less H'' (Zs (fun a => Wd a ∨ a = Dl) B ad G)) (less H3 (Zs (fun a => Wd a ∨ a = Dl) B ad G)) := by
        have := Xb.lz (W := fun a => Wd a ∨ a = Dl) (ad := ad) (G := G) e4
        exact this
      have e5 : Ex (less H' (Zs (fun a => Wd a ∨ a = Dl) B ad G)) (less H3 (Zs (fun a => Wd a ∨ a = Dl) B ad G)) := (less_mono ex).trans e4'
      cases b with
      | false =>
        refine iteF ⟨back S4, e'.trans e5, (xb.trans (.of ex)).trans e4, os ++ [none], acc, ?_, e4 _ _ ha3 hB, ?_⟩
        · exact ha2.snoc (p.2 rfl)
        · rw [opts_snoc]
          show DpAll K _ acc (_ ++ [])
          rw [List.append_nil]
          exact dpa_mono e5 hda
      | true =>
        refine iteT ?_
        refine p.1 rfl _ B ad H0 H3 σ2 S4 _ (fun y py w H4 S5 e6 dw => ?_) xp_no
        rw [eZ] at dw
        have S6 := back S5
        obtain ⟨S7, el7⟩ := S6.foreign (o := .lst (acc ++ [w])) (p := Dl) (.inr rfl) fr.1 hB
        have e6' := Xb.lz (W := fun a => Wd a ∨ a = Dl) (ad := ad) (G := G) e6
        refine ⟨acc, e6 _ _ (e4 _ _ ha3 hB) hB, al, S7, ?_, ?_, os ++ [some y], acc ++ [w], ?_, upd_same, ?_⟩
        · rw [el7]
          exact e'.trans (e5.trans e6')
        · intro a o g n
          have na : a ≠ Dl := ne_of_none g hD
          rw [upd_ne na]
          exact ((((xb.trans (.of ex)).trans e4).trans e6) a o g n)
        · exact ha2.snoc py
        · rw [el7, opts_snoc]
          exact dpa_app (dpa_mono (e5.trans e6') hda) (.cons dw .nil)
    · have en : i = ds.length := by omega
      subst en
      obtain ⟨S5, e5⟩ := S'.back
      obtain ⟨S6, x6, n6, l6⟩ := fl_go S1 xb S'.bag hD ha
      refine .inl ⟨k2 (Nat.le_refl _), ?_⟩
      have k := q _ (hd os ha2) Dl acc _ S6 (e1.trans x6) n6 (by rw [l6, ← zs_lend]; exact hda)
      have k2 : Q (.ref Dl) (upd (less H' fun b => b = Dl) Dl (.lst acc)) := k
      rw [fl_upd ha] at k2
      exact k2) x
theorem ew_lc (h : IW K cs W wi G (LcI K cs W g tt te vs G (fun c => ∃ xs, c = ol xs ∧ φ (.list xs))) ε) : EW K cs W (tLc wi g tt te vs) G φ ε := ew_ef (ef_lc h)
theorem opts_map {β : Type} {f : β → PyData} : ∀ {xs : List β} {os : List (Option PyData)}, All2 (fun x o => o = some (f x)) xs os → opts os = xs.map f
  | _, _, .nil => rfl
  | x :: xs, _, .cons a t => by
    rw [a]
    show f x :: opts _ = _
    rw [opts_map t]; rfl
variable {β : Type} {xs : List β} {f : β → PyData}
theorem map_at {i : Nat} {x : PyData} (h : (xs.map f)[i]? = some x) : ∃ b, xs[i]? = some b ∧ f b = x ∧ b ∈ xs := by
  rw [List.getElem?_map] at h
  cases hb : xs[i]? with
  | none => rw [hb] at h; cases h
  | some b => rw [hb] at h; exact ⟨b, rfl, Option.some.inj h, List.mem_of_getElem? hb⟩
theorem gc_mono {x : PyData} {γ γ' : Gam → Prop} (h : GC K g vs G x γ) (m : ∀ G', γ G' → γ' G') : GC K g vs G x γ' := fun Wd B ad H0 H σ v S d Q q => h Wd B ad H0 H σ v S d Q fun G' σ' k => q G' σ' (m G' k)
/-- [.. for x in xs if ..], each turn by a relation -/
theorem lcR0 (R : β → Option PyData → Prop) (hz : xs.length ≤ 16000000) (hu : Unk vs G) (hs : ∀ x, x ∈ xs → GC K g vs G (f x) (fun Gt => TW K cs W tt Gt (fun b => Cnd b (EW K cs W te Gt (fun y => R x (some y)) noX) (R x none)) noX)) (p : ∀ os, All2 R xs os → χ (ol (opts os))) : LcI K cs W g tt te vs G χ (xs.map f) := by
  refine ⟨by rw [List.length_map]; exact hz, hu, fun i o => ∃ b, xs[i]? = some b ∧ R b o, fun i x hx => ?_, fun os ha => ?_⟩
  · obtain ⟨b, hb, rfl, hm⟩ := map_at hx
    exact gc_mono (hs b hm) fun Gt k => tw_mono k fun c q => ⟨fun hc => ew_mono (q.1 hc) fun y r => ⟨b, hb, r⟩, fun hc => ⟨b, hb, q.2 hc⟩⟩
  · rw [List.length_map] at ha
    exact p os (ha.all2 fun i x o hx ⟨b, hb, r⟩ => by rw [hx] at hb; cases hb; exact r)
/-- [h x for x in xs] -/
theorem lcM (h : β → PyData) (hz : xs.length ≤ 16000000) (hu : Unk vs G) (hs : ∀ x, x ∈ xs → GC K g vs G (f x) (fun Gt => EW K cs W te Gt (fun y => y = h x) noX)) (p : χ (ol (xs.map h))) : LcI K cs W g tYes te vs G χ (xs.map f) :=
  lcR0 (fun x o => o = some (h x)) hz hu (fun x hx => gc_mono (hs x hx) fun Gt k => tw_yes (cnd_t (ew_mono k fun y e => by rw [e]))) fun os ha => by rw [opts_map ha]; exact p
end
end U.N

end
section
/-! zip of two things, each a list or a tuple, strict or not. -/
namespace U
open PySem PySem.W PyProof.Rows L2 Evl
inductive Kd where
  | L
  | T
def ItK : Kd → Heap → Addr → Addr → Nat → Prop
  | .L, h, it, l, i => h.IsListIter it l i
  | .T, h, it, l, i => h.IsTupleIter it l i
def SqK : Kd → Heap → Addr → Array Value → Prop
  | .L, h, l, xs => h.IsList l xs
  | .T, h, l, xs => h.IsTuple l xs
theorem ItK.extBut {k : Kd} {h h' : Heap} {it l b : Addr} {i : Nat} (x : ItK k h it l i) (e : Heap.ExtBut b h h') (n : it ≠ b) : ItK k h' it l i := by
  cases k with
  | L => exact Heap.IsListIter.extBut x e n
  | T => exact Heap.IsTupleIter.extBut x e n
theorem SqK.extBut {k : Kd} {h h' : Heap} {l b : Addr} {xs : Array Value} (x : SqK k h l xs) (e : Heap.ExtBut b h h') (n : l ≠ b) : SqK k h' l xs := by
  cases k with
  | L => exact Heap.IsList.extBut x e n
  | T => exact Heap.IsTuple.extBut x e n
theorem ItK.at_ {k : Kd} {h h' : Heap} {it l : Addr} {i : Nat} (x : ItK k h it l i) (e : ∀ o, h.get? it = some o → h'.get? it = some o) : ItK k h' it l i := by
  cases k with
  | L => exact Heap.IsListIter.at x e
  | T => exact Heap.IsTupleIter.at x e
theorem ItK.obj {k : Kd} {h : Heap} {it l : Addr} {i : Nat} (x : ItK k h it l i) : ∃ o, h.get? it = some o ∧ ∀ v, o.data ≠ .cell v := by
  cases k with
  | L => obtain ⟨o, e, _, d⟩ := x; exact ⟨o, e, fun v q => by rw [d] at q; cases q⟩
  | T => obtain ⟨o, e, _, d⟩ := x; exact ⟨o, e, fun v q => by rw [d] at q; cases q⟩
section
variable {prog : Program} {w : World} {A : Around} {E : Value → Shared → Prop} {s : Shared}
theorem nx_item {k : Kd} {it l : Addr} {i : Nat} {xs : Array Value} {x : Value} {Q : Value → Shared → Prop} (hit : ItK k s.heap it l i) (hl : SqK k s.heap l xs) (hx : xs[i]? = some x)
    (hQ : ∀ h', ItK k h' it l (i + 1) → Heap.SameBut it s.heap h' → Q x { s with heap := h' }) : wpAny (model prog w) A (Builtin.SmallTypes.nextOf (.ref it)) Q E s := by
  cases k with
  | L => exact wpAny_nextOf_list_item hit hl hx hQ
  | T => exact RZ.nextOf_tuple_item hit hl hx hQ
theorem nx_end {k : Kd} {it l : Addr} {i : Nat} {xs : Array Value} {Q : Value → Shared → Prop} (hh : A.handled = none) (hit : ItK k s.heap it l i) (hl : SqK k s.heap l xs) (hx : xs[i]? = none)
    (hE : ∀ h' e, Heap.ExtBut it s.heap h' → (∃ o, h'.get? e = some o ∧ o.cls = .type "StopIteration") → E (.ref e) { s with heap := h' }) : wpAny (model prog w) A (Builtin.SmallTypes.nextOf (.ref it)) Q E s := by
  cases k with
  | L => exact wpAny_nextOf_list_end hh hit hl hx hE
  | T => exact RZ.nextOf_tuple_end hh hit hl hx hE
theorem ne_item {k : Kd} {it l : Addr} {i : Nat} {xs : Array Value} {x : Value} {Q : Option Value → Shared → Prop} (hit : ItK k s.heap it l i) (hl : SqK k s.heap l xs) (hx : xs[i]? = some x)
    (hQ : ∀ h', ItK k h' it l (i + 1) → Heap.SameBut it s.heap h' → Q (some x) { s with heap := h' }) : wpAny (model prog w) A (Builtin.SmallTypes.nextOrEnd (.ref it)) Q E s := by
  unfold Builtin.SmallTypes.nextOrEnd
  exact wpAny_bind (wpAny_attempt (nx_item hit hl hx fun h' a b => wpAny_pure (hQ h' a b)))
theorem ne_end {k : Kd} {it l : Addr} {i : Nat} {xs : Array Value} {Q : Option Value → Shared → Prop} (hh : A.handled = none) (hit : ItK k s.heap it l i) (hl : SqK k s.heap l xs) (hx : xs[i]? = none)
    (hQ : ∀ h', Heap.ExtBut it s.heap h' → Q none { s with heap := h' }) : wpAny (model prog w) A (Builtin.SmallTypes.nextOrEnd (.ref it)) Q E s := by
  unfold Builtin.SmallTypes.nextOrEnd
  refine wpAny_bind (wpAny_attempt (nx_end hh hit hl hx fun h' e hk he => ?_))
  obtain ⟨o, ho, hc⟩ := he
  refine wpAny_bind (wpAny_isInstance (T := "StopIteration") (b := true) ⟨o, ho, hc⟩ isSubtype_stop ?_)
  exact wpAny_pure (hQ _ hk)
abbrev IsZipB (h : Heap) (z TI TO : Addr) (f0 : Value) (b : Bool) : Prop :=
  h.get? z = some { cls := .type "zip", dict := none, data := .fields #[f0, .bool false, .bool b, .ref TI, .ref TO], slots := #[] }
theorem zb_item {b : Bool} {k1 k2 : Kd} {z TI TO i1 i2 l1 l2 : Addr} {n1 n2 : Nat} {xs ys : Array Value} {x y u v : Value} {Q : Value → Shared → Prop} (D : ZipApart z TI TO i1 i2 l1 l2)
    (hz : IsZipB s.heap z TI TO .none b) (hTI : IsPair s.heap TI (.ref i1) (.ref i2)) (hTO : IsPair s.heap TO u v)
    (h1 : ItK k1 s.heap i1 l1 n1) (h2 : ItK k2 s.heap i2 l2 n2) (hl1 : SqK k1 s.heap l1 xs) (hl2 : SqK k2 s.heap l2 ys) (hx : xs[n1]? = some x) (hy : ys[n2]? = some y)
    (hQ : ∀ h', IsZipB h' z TI TO (rawInt s.heap.objs.size) b → IsPair h' TO x y → ItK k1 h' i1 l1 (n1 + 1) → ItK k2 h' i2 l2 (n2 + 1) → IsPair h' s.heap.objs.size x y → h'.objs.size = s.heap.objs.size + 1 →
      (∀ c o, c ≠ z → c ≠ TO → c ≠ i1 → c ≠ i2 → s.heap.get? c = some o → h'.get? c = some o) → Q (.ref s.heap.objs.size) { s with heap := h' }) :
    wpAny (model prog w) A (Builtin.«zip.__next__» ⟨[.ref z], []⟩) (fun fin s' => ∃ v, fin = .done (.ret v) ∧ Q v s') E s := by
  show wpAny _ _ (field (.ref z) 2 >>= _) _ _ _
  refine wpAny_bind (wpAny_field hz rfl (x := .bool b) rfl ?_)
  show wpAny _ _ (field (.ref z) 3 >>= _) _ _ _
  refine wpAny_bind (wpAny_field hz rfl (x := .ref TI) rfl ?_)
  refine wpAny_bind (wpAny_seqItems hTI rfl ?_)
  show wpAny _ _ (Builtin.SmallTypes.ownedTupleIsFree (.ref z) >>= _) _ _ _
  refine wpAny_bind ?_
  unfold Builtin.SmallTypes.ownedTupleIsFree
  refine wpAny_bind (wpAny_field hz rfl (x := .none) rfl (wpAny_pure ?_))
  simp only [if_true]
  refine wpAny_bind (wpAny_rule ?_)
  refine wpAny_bind (wpAny_field hz rfl (x := .ref TO) rfl ?_)
  refine wpAny_bind (wpAny_setField_rec hz (by simp) fun h₁ hz₁ hs₁ => ?_)
  replace hz₁ : IsZipB h₁ z TI TO .ellipsis b := hz₁
  refine wpAny_bind ?_
  simp only [List.zipIdx_cons, List.zipIdx_nil, List.forIn_cons, List.forIn_nil]
  have draw : ∀ {k : Kd} {it l : Addr} {i : Nat} {zs : Array Value} {q : Value} {s : Shared} {R : Option Value → Shared → Prop} {E' : Value → Shared → Prop}, ItK k s.heap it l i → SqK k s.heap l zs → zs[i]? = some q →
      (∀ h', ItK k h' it l (i + 1) → Heap.SameBut it s.heap h' → R (some q) { s with heap := h' }) → wpAny (model prog w) A (if (Value.bool b == Value.bool true) = true then Builtin.SmallTypes.nextOrEnd (.ref it) else (do let y ← Builtin.SmallTypes.nextOf (.ref it); pure (some y))) R E' s := fun {k it l i zs q s R E'} a1 a2 a3 a4 => by
    cases b with
    | true => exact ne_item a1 a2 a3 a4
    | false => exact wpAny_bind (nx_item a1 a2 a3 fun h' c d => wpAny_pure (a4 h' c d))
  refine wpAny_bind (wpAny_bind (wpAny_onRaise ?_))
  refine draw (h1.extBut hs₁.extBut D.i1z) (hl1.extBut hs₁.extBut D.l1z) hx fun h₂ h1₂ hs₂ => ?_
  have hTO₂ : IsPair h₂ TO u v := hs₂.extBut _ _ D.TOi1 (hs₁.extBut _ _ D.TOz hTO)
  refine wpAny_bind (wpAny_seqItems hTO₂ rfl ?_)
  refine wpAny_bind (wpAny_updateSeq_pair hTO₂ fun h₃ hTO₃ hs₃ => ?_)
  replace hTO₃ : IsPair h₃ TO x v := hTO₃
  refine wpAny_bind (wpAny_letGo (wpAny_pure ?_))
  refine wpAny_bind (wpAny_bind (wpAny_onRaise ?_))
  refine draw (((h2.extBut hs₁.extBut D.i2z).extBut hs₂.extBut D.i12.symm).extBut hs₃.extBut D.TOi2.symm)
    (((hl2.extBut hs₁.extBut D.l2z).extBut hs₂.extBut D.l2i1).extBut hs₃.extBut D.l2TO) hy fun h₄ h2₄ hs₄ => ?_
  have hTO₄ : IsPair h₄ TO x v := hs₄.extBut _ _ D.TOi2 hTO₃
  refine wpAny_bind (wpAny_seqItems hTO₄ rfl ?_)
  refine wpAny_bind (wpAny_updateSeq_pair hTO₄ fun h₅ hTO₅ hs₅ => ?_)
  replace hTO₅ : IsPair h₅ TO x y := hTO₅
  refine wpAny_bind (wpAny_letGo (wpAny_pure (wpAny_pure ?_)))
  refine wpAny_bind (wpAny_seqItems hTO₅ rfl ?_)
  refine wpAny_bind (wpAny_newTuple ?_)
  have hsz : h₅.objs.size = s.heap.objs.size := by rw [hs₅.1, hs₄.1, hs₃.1, hs₂.1, hs₁.1]
  have hz₅ : IsZipB h₅ z TI TO .ellipsis b := hs₅.extBut _ _ D.TOz.symm (hs₄.extBut _ _ D.i2z.symm (hs₃.extBut _ _ D.TOz.symm (hs₂.extBut _ _ D.i1z.symm hz₁)))
  have hk₅ : ∀ c o, c ≠ z → c ≠ TO → c ≠ i1 → c ≠ i2 → s.heap.get? c = some o → h₅.get? c = some o := fun c o c1 c2 c3 c4 e =>
    hs₅.extBut _ _ c2 (hs₄.extBut _ _ c4 (hs₃.extBut _ _ c2 (hs₂.extBut _ _ c3 (hs₁.extBut _ _ c1 e))))
  have h1₅ : ItK k1 h₅ i1 l1 (n1 + 1) := ((h1₂.extBut hs₃.extBut D.TOi1.symm).extBut hs₄.extBut D.i12).extBut hs₅.extBut D.TOi1.symm
  have h2₅ : ItK k2 h₅ i2 l2 (n2 + 1) := h2₄.extBut hs₅.extBut D.TOi2.symm
  have hzlt : z < h₅.objs.size := Heap.lt_size hz₅
  show wpAny _ _ (Builtin.SmallTypes.ownedTupleHandOut (.ref z) (.ref h₅.objs.size) >>= _) _ _ _
  refine wpAny_bind ?_
  unfold Builtin.SmallTypes.ownedTupleHandOut
  have hz₆ : IsZipB (h₅.push { cls := .type "tuple", data := .seq #[x, y] }) z TI TO .ellipsis b := Heap.get?_push_of_some _ hz₅
  refine wpAny_bind (wpAny_setField_rec hz₆ (by simp) fun h₇ hz₇ hs₇ => ?_)
  replace hz₇ : IsZipB h₇ z TI TO (rawInt h₅.objs.size) b := hz₇
  refine wpAny_setField_rec hz₇ (by simp) fun h₈ hz₈ hs₈ => ?_
  replace hz₈ : IsZipB h₈ z TI TO (rawInt h₅.objs.size) b := hz₈
  have up : ∀ c o, c ≠ z → h₅.get? c = some o → h₈.get? c = some o := fun c o c1 e => hs₈.extBut _ _ c1 (hs₇.extBut _ _ c1 (Heap.get?_push_of_some _ e))
  have hT₈ : IsPair h₈ h₅.objs.size x y := hs₈.extBut _ _ (Nat.ne_of_gt hzlt) (hs₇.extBut _ _ (Nat.ne_of_gt hzlt) (Heap.get?_push_size _ rfl))
  have hz8 : h₈.objs.size = h₅.objs.size + 1 := by rw [hs₈.1, hs₇.1, Heap.size_push]
  rw [hsz] at hz₈ hT₈ hz8
  refine wpAny_pure ⟨_, rfl, ?_⟩
  show Q (.ref h₅.objs.size) _
  rw [hsz]
  exact hQ h₈ hz₈ (up _ _ D.TOz hTO₅) (h1₅.at_ fun o e => up _ o D.i1z e) (h2₅.at_ fun o e => up _ o D.i2z e) hT₈ hz8 fun c o c1 c2 c3 c4 e => up c o c1 (hk₅ c o c1 c2 c3 c4 e)
end
end U

end
section
/-! zip(a, b, strict=True) and zip(a, b): the end, the making. -/
namespace U
open PySem PySem.W PyProof.Rows L2 Evl
section
variable {prog : Program} {w : World} {A : Around} {E : Value → Shared → Prop} {s : Shared}
theorem zb_end {b : Bool} {k1 k2 : Kd} {z TI TO i1 i2 l1 l2 : Addr} {n1 n2 : Nat} {xs ys : Array Value} {u v : Value} {Q : Fin → Shared → Prop} (hh : A.handled = none) (D : ZipApart z TI TO i1 i2 l1 l2)
    (hz : IsZipB s.heap z TI TO .none b) (hTI : IsPair s.heap TI (.ref i1) (.ref i2)) (hTO : IsPair s.heap TO u v)
    (h1 : ItK k1 s.heap i1 l1 n1) (h2 : ItK k2 s.heap i2 l2 n2) (hl1 : SqK k1 s.heap l1 xs) (hl2 : SqK k2 s.heap l2 ys) (hend : (xs[n1]? = none ∧ (b = true → ys[n2]? = none)) ∨ (b = false ∧ ys[n2]? = none))
    (hE : ∀ h' e, (∀ c o, c ≠ z → c ≠ TO → c ≠ i1 → c ≠ i2 → s.heap.get? c = some o → h'.get? c = some o) → (∃ o, h'.get? e = some o ∧ o.cls = .type "StopIteration") → E (.ref e) { s with heap := h' }) :
    wpAny (model prog w) A (Builtin.«zip.__next__» ⟨[.ref z], []⟩) Q E s := by
  show wpAny _ _ (field (.ref z) 2 >>= _) _ _ _
  refine wpAny_bind (wpAny_field hz rfl (x := .bool b) rfl ?_)
  show wpAny _ _ (field (.ref z) 3 >>= _) _ _ _
  refine wpAny_bind (wpAny_field hz rfl (x := .ref TI) rfl ?_)
  refine wpAny_bind (wpAny_seqItems hTI rfl ?_)
  show wpAny _ _ (Builtin.SmallTypes.ownedTupleIsFree (.ref z) >>= _) _ _ _
  refine wpAny_bind ?_
  unfold Builtin.SmallTypes.ownedTupleIsFree
  refine wpAny_bind (wpAny_field hz rfl (x := .none) rfl (wpAny_pure ?_))
  simp only [if_true]
  refine wpAny_bind (wpAny_rule ?_)
  refine wpAny_bind (wpAny_field hz rfl (x := .ref TO) rfl ?_)
  refine wpAny_bind (wpAny_setField_rec hz (by simp) fun h₁ hz₁ hs₁ => ?_)
  replace hz₁ : IsZipB h₁ z TI TO .ellipsis b := hz₁
  refine wpAny_bind ?_
  simp only [List.zipIdx_cons, List.zipIdx_nil, List.forIn_cons, List.forIn_nil]
  have h1' := h1.extBut hs₁.extBut D.i1z
  have hl1' := hl1.extBut hs₁.extBut D.l1z
  cases b with
  | false =>
    refine wpAny_bind (wpAny_bind (wpAny_onRaise ?_))
    show wpAny _ _ (Builtin.SmallTypes.nextOf (.ref i1) >>= _) _ _ _
    cases hx : xs[n1]? with
    | none =>
      refine wpAny_bind (nx_end hh h1' hl1' hx fun h₂ e hs₂ he => ?_)
      obtain ⟨oe, hoe, hce⟩ := he
      have hz₂ : IsZipB h₂ z TI TO .ellipsis false := hs₂ _ _ D.i1z.symm hz₁
      have hez : e ≠ z := fun x => by subst x; rw [hz₂] at hoe; cases hoe; simp at hce
      refine wpAny_setField_rec hz₂ (by simp) fun h₃ _ hs₃ => hE h₃ e (fun c o c1 _ c3 _ x => hs₃.extBut _ _ c1 (hs₂ _ _ c3 (hs₁.extBut _ _ c1 x))) ⟨oe, hs₃.extBut _ _ hez hoe, hce⟩
    | some x =>
      have hy : ys[n2]? = none := by rcases hend with h | h; rw [hx] at h; cases h.1; exact h.2
      refine wpAny_bind (nx_item h1' hl1' hx fun h₂ h1₂ hs₂ => wpAny_pure ?_)
      have hTO₂ : IsPair h₂ TO u v := hs₂.extBut _ _ D.TOi1 (hs₁.extBut _ _ D.TOz hTO)
      refine wpAny_bind (wpAny_seqItems hTO₂ rfl ?_)
      refine wpAny_bind (wpAny_updateSeq_pair hTO₂ fun h₃ hTO₃ hs₃ => ?_)
      refine wpAny_bind (wpAny_letGo (wpAny_pure ?_))
      refine wpAny_bind (wpAny_bind (wpAny_onRaise ?_))
      show wpAny _ _ (Builtin.SmallTypes.nextOf (.ref i2) >>= _) _ _ _
      refine wpAny_bind (nx_end hh (((h2.extBut hs₁.extBut D.i2z).extBut hs₂.extBut D.i12.symm).extBut hs₃.extBut D.TOi2.symm)
        (((hl2.extBut hs₁.extBut D.l2z).extBut hs₂.extBut D.l2i1).extBut hs₃.extBut D.l2TO) hy fun h₄ e hs₄ he => ?_)
      obtain ⟨oe, hoe, hce⟩ := he
      have hz₄ : IsZipB h₄ z TI TO .ellipsis false := hs₄ _ _ D.i2z.symm (hs₃.extBut _ _ D.TOz.symm (hs₂.extBut _ _ D.i1z.symm hz₁))
      have hez : e ≠ z := fun x => by subst x; rw [hz₄] at hoe; cases hoe; simp at hce
      refine wpAny_setField_rec hz₄ (by simp) fun h₅ _ hs₅ => hE h₅ e (fun c o c1 c2 c3 c4 x => hs₅.extBut _ _ c1 (hs₄ _ _ c4 (hs₃.extBut _ _ c2 (hs₂.extBut _ _ c3 (hs₁.extBut _ _ c1 x))))) ⟨oe, hs₅.extBut _ _ hez hoe, hce⟩
  | true =>
    obtain ⟨hx, hy⟩ : xs[n1]? = none ∧ ys[n2]? = none := by
      rcases hend with h | h
      · exact ⟨h.1, h.2 rfl⟩
      · cases h.1
    refine wpAny_bind (wpAny_bind (wpAny_onRaise ?_))
    show wpAny _ _ (Builtin.SmallTypes.nextOrEnd (.ref i1)) _ _ _
    refine ne_end hh h1' hl1' hx fun h₂ hs₂ => ?_
    have hz₂ : IsZipB h₂ z TI TO .ellipsis true := hs₂ _ _ D.i1z.symm hz₁
    refine wpAny_bind (wpAny_setField_rec hz₂ (by simp) fun h₃ hz₃ hs₃ => ?_)
    have h2₃ : ItK k2 h₃ i2 l2 n2 := ((h2.extBut hs₁.extBut D.i2z).extBut hs₂ D.i12.symm).extBut hs₃.extBut D.i2z
    have hl2₃ : SqK k2 h₃ l2 ys := ((hl2.extBut hs₁.extBut D.l2z).extBut hs₂ D.l2i1).extBut hs₃.extBut D.l2z
    refine wpAny_bind ?_
    show wpAny _ _ (forIn [((Value.ref i2 : Value), (1 : Nat))] _ _ >>= _) _ _ _
    refine wpAny_bind ?_
    simp only [List.forIn_cons, List.forIn_nil]
    refine wpAny_bind (wpAny_bind ?_)
    refine ne_end hh h2₃ hl2₃ hy fun h₄ hs₄ => ?_
    simp only [Option.isSome_none, Bool.false_eq_true, if_false]
    refine wpAny_pure ?_
    refine wpAny_pure ?_
    refine wpAny_bind (wpAny_rule ?_)
    show wpAny _ _ (newExc (.type "StopIteration") [] >>= _) _ _ _
    refine wpAny_bind ?_
    simp only [newExc, newTuple]
    refine wpAny_bind (wpAny_newObj_type ?_ (by size_fits))
    refine wpAny_bind (m := firstArgMember _ _) (wpAny_of_eq (a := Value.none) (by first | rfl | (simp only [firstArgMember]; rfl)) ?_)
    refine wpAny_newObj_type ?_ (by size_fits)
    simp only [raiseNew]
    refine wpAny_bind (wpAny_handled ?_)
    rw [hh]
    refine wpAny_bind (wpAny_pure (wpAny_throw ?_))
    refine hE _ _ (fun c o c1 c2 c3 c4 x => ?_) ⟨_, Heap.get?_push_size _ rfl, rfl⟩
    exact Heap.get?_push_of_some _ (Heap.get?_push_of_some _ (hs₄ _ _ c4 (hs₃.extBut _ _ c1 (hs₂ _ _ c3 (hs₁.extBut _ _ c1 x)))))
theorem pyNext_zb_item {b : Bool} {k1 k2 : Kd} {z TI TO i1 i2 l1 l2 : Addr} {n1 n2 : Nat} {xs ys : Array Value} {x y u v : Value} {Q : Option Value → Shared → Prop} (D : ZipApart z TI TO i1 i2 l1 l2)
    (hz : IsZipB s.heap z TI TO .none b) (hTI : IsPair s.heap TI (.ref i1) (.ref i2)) (hTO : IsPair s.heap TO u v)
    (h1 : ItK k1 s.heap i1 l1 n1) (h2 : ItK k2 s.heap i2 l2 n2) (hl1 : SqK k1 s.heap l1 xs) (hl2 : SqK k2 s.heap l2 ys) (hx : xs[n1]? = some x) (hy : ys[n2]? = some y)
    (hQ : ∀ h', IsZipB h' z TI TO (rawInt s.heap.objs.size) b → IsPair h' TO x y → ItK k1 h' i1 l1 (n1 + 1) → ItK k2 h' i2 l2 (n2 + 1) → IsPair h' s.heap.objs.size x y → h'.objs.size = s.heap.objs.size + 1 →
      (∀ c o, c ≠ z → c ≠ TO → c ≠ i1 → c ≠ i2 → s.heap.get? c = some o → h'.get? c = some o) → Q (some (.ref s.heap.objs.size)) { s with heap := h' }) :
    wpAny (model prog w) A (pyNext (.ref z)) Q E s := by
  have hT : s.TypeIs (.ref z) "zip" := ⟨_, hz, rfl⟩
  unfold pyNext
  exact wpAny_bind (wpAny_attempt (wpAny_callSpecial?_slot (name := Str.ofString "__next__") hT F.slot_zip_next
    (wpAny_call_entry F.slot_zip_next hT F.entry_zip_next
      (zb_item D hz hTI hTO h1 h2 hl1 hl2 hx hy fun h' a1 a2 a3 a4 a5 a6 a7 => wpAny_pure (hQ h' a1 a2 a3 a4 a5 a6 a7)) (F.args_zip_next_1 _))))
theorem pyNext_zb_end {b : Bool} {k1 k2 : Kd} {z TI TO i1 i2 l1 l2 : Addr} {n1 n2 : Nat} {xs ys : Array Value} {u v : Value} {Q : Option Value → Shared → Prop} (hh : A.handled = none) (D : ZipApart z TI TO i1 i2 l1 l2)
    (hz : IsZipB s.heap z TI TO .none b) (hTI : IsPair s.heap TI (.ref i1) (.ref i2)) (hTO : IsPair s.heap TO u v)
    (h1 : ItK k1 s.heap i1 l1 n1) (h2 : ItK k2 s.heap i2 l2 n2) (hl1 : SqK k1 s.heap l1 xs) (hl2 : SqK k2 s.heap l2 ys) (hend : (xs[n1]? = none ∧ (b = true → ys[n2]? = none)) ∨ (b = false ∧ ys[n2]? = none))
    (hQ : ∀ h', (∀ c o, c ≠ z → c ≠ TO → c ≠ i1 → c ≠ i2 → s.heap.get? c = some o → h'.get? c = some o) → Q none { s with heap := h' }) : wpAny (model prog w) A (pyNext (.ref z)) Q E s := by
  have hT : s.TypeIs (.ref z) "zip" := ⟨_, hz, rfl⟩
  unfold pyNext
  refine wpAny_bind (wpAny_attempt (wpAny_callSpecial?_slot (name := Str.ofString "__next__") hT F.slot_zip_next
    (wpAny_call_entry F.slot_zip_next hT F.entry_zip_next (zb_end hh D hz hTI hTO h1 h2 hl1 hl2 hend fun h' e hk he => ?_) (F.args_zip_next_1 _))))
  obtain ⟨o, ho, hc⟩ := he
  refine wpAny_bind (wpAny_isInstance (T := "StopIteration") (b := true) ⟨o, ho, hc⟩ isSubtype_stop ?_)
  exact wpAny_pure (hQ _ hk)
/-! ### the making -/
def itN : Kd → String
  | .L => "list_iterator"
  | .T => "tuple_iterator"
abbrev zH1 (k1 : Kd) (h : Heap) (l1 : Addr) : Heap := h.push { cls := .type (itN k1), data := .fields #[.ref l1, .int 0 0] }
abbrev zH2 (k1 k2 : Kd) (h : Heap) (l1 l2 : Addr) : Heap := (zH1 k1 h l1).push { cls := .type (itN k2), data := .fields #[.ref l2, .int 0 0] }
abbrev zH3 (k1 k2 : Kd) (h : Heap) (l1 l2 : Addr) : Heap := (zH2 k1 k2 h l1 l2).push { cls := .type "tuple", data := .seq #[.ref h.objs.size, .ref (zH1 k1 h l1).objs.size] }
abbrev zH4 (k1 k2 : Kd) (h : Heap) (l1 l2 : Addr) : Heap := (zH3 k1 k2 h l1 l2).push { cls := .type "tuple", data := .seq #[.none, .none] }
abbrev zH5 (b : Bool) (k1 k2 : Kd) (h : Heap) (l1 l2 : Addr) : Heap := (zH4 k1 k2 h l1 l2).push { cls := .type "zip", data := .fields #[.none, .bool false, .bool b, .ref (zH2 k1 k2 h l1 l2).objs.size, .ref (zH3 k1 k2 h l1 l2).objs.size] }
theorem SqK.push {k : Kd} {h : Heap} {l : Addr} {xs : Array Value} (x : SqK k h l xs) (o : Obj) : SqK k (h.push o) l xs := by
  cases k with
  | L => exact Heap.IsList.push x o
  | T => exact Heap.IsTuple.push x o
theorem iter_k {k : Kd} {l : Addr} {xs : Array Value} {Q : Value → Shared → Prop} (hl : SqK k s.heap l xs) (h : Q (.ref s.heap.objs.size) { s with heap := s.heap.push { cls := .type (itN k), data := .fields #[.ref l, .int 0 0] } }) : wpAny (model prog w) A (pyIter (.ref l)) Q E s := by
  cases k with
  | L => exact wpAny_pyIter_list hl h
  | T => exact wpAny_pyIter_tuple hl h
end
theorem meets_zb_new (k1 k2 : Kd) (l1 l2 : Addr) (xs ys : Array Value) :
    Meets (Builtin.«zip.__new__» ⟨[.type "zip", .ref l1, .ref l2], []⟩) (fun _ R s => SqK k1 s.heap l1 xs ∧ SqK k2 s.heap l2 ys ∧
      R (.ok (.ret (.ref (zH4 k1 k2 s.heap l1 l2).objs.size))) { s with heap := zH5 false k1 k2 s.heap l1 l2 }) :=
  .of_wp fun prog w A R s h => by
    obtain ⟨hp, g, d, tk, os⟩ := s; obtain ⟨hl1, hl2, h⟩ := h
    have hsub := sub_zip
    have hL1 : SqK k1 (Shared.heap ⟨hp, g, d, tk, os⟩) l1 xs := hl1
    have hL2 : SqK k2 (Shared.heap ⟨hp.push { cls := .type (itN k1), data := .fields #[.ref l1, .int 0 0] }, g, d, tk, os⟩) l2 ys := hl2.push _
    wp_walk using iter_k hL1, iter_k hL2
    exact ⟨_, rfl, h⟩
theorem meets_zs_new (k1 k2 : Kd) (l1 l2 : Addr) (xs ys : Array Value) :
    Meets (Builtin.«zip.__new__» ⟨[.type "zip", .ref l1, .ref l2], [("strict", .bool true)]⟩) (fun _ R s => SqK k1 s.heap l1 xs ∧ SqK k2 s.heap l2 ys ∧
      R (.ok (.ret (.ref (zH4 k1 k2 s.heap l1 l2).objs.size))) { s with heap := zH5 true k1 k2 s.heap l1 l2 }) :=
  .of_wp fun prog w A R s h => by
    obtain ⟨hp, g, d, tk, os⟩ := s; obtain ⟨hl1, hl2, h⟩ := h
    have hsub := sub_zip
    have hL1 : SqK k1 (Shared.heap ⟨hp, g, d, tk, os⟩) l1 xs := hl1
    have hL2 : SqK k2 (Shared.heap ⟨hp.push { cls := .type (itN k1), data := .fields #[.ref l1, .int 0 0] }, g, d, tk, os⟩) l2 ys := hl2.push _
    wp_walk using iter_k hL1, iter_k hL2
    exact ⟨_, rfl, h⟩
section
variable {prog : Program} {w : World} {A : Around} {E : Value → Shared → Prop} {s : Shared}
end
end U

end
section
namespace U
open PySem PySem.W PyProof.Rows L2 Evl
section
variable {prog : Program} {w : World} {A : Around} {E : Value → Shared → Prop} {s : Shared}
theorem callType_meetsK {T newId initId : String} {Bn Bi : Builtin} {args : List Value} {kw : List (Str × Value)} {S : PySem.Spec} {Q Q₁ : Value → Shared → Prop} (ft : TypeCalled T newId initId)
    (hct : checkTypeCall T ⟨args, kw⟩ = pure ()) (hcn : checkBuiltinCall newId ⟨.type T :: args, kw⟩ = pure ())
    (entryN : entryFor table newId = some Bn) (entryI : entryFor table initId = some Bi) (g : Meets (Bn ⟨.type T :: args, kw⟩) S)
    (h : S A.in1 (wants Q₁ E) s)
    (hnext : ∀ obj s₁, Q₁ obj s₁ → s₁.TypeIs obj T ∧ argsOk initId ⟨obj :: args, kw⟩ ∧ ∃ Si, Meets (Bi ⟨obj :: args, kw⟩) Si ∧ Si A.in1 (wants (fun r s₂ => r = .none ∧ Q obj s₂) E) s₁) :
    wpAny (model prog w) A (call (.type T) args kw) Q E s := by
  obtain ⟨c, tl, hmro⟩ := ft.mro
  have hmade := ft.made
  have hsub := ft.sub
  refine wpAny_call (codeAny_of_tree ?_)
  show wpAny _ _ (callAny (.type T) _) _ _ _
  refine wpAny_pure ⟨Code.quiet_builtin _ (by decide +kernel), codeAny_builtin F.entry_type_call ?_⟩
  rw [Around.under_plain (weight_type_call_type T args kw) (units_type_call_type T args kw)]
  have h1 := ft.notType
  have h2 := ft.canCreate
  repeat (any_goals (first | assumption | wp_step))
  refine codeAny_mono (codeAny_call_builtin ft.plain entryN (wpAny_of_eq hcn (g prog w A.in1 _ s h))) fun r s₁ hr => ?_
  cases r with
  | error e => exact hr
  | ok fl =>
    cases fl with
    | ret obj =>
      obtain ⟨hT, hok, Si, gi, hsi⟩ := hnext _ _ hr
      have hli := ft.init.lookup
      have hbi := ft.init.bind obj
      repeat (any_goals (first | assumption | wp_step))
      refine codeAny_mono (codeAny_call_builtin ft.init.plain entryI (ft.init.check _ _ _ _ _ _ _ _ hT hok (gi prog w A.in1 _ s₁ hsi))) fun r₂ s₂ hr₂ => ?_
      cases r₂ with
      | error e => exact hr₂
      | ok fl₂ =>
        cases fl₂ with
        | ret r =>
          obtain ⟨rfl, hq⟩ := hr₂
          repeat (any_goals (first | assumption | wp_step))
        | _ => exact hr₂.elim
    | _ => exact hr.elim
theorem object_init_meetsK {T newId : String} {self : Value} {rest : List Value} {kw : List (Str × Value)} (hl : typeLookup (.type T) "__init__" = pure (some (.builtin "object.__init__")))
    (hm : Bind.madeBy (.type T) = pure (some newId)) (hne : (some newId != some "object.__new__") = true) (hr : rest ≠ []) :
    Meets (Builtin.«object.__init__» ⟨self :: rest, kw⟩) (fun _ R s => s.TypeIs self T ∧ R (.ok (.ret .none)) s) := by
  refine Meets.of_wp fun prog w A R s hs => ?_
  obtain ⟨hT, hq⟩ := hs
  cases rest with
  | nil => exact absurd rfl hr
  | cons a rest =>
    repeat (any_goals (first | assumption | wp_step))
    exact ⟨_, rfl, hq⟩
theorem zs_type (a b : Value) : checkTypeCall "zip" ⟨[a, b], [("strict", .bool true)]⟩ = pure () := by kernel_rfl
theorem zs_new (a b : Value) : checkBuiltinCall "zip.__new__" ⟨[.type "zip", a, b], [("strict", .bool true)]⟩ = pure () := by kernel_rfl
theorem zs_init (o a b : Value) : argsOk "object.__init__" ⟨[o, a, b], [("strict", .bool true)]⟩ := by kernel_rfl
theorem zb_made {b : Bool} {k1 k2 : Kd} {l1 l2 : Addr} {Q : Value → Shared → Prop}
    (h : ∀ h', IsZipB h' (s.heap.objs.size + 4) (s.heap.objs.size + 2) (s.heap.objs.size + 3) .none b → IsPair h' (s.heap.objs.size + 2) (.ref s.heap.objs.size) (.ref (s.heap.objs.size + 1)) →
      IsPair h' (s.heap.objs.size + 3) .none .none → ItK k1 h' s.heap.objs.size l1 0 → ItK k2 h' (s.heap.objs.size + 1) l2 0 → h'.objs.size = s.heap.objs.size + 5 →
      (∀ c o, s.heap.get? c = some o → h'.get? c = some o) → Q (.ref (s.heap.objs.size + 4)) { s with heap := h' }) :
    (∃ o, (zH5 b k1 k2 s.heap l1 l2).get? (zH4 k1 k2 s.heap l1 l2).objs.size = some o ∧ o.cls = .type "zip") ∧ Q (.ref (zH4 k1 k2 s.heap l1 l2).objs.size) { s with heap := zH5 b k1 k2 s.heap l1 l2 } := by
  have z1 : (zH1 k1 s.heap l1).objs.size = s.heap.objs.size + 1 := Heap.size_push ..
  have z2 : (zH2 k1 k2 s.heap l1 l2).objs.size = s.heap.objs.size + 2 := by rw [Heap.size_push, z1]
  have z3 : (zH3 k1 k2 s.heap l1 l2).objs.size = s.heap.objs.size + 3 := by rw [Heap.size_push, z2]
  have z4 : (zH4 k1 k2 s.heap l1 l2).objs.size = s.heap.objs.size + 4 := by rw [Heap.size_push, z3]
  have z5 : (zH5 b k1 k2 s.heap l1 l2).objs.size = s.heap.objs.size + 5 := by rw [Heap.size_push, z4]
  have g5 : (zH5 b k1 k2 s.heap l1 l2).get? (zH4 k1 k2 s.heap l1 l2).objs.size = some _ := Heap.get?_push_size _ rfl
  have g4 : (zH5 b k1 k2 s.heap l1 l2).get? (zH3 k1 k2 s.heap l1 l2).objs.size = some _ := Heap.get?_push_of_some _ (Heap.get?_push_size _ rfl)
  have g3 : (zH5 b k1 k2 s.heap l1 l2).get? (zH2 k1 k2 s.heap l1 l2).objs.size = some _ := Heap.get?_push_of_some _ (Heap.get?_push_of_some _ (Heap.get?_push_size _ rfl))
  have g2 : (zH5 b k1 k2 s.heap l1 l2).get? (zH1 k1 s.heap l1).objs.size = some _ := Heap.get?_push_of_some _ (Heap.get?_push_of_some _ (Heap.get?_push_of_some _ (Heap.get?_push_size _ rfl)))
  have g1 : (zH5 b k1 k2 s.heap l1 l2).get? s.heap.objs.size = some _ := Heap.get?_push_of_some _ (Heap.get?_push_of_some _ (Heap.get?_push_of_some _ (Heap.get?_push_of_some _ (Heap.get?_push_size _ rfl))))
  rw [z2, z3, z4] at g5
  rw [z1, z2] at g3
  rw [z3] at g4
  rw [z1] at g2
  rw [z4]
  have it : ∀ {k : Kd} {h : Heap} {i l : Addr}, h.get? i = some { cls := .type (itN k), data := .fields #[.ref l, .int 0 0] } → ItK k h i l 0 := fun {k h i l} e => by
    cases k with
    | L => exact ⟨_, e, rfl, rfl⟩
    | T => exact ⟨_, e, rfl, rfl⟩
  exact ⟨⟨_, g5, rfl⟩, h _ g5 g3 g4 (it g1) (it g2) z5 fun c o x =>
    Heap.get?_push_of_some _ (Heap.get?_push_of_some _ (Heap.get?_push_of_some _ (Heap.get?_push_of_some _ (Heap.get?_push_of_some _ x))))⟩
def kwS : Bool → List (Str × Value)
  | true => [("strict", .bool true)]
  | false => []
theorem call_zb {b : Bool} {k1 k2 : Kd} {l1 l2 : Addr} {xs ys : Array Value} {Q : Value → Shared → Prop} (hl1 : SqK k1 s.heap l1 xs) (hl2 : SqK k2 s.heap l2 ys)
    (h : ∀ h', IsZipB h' (s.heap.objs.size + 4) (s.heap.objs.size + 2) (s.heap.objs.size + 3) .none b → IsPair h' (s.heap.objs.size + 2) (.ref s.heap.objs.size) (.ref (s.heap.objs.size + 1)) →
      IsPair h' (s.heap.objs.size + 3) .none .none → ItK k1 h' s.heap.objs.size l1 0 → ItK k2 h' (s.heap.objs.size + 1) l2 0 → h'.objs.size = s.heap.objs.size + 5 →
      (∀ c o, s.heap.get? c = some o → h'.get? c = some o) → Q (.ref (s.heap.objs.size + 4)) { s with heap := h' }) :
    wpAny (model prog w) A (call (.type "zip") [.ref l1, .ref l2] (kwS b)) Q E s := by
  cases b with
  | false =>
    refine callType_new F.called_zip (by decide) (F.typeCall_zip_2 _ _) (F.newCall_zip_2 _ _) (fun obj => F.args_object_init_3 obj _ _) F.entry_zip_new (meets_zb_new k1 k2 l1 l2 xs ys) ⟨hl1, hl2, ?_⟩
    exact zb_made h
  | true =>
    refine callType_meetsK (Q₁ := fun obj s₁ => s₁.TypeIs obj "zip" ∧ Q obj s₁) F.called_zip (zs_type _ _) (zs_new _ _) F.entry_zip_new F.entry_object_init (meets_zs_new k1 k2 l1 l2 xs ys) ⟨hl1, hl2, ?_⟩ fun obj s₁ hq => ⟨hq.1, zs_init _ _ _, _, object_init_meetsK F.called_zip.init.lookup F.called_zip.made (by decide) (by simp), hq.1, rfl, hq.2⟩
    exact zb_made h
end
end U

end
section
namespace U
open PySem PySem.W PyProof.Rows L2 Evl
section
variable {prog : Program} {w : World} {A : Around} {E : Value → Shared → Prop} {s : Shared}
theorem letGo_zb {b : Bool} {elts : List Expr} {x1} {pos : Pos} {z TI TO T : Addr} {Q : Unit → Shared → Prop} (hz : IsZipB s.heap z TI TO (rawInt T) b)
    (hQ : ∀ h', IsZipB h' z TI TO .none b → Heap.SameBut z s.heap h' → Q () { s with heap := h' }) :
    wpAny (model prog w) A (letOwnedTupleGo (.Tuple elts x1 pos) (.ref z) (.ref T)) Q E s := by
  unfold letOwnedTupleGo
  refine wpAny_bind (wpAny_load hz ?_)
  show wpAny _ _ (if (["enumerate", "zip", "dict_itemiterator", "dict_reverseitemiterator", "odict_iterator", "itertools.zip_longest", "itertools.pairwise"].contains "zip" &&
      (#[rawInt T, .bool false, .bool b, .ref TI, .ref TO] : Array Value)[0]? == some (rawInt T)) = true then _ else _) Q E s
  rw [if_pos (by simp)]
  refine wpAny_bind (wpAny_rule ?_)
  show wpAny _ _ (setField (.ref z) 0 .none) Q E s
  exact wpAny_setField_rec hz (by simp) fun h' hz' hs' => hQ h' hz' hs'
theorem iter_zb {b : Bool} {z TI TO : Addr} {f0 : Value} {Q : Value → Shared → Prop} (hz : IsZipB s.heap z TI TO f0 b) (h : Q (.ref z) s) : wpAny (model prog w) A (pyIter (.ref z)) Q E s := by
  have hT : s.TypeIs (.ref z) "zip" := ⟨_, hz, rfl⟩
  refine wpAny_pyIter_slot hT F.slot_zip_iter (wpAny_call_entry F.slot_zip_iter hT F.entry_zip_iter ?_ (F.args_zip_iter_1 _))
  show wpAny _ _ (ret (.ref z)) _ _ s
  exact wpAny_pure ⟨_, rfl, "zip", _, hT, F.slot_zip_next.lookup, h⟩
end
def SqV (K : Fg) : Kd → Hp → Addr → List V → Prop
  | .L, H, a, xs => SqL K H a xs
  | .T, H, a, xs => SqT K H a xs
theorem SqV.inv {X : Cx} {pins : List (Addr × Obj)} {σ : St} {H : Hp} {s : Shared} {k : Kd} {a : Addr} {xs : List V} (I : Inv X pins σ H s) (h : SqV X.K k H a xs) : ∃ its, Vals xs its ∧ SqK k s.heap a its.toArray ∧ a < s.heap.objs.size := by
  cases k with
  | L =>
    obtain ⟨its, rv, p, _⟩ := I.list h
    exact ⟨its, rv, p.isList, p.lt⟩
  | T =>
    obtain ⟨its, rv, p, _⟩ := I.tuple h
    obtain ⟨o, ho, _⟩ := id p
    exact ⟨its, rv, p, Heap.lt_size ho⟩
theorem SqV.inj {X : Cx} {pins : List (Addr × Obj)} {σ : St} {H : Hp} {s : Shared} {k : Kd} {a : Addr} {xs ys : List V} (I : Inv X pins σ H s) (h : SqV X.K k H a xs) (g : SqV X.K k H a ys) : xs = ys := by
  cases k with
  | L => exact I.list_inj h g
  | T => exact I.tuple_inj h g
/-- the items of two, each a list or a tuple, in new pairs -/
def ItzM (K : Fg) (k1 k2 : Kd) (b : Bool) (a c : Addr) : It :=
  ⟨fun i H => ∃ (xs ys : List V) (x y : V), SqV K k1 H a xs ∧ SqV K k2 H c ys ∧ xs[i]? = some x ∧ ys[i]? = some y,
    fun i H v H' => ∃ T x y, v = .ref T ∧ H T = none ∧ H' = upd H T (.tup [x, y]) ∧ (∀ xs, SqV K k1 H a xs → xs[i]? = some x) ∧ ∀ ys, SqV K k2 H c ys → ys[i]? = some y,
    fun i H => ∃ xs ys : List V, SqV K k1 H a xs ∧ SqV K k2 H c ys ∧ ((xs.length ≤ i ∧ (b = true → ys.length ≤ i)) ∨ (b = false ∧ ys.length ≤ i))⟩
theorem turn_zipM {P : Program} {w : World} {K : Fg} {elts : List Expr} {kk : Nat} {tpos : Pos} {k1 k2 : Kd} {bo : Bool} {a b z TI TO i1 i2 : Addr} (D : ZipApart z TI TO i1 i2 a b) :
    L2.Turn P w K (.Tuple elts kk tpos) (ItzM K k1 k2 bo a b) [z, TI, TO, i1, i2] z (fun i h => IsZipB h z TI TO .none bo ∧ IsPair h TI (.ref i1) (.ref i2) ∧ (∃ x y, IsPair h TO x y) ∧ ItK k1 h i1 a i ∧ ItK k2 h i2 b i) where
  mem := by simp
  obj := fun i h st c hc => by
    obtain ⟨hz, hTI, ⟨x, y, hTO⟩, h1, h2⟩ := st
    have e' : c = z ∨ c = TI ∨ c = TO ∨ c = i1 ∨ c = i2 := by simpa using hc
    rcases e' with q | q | q | q | q
    · rw [q]; exact ⟨_, hz, fun v q => nomatch q⟩
    · rw [q]; exact ⟨_, hTI, fun v q => nomatch q⟩
    · rw [q]; exact ⟨_, hTO, fun v q => nomatch q⟩
    · rw [q]; exact h1.obj
    · rw [q]; exact h2.obj
  keep := fun i h h' st k => by
    obtain ⟨hz, hTI, ⟨x, y, hTO⟩, h1, h2⟩ := st
    exact ⟨k z (by simp) _ hz, k TI (by simp) _ hTI, ⟨x, y, k TO (by simp) _ hTO⟩, h1.at_ fun o q => k i1 (by simp) o q, h2.at_ fun o q => k i2 (by simp) o q⟩
  item := by
    intro X hP hw hK hc i pins s σ H E I hf st hg
    subst hP hw hK
    obtain ⟨hz, hTI, ⟨x0, y0, hTO⟩, h1, h2⟩ := st
    obtain ⟨xs, ys, x, y, hqx, hqy, hx, hy⟩ := hg
    obtain ⟨its, rv, p, _⟩ := hqx.inv I
    obtain ⟨its2, rv2, p2, _⟩ := hqy.inv I
    obtain ⟨u, hu, ru⟩ := rv.get hx
    obtain ⟨u2, hu2, ru2⟩ := rv2.get hy
    have hzl : z < s.heap.objs.size := Heap.lt_size hz
    refine pyNext_zb_item D hz hTI hTO h1 h2 p p2 (x := u) (y := u2) (by simpa using hu) (by simpa using hu2) fun h' z' TO' h1' h2' hT hsz hk => ?_
    refine ⟨_, rfl, letGo_zb (s := { s with heap := h' }) z' fun h'' z'' sb => ?_⟩
    have hT2 : h''.get? s.heap.objs.size = some { cls := .type "tuple", data := .seq #[u, u2] } := (sb.2 _ (Nat.ne_of_gt hzl)).trans hT
    have new : ObjOk X.prog X.w (upd H s.heap.objs.size (.tup [x, y])) h'' s.heap.objs.size (.tup [x, y]) :=
      ⟨by show 2 ≤ sizeLine; decide, [u, u2], .cons ru (.cons ru2 .nil), ⟨_, hT2, rfl, _, rfl⟩⟩
    have I1 : Inv X pins σ (upd H s.heap.objs.size (.tup [x, y])) { s with heap := h'' } :=
      I.turnedNew (t' := s.toks) (ch := [z, TI, TO, i1, i2]) (fun c o hb q => (sb.2 c (fun q' => hb (by simp [q']))).trans (hk c o (fun q' => hb (by simp [q'])) (fun q' => hb (by simp [q'])) (fun q' => hb (by simp [q'])) (fun q' => hb (by simp [q'])) q)) hf (Nat.le_refl _) new
    refine ⟨.ref s.heap.objs.size, _, I1, rfl, ⟨_, x, y, rfl, I.hok.fresh (Nat.le_refl _), rfl, fun l hl => by rw [SqV.inj I hl hqx]; exact hx, fun l hl => by rw [SqV.inj I hl hqy]; exact hy⟩, ⟨z'', ?_, ⟨u, u2, ?_⟩, ?_, ?_⟩, fun c hcm => ?_⟩
    · exact (sb.2 _ D.TIz).trans (hk _ _ D.TIz D.TITO D.TIi1 D.TIi2 hTI)
    · exact (sb.2 _ D.TOz).trans TO'
    · exact h1'.at_ fun o q => (sb.2 _ D.i1z).trans q
    · exact h2'.at_ fun o q => (sb.2 _ D.i2z).trans q
    · have hlt : c < s.heap.objs.size := by
        have e' : c = z ∨ c = TI ∨ c = TO ∨ c = i1 ∨ c = i2 := by simpa using hcm
        rcases e' with q | q | q | q | q
        · rw [q]; exact hzl
        · rw [q]; exact Heap.lt_size hTI
        · rw [q]; exact Heap.lt_size hTO
        · rw [q]; obtain ⟨_, e1, _⟩ := h1.obj; exact Heap.lt_size e1
        · rw [q]; obtain ⟨_, e2, _⟩ := h2.obj; exact Heap.lt_size e2
      rw [upd_ne (Nat.ne_of_lt hlt)]
      exact (hf c hcm).1
  done := by
    intro X hP hw hK hc i pins s σ H E I hf st hg
    subst hP hw hK
    obtain ⟨hz, hTI, ⟨x0, y0, hTO⟩, h1, h2⟩ := st
    obtain ⟨xs, ys, hqx, hqy, hend⟩ := hg
    obtain ⟨its, rv, p, _⟩ := hqx.inv I
    obtain ⟨its2, rv2, p2, _⟩ := hqy.inv I
    have l1 := rv.length
    have l2 := rv2.length
    have he : (its.toArray[i]? = none ∧ (bo = true → its2.toArray[i]? = none)) ∨ (bo = false ∧ its2.toArray[i]? = none) := by
      rcases hend with ⟨q, q'⟩ | ⟨q, q'⟩
      · exact .inl ⟨by simp; omega, fun e => by have := q' e; simp; omega⟩
      · exact .inr ⟨q, by simp; omega⟩
    exact pyNext_zb_end (I.ok.hd hc) D hz hTI hTO h1 h2 p p2 he fun h' hk => ⟨rfl, I.turnedL (t' := s.toks) (ch := [z, TI, TO, i1, i2]) (fun c o hb q =>
      hk c o (fun q' => hb (by simp [q'])) (fun q' => hb (by simp [q'])) (fun q' => hb (by simp [q'])) (fun q' => hb (by simp [q'])) q) hf⟩
  self := fun A i s Q E st h => iter_zb st.1 h
/-- for .. in zip(x, y), zip(x, y, strict=True) -/
def iZipM (K : Fg) (bo : Bool) (ta : TA) : TI := fun σ H R => ta σ H fun vs H1 => ∃ k1 k2 a b xs ys, vs = [.ref a, .ref b] ∧ SqV K k1 H1 a xs ∧ SqV K k2 H1 b ys ∧ R (ItzM K k1 k2 bo a b) H1
section
variable {M : Model} {A : Around} {E : Value → Shared → Prop} {s : Shared}
end
section
variable {X : Cx} {e e2 : Expr} {ta : TA} {p pos tpos kpos cpos : Pos} {elts : List Expr} {kk cn : Nat}
theorem zip_pi {bo : Bool} {pins : List (Addr × Obj)} {s1 : Shared} {σ : St} {H1 : Hp} {R : It → Hp → Prop} {us : List Value} {vs : List V} (I1 : Inv X pins σ H1 s1) (r1 : Vals vs us) (q1 : ∃ k1 k2 a b xs ys, vs = [.ref a, .ref b] ∧ SqV X.K k1 H1 a xs ∧ SqV X.K k2 H1 b ys ∧ R (ItzM X.K k1 k2 bo a b) H1) {tg : Expr} (htg : tg = .Tuple elts kk tpos) :
    wpAny (model X.prog X.w) X.A (call (.type "zip") us (kwS bo)) (fun v s' => wpAny (model X.prog X.w) X.A (pyIter v) (PIE X pins σ tg R) X.xe s') X.xe s1 := by
  subst htg
  obtain ⟨k1, k2, a, b, xs, ys, ex, hqx, hqy, q⟩ := q1
  subst ex
  cases r1 with
  | cons r rr =>
    cases rr with
    | cons r' rr =>
      cases rr
      cases r
      cases r'
      have fresh5 : ∀ c, c ∈ [s1.heap.objs.size + 4, s1.heap.objs.size + 2, s1.heap.objs.size + 3, s1.heap.objs.size, s1.heap.objs.size + 1] → FpOk X pins H1 c := fun c hcm => by
        have e' : c = s1.heap.objs.size + 4 ∨ c = s1.heap.objs.size + 2 ∨ c = s1.heap.objs.size + 3 ∨ c = s1.heap.objs.size ∨ c = s1.heap.objs.size + 1 := by simpa using hcm
        have hle : s1.heap.objs.size ≤ c := by
          rcases e' with z | z | z | z | z
          · rw [z]; exact Nat.le_add_right _ _
          · rw [z]; exact Nat.le_add_right _ _
          · rw [z]; exact Nat.le_add_right _ _
          · rw [z]; exact Nat.le_refl _
          · rw [z]; exact Nat.le_add_right _ _
        exact I1.fpOk hle (I1.hok.fresh hle)
      obtain ⟨its, rv, p1, lt1⟩ := hqx.inv I1
      obtain ⟨its2, rv2, p2, lt2⟩ := hqy.inv I1
      refine call_zb p1 p2 fun h' hz hTI hTO h1 h2 hsz hk => iter_zb hz ?_
      have I2 : Inv X pins σ H1 { s1 with heap := h' } := I1.kept (t' := s1.toks) hk
      exact ⟨s1.heap.objs.size + 4, [s1.heap.objs.size + 4, s1.heap.objs.size + 2, s1.heap.objs.size + 3, s1.heap.objs.size, s1.heap.objs.size + 1], _, _, H1, rfl, I2, turn_zipM (PySem.W.ktu_apart s1.heap.objs.size a b lt1 lt2), ⟨hz, hTI, ⟨_, _, hTO⟩, h1, h2⟩, fresh5, q⟩
theorem pi_zipM (hg : Gl X "zip") (hm : X.mg "zip" = none) (ha : PA X [e, e2] ta)
    (hs : starEach [e, e2] X.env = (false, eval e X.env) :: starEach [e2] X.env := by rfl) (hpl : (backTo pos (starEach [e2] X.env)).any (·.1) = false := by rfl) :
    PI X (.Tuple elts kk tpos) (.Call (.Name "zip" p) [e, e2] [] pos) (iZipM X.K false ta) := by
  refine ⟨fun pins s σ H R I h => ?_⟩
  refine Call_ (ld_blt I hg hm PyProof.Rows.boot_zip (PyProof.Rows.callWith_type1 (thn (ha.run pos pins s σ H _ I h) fun us s1 ⟨vs, H1, I1, r1, q1⟩ => ?_) hs hpl))
  exact zip_pi I1 r1 q1 rfl
end
end U

end
section
/-! try with several clauses, each with a name -/
namespace U
open PySem PySem.Spec PyProof.Rows L2
abbrev Hd := Value × Nat × (Addr → Value → Option Addr → TS)
section
variable {X : Cx} {body : List Stmt} {h₀ : ExceptHandler} {hds : List ExceptHandler} {l : List Hd} {pos : Pos} {tb : WX → TS} {Wout : WX}
end
end U

end
section
namespace U.N
open PySem PyProof.Rows L2 Evl
section
variable {K : Fg} {cs : Cs} {W : WX} {G G' G1 G2 : Gam} {ta tb tc te : TE} {φ : PyData → Prop} {ε : Xw → Prop} {Φ Ψ : Out → Prop}
variable {Wd : Addr → Prop} {B : Option (Addr × Addr)} {ad : Nat → Addr} {H0 H H1 H2 : Hp} {σ σ' : St}
/-! ### raising -/
theorem ew_xf {i : Nat} {a dd C : Addr} {fs : List (Str × V)} {n : Str} {v : V} {x : PyData} (hi : G[i]? = some (.xc a dd fs)) (hl : fs.lookup n = some v) (hd : ∀ H, Dp K H v x) (p : φ x) : EW K cs W (tXf a (.ref C) (some dd) C n (tVar i)) G φ ε := fun Wd B ad H0 H σ S Q q _ => by
  obtain ⟨o, g1, rfl, g2⟩ := S.at_ i _ hi
  exact ⟨_, g1, rfl, rfl, dd, fs, v, rfl, (less_some g2).2, hl, q _ p _ H S Xb.refl (hd _)⟩
theorem ew_xfS {i : Nat} {a dd C : Addr} {fs : List (Str × V)} {n : Str} {v : Str} (hi : G[i]? = some (.xc a dd fs)) (hl : fs.lookup n = some (.str v)) (p : φ (.str v)) : EW K cs W (tXf a (.ref C) (some dd) C n (tVar i)) G φ ε := ew_xf hi hl (fun _ => .str v) p
theorem sw_raise0 {c : Str} {nm : List Str} {g : List V → Option (List (Str × V))} {fs : List (Str × V)} (cf : ClsF K cs c nm) (hg : g [] = some fs) (h : Φ (.ex ⟨c, fs⟩ G)) : SW K cs W (tRaiseX (cs c) (spIn K nm g) [] tNil W) G Φ := fun Wd B ad H0 H σ D S q => by
  refine mk_read cf.ox cf.no ⟨by show 0 ≤ 1000; decide, hg, fun d hd => ?_⟩ (fun Q1 Q2 m h => m _ _ h)
  have e : Ex H (upd H d (.xd fs)) := Ex.new hd
  exact q _ h d ad _ σ (S.ext e) (less_mono e) (S.fresh hd).1 (less_of (S.fresh hd).2.2 upd_same)
/-! ### try .. except C as why -/
def hq (i : Nat) (Φ : Out → Prop) : Out → Prop
  | .nx G => Φ (.nx (G.set i .un))
  | .bk G => Φ (.bk (G.set i .un))
  | .ct G => Φ (.ct (G.set i .un))
  | .rt x => Φ (.rt x)
  | .rl c => Φ (.rl c)
  | .ex _ _ => False
def tq (K : Fg) (cs : Cs) (W : WX) (c : Str) (i : Nat) (ts : Addr → Value → Option Addr → TS) (Φ : Out → Prop) : Out → Prop
  | .ex e G => PySem.W.exmOne K (.ref (cs e.cls)) (.ref (cs c)) = some true ∧ ∀ a d, SW K cs W (ts a (.ref (cs e.cls)) (some d)) (G.set i (.xc a d e.fs)) (hq i Φ)
  | .nx G => Φ (.nx G)
  | .bk G => Φ (.bk G)
  | .ct G => Φ (.ct G)
  | .rt x => Φ (.rt x)
  | .rl c => Φ (.rl c)
theorem un_ex {i : Nat} : Ex (less H (Zs Wd B ad G)) (less H (Zs Wd B ad (G.set i .un))) := less_sub fun a z => Zs.set_of (fun _ z => by cases z) z
theorem sw_try {c : Str} {i : Nat} {tb : WX → TS} {ts : Addr → Value → Option Addr → TS} (h : ∀ W', SW K cs W' (tb W') G (tq K cs W c i ts Φ)) : SW K cs W (tTryAs K (.ref (cs c)) i tb ts) G Φ := fun Wd B ad H0 H σ D S q => by
  refine h _ Wd B ad H0 H σ D S fun o p => ?_
  cases o with
  | nx G1 => exact q _ p
  | bk G1 => exact q _ p
  | ct G1 => exact q _ p
  | rt x => exact q _ p
  | rl x => exact q _ p
  | ex e G1 =>
    intro d ad1 H1 σ1 S1 e1 hn hx
    obtain ⟨hm, p⟩ := p
    refine ⟨true, hm, fun _ a ha => ?_, fun z => by cases z⟩
    have S2 : Sta K Wd B ad1 H0 H1 (σ1.set i (some (.ref a))) (G1.set i (.xc a d e.fs)) := S1.set (fun _ z => by cases z) ⟨rfl, hx⟩
    have e2 : Ex (less H (Zs Wd B ad G)) (less H1 (Zs Wd B ad1 (G1.set i (.xc a d e.fs)))) := e1.trans (less_sub fun a z => Zs.set_of (fun _ z => by cases z) z)
    refine p a d Wd B ad1 H0 H1 _ _ S2 fun o po => ?_
    cases o with
    | nx G3 => exact fun ad3 H3 σ3 S3 e3 => q _ po ad3 H3 _ S3.setU ((e2.trans e3).trans un_ex)
    | bk G3 => exact fun ad3 H3 σ3 S3 e3 => q _ po ad3 H3 _ S3.setU ((e2.trans e3).trans un_ex)
    | ct G3 => exact fun ad3 H3 σ3 S3 e3 => q _ po ad3 H3 _ S3.setU ((e2.trans e3).trans un_ex)
    | rt x => exact q _ po
    | rl x => exact q _ po
    | ex e G3 => exact po.elim
end
/-! ### several clauses -/
section
variable {K : Fg} {cs : Cs} {W : WX} {G : Gam} {Φ : Out → Prop}
end
/-! ### defs -/
def rts0 (A : Rs → Prop) : Out → Prop
  | .rt x => A (.ok x)
  | .rl c => A (.fl c)
  | .nx _ => A (.ok .none)
  | _ => False
def rts (A : Rs → Prop) : Out → Prop
  | .rt x => A (.ok x)
  | .rl c => A (.fl c)
  | .nx _ => A (.ok .none)
  | .ex e _ => A (.er e)
  | _ => False
def frame (n : Nat) (ds : List PyData) : Gam := ds.map .d ++ List.replicate (n - ds.length) .un
section
variable {Pg : Program} {w : World} {K : Fg} {mg : Str → Option Value} {base : Heap} {cs : Cs}
theorem frame_get {n i : Nat} {ds : List PyData} {e : En} (h : (frame n ds)[i]? = some e) : (∃ d, ds[i]? = some d ∧ e = .d d) ∨ (ds.length ≤ i ∧ e = .un) := by
  unfold frame at h
  by_cases hi : i < ds.length
  · rw [List.getElem?_append_left (by rw [List.length_map]; exact hi), List.getElem?_map, List.getElem?_eq_getElem hi] at h
    exact .inl ⟨ds[i], List.getElem?_eq_getElem hi, (Option.some.inj h).symm⟩
  · have hi : ds.length ≤ i := by omega
    rw [List.getElem?_append_right (by rw [List.length_map]; exact hi)] at h
    exact .inr ⟨hi, (List.mem_replicate.mp (List.mem_of_getElem? h)).2⟩
theorem frame_len {n : Nat} {ds : List PyData} : (frame n ds).length = ds.length + (n - ds.length) := by
  unfold frame
  rw [List.length_append, List.length_map, List.length_replicate]
theorem bag_ok0 : Bag.ok ⟨[], 0, 0⟩ := ⟨by simp, by decide, by decide⟩
/-- the state at a def's entry -/
theorem sta0 {N : List Str} {Wd : Addr → Prop} {H : Hp} {vs : List V} {ds : List PyData} (hW : ∀ a, Wd a → ∃ o, H a = some o) (hd : DpAll K (less H Wd) vs ds) : Sta K Wd none (fun _ => 0) H H (L2.start N vs) (frame N.length ds) := by
  have no : ∀ (i : Nat) (c : Own), (frame N.length ds)[i]? ≠ some (En.ow c) := fun i c h => by
    rcases frame_get h with ⟨d, _, e⟩ | ⟨_, e⟩ <;> cases e
  have zz : ∀ a, Zs Wd none (fun _ => 0) (frame N.length ds) a → Wd a := by
    rintro a (z | ⟨i, c, g, _⟩ | ⟨b, c, z, _⟩)
    · exact z
    · exact absurd g (no i c)
    · cases z
  refine ⟨?_, fun i e h => ?_, fun i j c c' g => absurd g (no i c), fun i c g => absurd g (no i c), fun a o h _ => h, ⟨_, bag_ok0, trivial⟩, hW⟩
  · rw [start_len, dpa_len hd, frame_len]
  · rcases frame_get h with ⟨d, hi, rfl⟩ | ⟨hi, rfl⟩
    · obtain ⟨v, hv, dv⟩ := dpa_get hd hi
      exact ⟨some v, start_get hv, v, rfl, dp_mono (less_sub zz) dv⟩
    · have il : i < (L2.start N vs).length := by
        rw [start_len, dpa_len hd]
        have := (List.getElem?_eq_some_iff.mp h).1
        rw [frame_len] at this
        exact this
      exact ⟨(L2.start N vs)[i], List.getElem?_eq_getElem il, trivial⟩
theorem xb_none {H H' : Hp} (h : Xb none H H') : Ex H H' := fun a o g => h a o g fun ⟨_, _, z, _⟩ => by cases z
theorem sz_none {Wd : Addr → Prop} {H : Hp} : (less H fun a => Wd a ∨ InB none a) = less H Wd := congrArg (less H) (funext fun a => propext ⟨fun z => z.elim id (fun ⟨_, _, z, _⟩ => (by cases z)), Or.inl⟩)
theorem run0 {N : List Str} {Wd : Addr → Prop} {H : Hp} {vs : List V} {ds : List PyData} {A : Rs → Prop} {t : TS} {Q : VK} (hW : ∀ a, Wd a → ∃ o, H a = some o) (hd : DpAll K (less H Wd) vs ds) (h : SW K cs W0 t (frame N.length ds) (rts0 A)) (q : okRs H K Wd Q A) :
    t { nx := fun _ H' => Q .non H', rt := Q } (L2.start N vs) H := by
  refine h Wd none (fun _ => 0) H H _ _ (sta0 hW hd) fun o p => ?_
  cases o with
  | rt x => exact fun v H' e _ d => q.1 x p v H' (xb_none e) (by rw [sz_none] at d; exact d)
  | rl c => exact fun a us H' e _ hn ho d => q.2 c p a us H' (xb_none e) hn ho (dpa_mono (less_sub fun b z => by rcases z with z | z; exact .inl (.inl z); exact .inr z) d)
  | nx G => exact fun ad H' σ S _ => q.1 _ p _ H' (xb_none fun a o h n => S.base a o h n) .non
  | bk G => exact p.elim
  | ct G => exact p.elim
  | ex e G => exact p.elim
theorem runX {N : List Str} {Wd : Addr → Prop} {H : Hp} {vs : List V} {ds : List PyData} {A : Rs → Prop} {t : TS} {Q : VK} {E : XK} (hW : ∀ a, Wd a → ∃ o, H a = some o) (hd : DpAll K (less H Wd) vs ds) (h : SW K cs (WD E) t (frame N.length ds) (rts A)) (q : okRs H K Wd Q A) (x : ∀ e, A (.er e) → ∀ d H', Ex H H' → H d = none → H' d = some (.xd e.fs) → E (.ref (cs e.cls)) (some d) H') :
    t { nx := fun _ H' => Q .non H', rt := Q } (L2.start N vs) H := by
  refine h Wd none (fun _ => 0) H H _ _ (sta0 hW hd) fun o p => ?_
  cases o with
  | rt x => exact fun v H' e _ d => q.1 x p v H' (xb_none e) (by rw [sz_none] at d; exact d)
  | rl c => exact fun a us H' e _ hn ho d => q.2 c p a us H' (xb_none e) hn ho (dpa_mono (less_sub fun b z => by rcases z with z | z; exact .inl (.inl z); exact .inr z) d)
  | nx G => exact fun ad H' σ S _ => q.1 _ p _ H' (xb_none fun a o h n => S.base a o h n) .non
  | bk G => exact p.elim
  | ct G => exact p.elim
  | ex e G => exact fun d ad H' σ S _ hn hx => x e p d H' (xb_none fun a o h n => S.base a o h n) hn (less_some hx).2
/-- a def that never raises -/
theorem okW {x qual : Str} {st : Stmt} {f : Addr} {fd : FuncData} {N ps : List Str} {k : Nat} {P : Pr} (cs : Cs) (F : Fun K x qual st f fd) (S : FnScope N ps (defScope st)) (hl : ∀ ds A, P ds A → ds.length = ps.length)
    (hb : ∀ ds A, P ds A → ∀ (cdv : Value) (Ar : Around) (outer : List Env) (sh : Shared) (H : Hp) (E : XK), Room k (Ar.deeper (envOfC qual (defScope st) sh.heap.objs.size f cdv)) →
      ∃ t, PSs (cxOf CX0 Pg w K mg base N qual (defScope st) f cdv Ar outer sh H E).nox (defBody st) t ∧ SW K cs W0 t (frame N.length ds) (rts0 A)) : FnOk Pg w K mg base CX0 (k + 1) f fd ps (spW0 K P) := by
  refine F.ok S (fun vs H Q E h => ?_) (fun cdv Ar outer sh H vs Q E hr h => ?_)
  · obtain ⟨Wd, ds, A, _, hd, hp, _⟩ := h
    rw [dpa_len hd]
    exact hl ds A hp
  · obtain ⟨Wd, ds, A, hW, hd, hp, q⟩ := h
    obtain ⟨t, ht, g⟩ := hb ds A hp cdv Ar outer sh H E hr
    exact ⟨t, ht, run0 hW hd g q⟩
/-- a def that may raise -/
theorem okWX {x qual : Str} {st : Stmt} {f : Addr} {fd : FuncData} {N ps : List Str} {k : Nat} {P : Pr} (F : Fun K x qual st f fd) (S : FnScope N ps (defScope st)) (hl : ∀ ds A, P ds A → ds.length = ps.length)
    (hb : ∀ ds A, P ds A → ∀ (cdv : Value) (Ar : Around) (outer : List Env) (sh : Shared) (H : Hp) (E : XK), Room k (Ar.deeper (envOfC qual (defScope st) sh.heap.objs.size f cdv)) →
      ∃ t, PSs (cxOf (L2.CX Pg w) Pg w K mg base N qual (defScope st) f cdv Ar outer sh H E) (defBody st) t ∧ SW K cs (WD E) t (frame N.length ds) (rts A)) :
    FnOk Pg w K mg base (L2.CX Pg w) (k + 1) f fd ps (spW K cs P) := by
  refine F.okX S (fun vs H Q E h => ?_) (fun cdv Ar outer sh H vs Q E hr h => ?_)
  · obtain ⟨Wd, ds, A, _, hd, hp, _⟩ := h
    rw [dpa_len hd]
    exact hl ds A hp
  · obtain ⟨Wd, ds, A, hW, hd, hp, q, x⟩ := h
    obtain ⟨t, ht, g⟩ := hb ds A hp cdv Ar outer sh H E hr
    exact ⟨t, ht, runX hW hd g q x⟩
theorem bag0_okN {ns : List Int} (h : ns.length ≤ 63) : (bag0 ns).ok := ⟨h, by show (0 : Int) ≤ 20011; decide, by show (20011 : Int) < 2147483647; decide⟩
/-- the law itself -/
theorem okLawW {x qual : Str} {st : Stmt} {f : Addr} {fd : FuncData} {N : List Str} {a : Str} {k j : Nat} (cs : Cs) (F : Fun K x qual st f fd) (S : FnScope N [a] (defScope st)) (hj : j = 1) (hN : 2 ≤ N.length)
    (hb : ∀ (ns : List Int), ns.length ≤ 63 → ∀ (cdv : Value) (A : Around) (outer : List Env) (sh : Shared) (H : Hp) (E : XK), Room k (A.deeper (envOfC qual (defScope st) sh.heap.objs.size f cdv)) →
      ∃ t, PSs (cxOf CX0 Pg w K mg base N qual (defScope st) f cdv A outer sh H E).nox (defBody st) (tSeq (tAsg (tCall (spBag K) [] E0 (tCons (tVar 0) tNil)) (gName j)) t) ∧ SW K cs W0 t (.d (.list (ns.map PyData.int)) :: .bag :: List.replicate (N.length - 2) .un) (fun o => o = .rt (.bool true))) : FnOk Pg w K mg base CX0 (k + 1) f fd [a] (spP K PLaw) := by
  subst hj
  refine F.ok S (fun vs H Q E h => ?_) (fun cdv A outer sh H vs Q E hr h => ?_)
  · obtain ⟨W, ds, r, _, hd, ⟨ns, rfl, _⟩, _⟩ := h
    exact dpa_len hd
  · obtain ⟨W, ds, r, hW, hd, ⟨ns, rfl, hl, rfl⟩, q⟩ := h
    obtain ⟨t, ht, g⟩ := hb ns hl cdv A outer sh H E hr
    obtain ⟨v, rfl, dv⟩ := dp1 hd
    obtain ⟨N0, N1, N', rfl⟩ : ∃ a b r, N = a :: b :: r := by
      match N, hN with
      | a :: b :: r, _ => exact ⟨a, b, r, rfl⟩
    refine ⟨_, ht, ?_⟩
    refine ⟨v, rfl, W, ns, hW, hd, hl, fun b c H' e fb fc hB => ?_⟩
    have nb : ∀ a o, H a = some o → ¬ InB (some (b, c)) a := by
      rintro a o h ⟨b', c', e, z⟩
      cases e
      rcases z with rfl | rfl
      · rw [fb] at h; cases h
      · rw [fc] at h; cases h
    have no : ∀ (i : Nat) (l : Own), (En.d (.list (ns.map PyData.int)) :: En.bag :: List.replicate N'.length En.un)[i]? ≠ some (En.ow l) := fun i l h => by
      match i, h with
      | 0, h => cases h
      | 1, h => cases h
      | i + 2, h => cases (List.mem_replicate.mp (List.mem_of_getElem? h)).2
    have hW' : ∀ a, W a → ∃ o, H' a = some o := fun a z => (hW a z).elim fun o q => ⟨o, e a o q⟩
    have S0 : Sta K W (some (b, c)) (fun _ => 0) H H' ((L2.start (N0 :: N1 :: N') [v]).set 1 (some (.ref b))) (En.d (.list (ns.map PyData.int)) :: En.bag :: List.replicate N'.length En.un) := by
      refine ⟨?_, fun i en h => ?_, fun i j c c' g => absurd g (no i c), fun i c g => absurd g (no i c), fun a o h _ => e a o h, ⟨_, bag0_okN hl, hB⟩, hW'⟩
      · rw [List.length_set, start_len]
        simp
        omega
      · match i, h with
        | 0, h =>
          cases h
          refine ⟨some v, rfl, v, rfl, dp_mono ?_ dv⟩
          intro a o q
          obtain ⟨q1, q2⟩ := less_some q
          refine less_of ?_ (e a o q2)
          rintro (z | ⟨i, l, g, _⟩ | z)
          · exact q1 z
          · exact no i l g
          · exact nb a o q2 z
        | 1, h =>
          cases h
          exact ⟨some (.ref b), rfl, b, c, rfl, rfl⟩
        | i + 2, h =>
          have en := (List.mem_replicate.mp (List.mem_of_getElem? h)).2
          subst en
          have il : i + 2 < ((L2.start (N0 :: N1 :: N') [v]).set 1 (some (.ref b))).length := by
            have := (List.getElem?_eq_some_iff.mp h).1
            rw [List.length_set, start_len]
            simp at this ⊢
            omega
          exact ⟨_, List.getElem?_eq_getElem il, trivial⟩
    refine g W (some (b, c)) (fun _ => 0) H H' _ _ S0 fun o p => ?_
    subst p
    exact fun v' H2 e2 _ d => by
      cases d
      exact q _ H2 (fun a o h => e2 a o h (nb a o h)) (.bl true)
end
end U.N

end
section
namespace U.N
open PySem PyProof.Rows L2 Evl
section
variable {K : Fg} {cs : Cs} {W : WX} {G G' G1 G2 : Gam} {ta tb tc td te tf tg : TE} {φ : PyData → Prop} {ε : Xw → Prop} {ι : List PyData → Prop} {χ : Own → Prop} {γ : Gam → Prop} {Φ Ψ : Out → Prop}
variable {Wd : Addr → Prop} {B : Option (Addr × Addr)} {ad : Nat → Addr} {H0 H H1 H2 : Hp} {σ σ' : St}
/-! ### what a value is -/
section
variable {P : Int → Prop} {Pb : Bool → Prop} {Ps : Str → Prop} {Pl : List PyData → Prop} {i j : Int} {b : Bool} {x y z : PyData} {xs ys : List PyData}
theorem xi_int (p : P i) : ∃ j, PyData.int i = .int j ∧ P j := ⟨_, rfl, p⟩
theorem xi_bool (p : Pb b) : ∃ j, PyData.bool b = .bool j ∧ Pb j := ⟨_, rfl, p⟩
theorem xi_tup (p : Pl xs) : ∃ j, PyData.tuple xs = .tuple j ∧ Pl j := ⟨_, rfl, p⟩
theorem xi_list (p : Pl xs) : ∃ j, PyData.list xs = .list j ∧ Pl j := ⟨_, rfl, p⟩
theorem xi_it (h : itemsOf x = some xs) (p : Pl xs) : ∃ j, itemsOf x = some j ∧ Pl j := ⟨_, h, p⟩
theorem x1_int (p : P i) : ∃ j, [PyData.int i] = [.int j] ∧ P j := ⟨_, rfl, p⟩
theorem x1_it (h : itemsOf x = some xs) (p : Pl xs) : ∃ (y : PyData) (ys : List PyData), [x] = [y] ∧ itemsOf y = some ys ∧ Pl ys := ⟨_, _, rfl, h, p⟩
theorem x1_rng {P : Int → Prop} (hb : -1000000 ≤ i ∧ i ≤ 1000000) (p : P i) : ∃ n : Int, [PyData.int i] = [.int n] ∧ (-1000000 ≤ n ∧ n ≤ 1000000) ∧ P n := ⟨_, rfl, hb, p⟩
theorem sc_int (p : Pb (decide (i = j))) : ∃ b, scEq (.int i) (.int j) = some b ∧ Pb b := ⟨_, rfl, p⟩
theorem zip_f {P : List PyData → Prop} {xs ys : List PyData} (hx : itemsOf x = some xs) (hy : itemsOf y = some ys) (p : P (zipD xs ys)) : ∃ x' y' xs ys, [x, y] = [x', y'] ∧ itemsOf x' = some xs ∧ itemsOf y' = some ys ∧ (false = true → xs.length = ys.length) ∧ P (zipD xs ys) := ⟨_, _, _, _, rfl, hx, hy, (nomatch ·), p⟩
theorem x_ol (p : Pl xs) : ∃ ys, ol xs = ol ys ∧ Pl ys := ⟨_, rfl, p⟩
theorem unk1 {G : Gam} {i : Nat} (h : G[i]? = some .un) : Unk [i] G := fun j e hj g => by
  rw [List.mem_singleton.mp hj, h] at g
  exact (Option.some.inj g).symm
theorem unk2 {G : Gam} {i j : Nat} (h : G[i]? = some .un) (h2 : G[j]? = some .un) : Unk [i, j] G := fun k e hk g => by
  rcases List.mem_cons.mp hk with rfl | hk
  · rw [h] at g; exact (Option.some.inj g).symm
  · rw [List.mem_singleton.mp hk, h2] at g; exact (Option.some.inj g).symm
end
/-! ### displays of a known length -/
theorem ew_tup1 (h : EW K cs W ta G (fun a => φ (.tuple [a])) ε) : EW K cs W (tTup (tCons ta tNil)) G φ ε := ew_tup (aw_cons (ew_mono h fun a p => aw_nil ⟨by show 1 ≤ 16000000; decide, p⟩))
theorem ew_tup2 (h : EW K cs W ta G (fun a => EW K cs W tb G (fun b => φ (.tuple [a, b])) ε) ε) : EW K cs W (tTup (tCons ta (tCons tb tNil))) G φ ε := ew_tup (aw_cons (ew_mono h fun a h => aw_cons (ew_mono h fun b p => aw_nil ⟨by show 2 ≤ 16000000; decide, p⟩)))
theorem ef_lst0 (p : χ (ol [])) : EF K cs W (tLst tNil) G χ ε := ef_lst (aw_nil ⟨by show 0 ≤ 16000000; decide, p⟩)
theorem ef_lst1 (h : EW K cs W ta G (fun a => χ (ol [a])) ε) : EF K cs W (tLst (tCons ta tNil)) G χ ε := ef_lst (aw_cons (ew_mono h fun a p => aw_nil ⟨by show 1 ≤ 16000000; decide, p⟩))
theorem ew_lst1 (h : EW K cs W ta G (fun a => φ (.list [a])) ε) : EW K cs W (tLst (tCons ta tNil)) G φ ε := ew_ef (ef_lst1 (ew_mono h fun a p => ⟨_, rfl, p⟩))
/-! ### calls without defaults -/
section
variable {ta : TA} {P : Pr} {E : XK}
theorem ew_cP {P : List PyData → PyData → Prop} (h : AW K cs W ta G (fun ds => ∃ r, P ds r ∧ φ r) ε) : EW K cs W (tCall (spP K P) [] E ta) G φ ε := ew_callP (des := []) (fun _ => .nil) (aw_mono h fun ds p => by rw [List.append_nil]; exact p)
theorem ew_c0 (h : AW K cs W ta G (fun ds => P ds (rE φ noX)) ε) : EW K cs W (tCall (spW0 K P) [] E ta) G φ ε := ew_call0 (des := []) (fun _ => .nil) (aw_mono h fun ds p => by rw [List.append_nil]; exact p)
theorem ew_cW (h : AW K cs W ta G (fun ds => P ds (rE φ ε)) ε) : EW K cs W (tCallSD (spW K cs P) [] (WE W) ta) G φ ε := ew_callW (des := []) (fun _ => .nil) (aw_mono h fun ds p => by rw [List.append_nil]; exact p)
end
theorem rE_ok {x : PyData} (h : φ x) : rE φ ε (.ok x) := h
/-! ### zip -/
theorem dp_sqv {M : Hp} {v : V} {x : PyData} {xs : List PyData} (hx : itemsOf x = some xs) (d : Dp K M v x) : ∃ k a vs, v = .ref a ∧ SqV K k M a vs ∧ DpAll K M vs xs := by
  rcases items_cases hx with rfl | rfl
  · cases d with
    | lst g t => exact ⟨.L, _, _, rfl, g, t⟩
  · cases d with
    | tup g t => exact ⟨.T, _, _, rfl, g, t⟩
theorem ex_v {M M' : Hp} {k : Kd} {a : Addr} {vs : List V} (e : Ex M M') (h : SqV K k M a vs) : SqV K k M' a vs := by
  cases k with
  | L => exact ex_l e h
  | T => exact ex_t e h
theorem iw_zipM {bo : Bool} {ta : TA} (h : AW K cs W ta G (fun zs => ∃ x y xs ys, zs = [x, y] ∧ itemsOf x = some xs ∧ itemsOf y = some ys ∧ (bo = true → xs.length = ys.length) ∧ ι (zipD xs ys)) ε) : IW K cs W (iZipM K bo ta) G ι ε := fun Wd B ad H0 H σ S R q x => h Wd B ad H0 H σ S _ (fun zs ⟨x, y, xs, ys, e, hx, hy, hl, p⟩ vs H1 S1 e1 d1 => by
  subst e
  obtain ⟨v, w, rfl, d, d2⟩ := dp2 d1
  obtain ⟨k1, a, us, rfl, g, t⟩ := dp_sqv hx d
  obtain ⟨k2, b, ws, rfl, g2, t2⟩ := dp_sqv hy d2
  refine ⟨k1, k2, a, b, us, ws, rfl, ex_v less_ex g, ex_v less_ex g2, q _ p _ H1 S1 e1 fun H' Z hz e i => ?_⟩
  have q1 : SqV K k1 H' a us := ex_v less_ex (ex_v e g)
  have q2 : SqV K k2 H' b ws := ex_v less_ex (ex_v e g2)
  have l1 := dpa_len t
  have l2 := dpa_len t2
  have lz : (zipD xs ys).length = min xs.length ys.length := List.length_zipWith ..
  refine ⟨fun d hd => ?_, fun hn => ⟨us, ws, q1, q2, ?_⟩, fun x H'' hy => ?_⟩
  · have hi := (List.getElem?_eq_some_iff.mp hd).1
    rw [lz] at hi
    obtain ⟨v, hv, _⟩ := dpa_get t (List.getElem?_eq_getElem (i := i) (by omega))
    obtain ⟨w, hw, _⟩ := dpa_get t2 (List.getElem?_eq_getElem (i := i) (by omega))
    exact ⟨us, ws, v, w, q1, q2, hv, hw⟩
  · rw [lz] at hn
    cases bo with
    | true => exact .inl ⟨by have := hl rfl; omega, fun _ => by have := hl rfl; omega⟩
    | false =>
      by_cases h : us.length ≤ i
      · exact .inl ⟨h, fun z => by cases z⟩
      · exact .inr ⟨rfl, by omega⟩
  · obtain ⟨T, v, w, rfl, hn, rfl, f1, f2⟩ := hy
    have f1 := f1 us q1
    have f2 := f2 ws q2
    have ex : Ex H' (upd H' T (.tup [v, w])) := Ex.new hn
    refine ⟨ex, fun d hd => ?_⟩
    unfold zipD at hd
    rw [List.getElem?_zipWith] at hd
    obtain ⟨x1, hx1, dx⟩ := dpa_at t f1
    obtain ⟨y1, hy1, dy⟩ := dpa_at t2 f2
    rw [hx1, hy1] at hd
    cases hd
    have zn : ¬ Z T := fun z => by
      obtain ⟨o, h⟩ := hz T z
      rw [hn] at h; cases h
    exact .tup (st_of (less_of zn upd_same)) (.cons (dp_mono (e.trans (less_mono ex)) dx) (.cons (dp_mono (e.trans (less_mono ex)) dy) .nil))) x
theorem zipD_map {α β : Type} {f : α → PyData} {g : β → PyData} {xs : List α} {ys : List β} : zipD (xs.map f) (ys.map g) = (xs.zip ys).map fun p => .tuple [f p.1, g p.2] := by
  unfold zipD
  rw [List.zip, List.map_zipWith, List.zipWith_map]
/-! ### stars -/
/-- .. and the list is only read -/
theorem gw_starD {i j : Nat} {xs : List PyData} {x : PyData} (hij : i ≠ j) (hi : i < G.length) (hl : xs.length ≤ 10000) (h : γ ((G.set i (.d (.list xs))).set j (.d x))) : GW K (gStar K (gCons (gName i) (gCons (gName j) gNil))) G (.tuple (xs ++ [x])) γ := fun Wd B ad H0 H σ v S d Q q =>
  gw_star (γ := fun G' => G' = (G.set i (.ow (ol xs))).set j (.d x)) hij hl rfl Wd B ad H0 H σ v S d Q fun G' ad' H' σ' p S' e' => by
    subst p
    have hg : ((G.set i (.ow (ol xs))).set j (.d x))[i]? = some (.ow (ol xs)) := by rw [List.getElem?_set_ne hij.symm, List.getElem?_set_self hi]
    have S2 := S'.freeze hg
    have eG : (((G.set i (.ow (ol xs))).set j (.d x)).set i (.d (.list xs))) = (G.set i (.d (.list xs))).set j (.d x) := by
      rw [List.set_comm _ _ hij.symm, List.set_set]
    rw [eG] at S2
    refine q _ ad' H' σ' h S2 (e'.trans ?_)
    rw [← eG]
    exact less_sub fun a z => Zs.set_of (fun _ z => by cases z) z
def GsW (K : Fg) (g : TGs) (G : Gam) (xs : List PyData) (γ : Gam → Prop) : Prop :=
  ∀ Wd B ad H0 H σ us, Sta K Wd B ad H0 H σ G → DpAll K (less H (Zs Wd B ad G)) us xs → ∀ Q : St → Hp → Prop,
  (∀ G' ad' H' σ', γ G' → Sta K Wd B ad' H0 H' σ' G' → Ex (less H (Zs Wd B ad G)) (less H' (Zs Wd B ad' G')) → Q σ' H') → g us σ H Q
theorem gsw_nil (h : γ G) : GsW K gNil G [] γ := fun Wd B ad H0 H σ us S d Q q => by
  cases d
  exact ⟨rfl, q _ _ _ _ h S (Ex.refl _)⟩
theorem gsw_cons {g : TG} {gs : TGs} {x : PyData} {xs : List PyData} (h : GW K g G x (fun G' => GsW K gs G' xs γ)) : GsW K (gCons g gs) G (x :: xs) γ := fun Wd B ad H0 H σ us S d Q q => by
  cases d with
  | cons a b =>
    refine ⟨_, _, rfl, h Wd B ad H0 H σ _ S a _ fun G1 ad1 H1 σ1 p S1 e1 => ?_⟩
    exact p Wd B ad1 H0 H1 σ1 _ S1 (dpa_mono e1 b) _ fun G2 ad2 H2 σ2 p S2 e2 => q G2 ad2 H2 σ2 p S2 (e1.trans e2)
theorem gw_tup {n : Nat} {gs : TGs} {xs : List PyData} (hn : xs.length = n) (h : GsW K gs G xs γ) : GW K (gTup K n gs) G (.tuple xs) γ := fun Wd B ad H0 H σ v S d Q q => by
  cases d with
  | tup g t => exact ⟨_, _, rfl, ex_t less_ex g, (dpa_len t).trans hn, h Wd B ad H0 H σ _ S t Q q⟩
/-- for i in range(n) -/
theorem forN {g : TG} {tb : TS} {k : Nat} (I : Nat → Gam → Prop) (h0 : I 0 G) (hs : ∀ i G1, i < k → I i G1 → GW K g G1 (.int i) (fun Gt => SW K cs W tb Gt (lp (I (i + 1)) Φ))) (he : ∀ G1, I k G1 → Φ (.nx G1)) : ForI K cs W g tb G Φ (rngD 0 k) := by
  refine ⟨I, h0, fun i x G1 hx hI => ?_, fun G1 hI => he G1 (by rw [rngD_len] at hI; exact hI)⟩
  have hl := (List.getElem?_eq_some_iff.mp hx).1
  rw [rngD_len] at hl
  rw [rngD_get hl] at hx
  cases hx
  rw [Int.zero_add]
  exact hs i G1 hl hI
section
variable {tz tu tw : TS} {g : TG} {wi : TI} {t : TT} {ti : TIp} {i j : Nat} {ta : TA}
theorem sw_seqA (h : SW K cs W (tAsg te g) G (sq K cs W tz Φ)) : SW K cs W (tSeq (tAsg te g) tz) G Φ := sw_seq h
theorem sw_seqF (h : SW K cs W (tFor wi g tu) G (sq K cs W tz Φ)) : SW K cs W (tSeq (tFor wi g tu) tz) G Φ := sw_seq h
end
theorem sw_cut {tu tz : TS} (J : Gam → Prop) (h : SW K cs W tu G (fun o => ∃ G1, o = .nx G1 ∧ J G1)) (k : ∀ G1, J G1 → SW K cs W tz G1 Φ) : SW K cs W (tSeq tu tz) G Φ := sw_seq (sw_mono h fun o ⟨G1, e, j⟩ => by rw [e]; exact k G1 j)
theorem x_nx {J : Gam → Prop} (h : J G) : ∃ G1, Out.nx G = .nx G1 ∧ J G1 := ⟨G, rfl, h⟩
/-! ### more of lists of one's own -/
theorem sw_setI {i : Nat} {xs : List PyData} (hi : G[i]? = some (.ow (ol xs))) (h : EW K cs W te G (fun x => EW K cs W tb G (fun y => ∃ j k, y = .int j ∧ ixN xs.length j = some k ∧ Φ (.nx (G.set i (.ow (ol (xs.set k x)))))) (fun e => Φ (.ex e G))) (fun e => Φ (.ex e G))) : SW K cs W (tAsg te (gSub (tVar i) tb rSetL)) G Φ := fun Wd B ad H0 H σ D S q =>
  h Wd B ad H0 H σ S _ (fun x p v H1 S1 e1 d1 => by
    obtain ⟨o, g1, rfl, _⟩ := S1.at_ i _ hi
    refine ⟨_, g1, p Wd B ad H0 H1 σ S1 _ (fun y ⟨j, k, ej, hk, p⟩ w H2 S2 e2 d2 => ?_) ((post_xp q).go e1)⟩
    subst ej
    cases d2
    obtain ⟨_, _, _, us, g5, g6⟩ := S2.at_ i _ hi
    have g5 : H2 (ad i) = some (.lst us) := g5
    have g6 : DpAll K _ us xs := g6
    refine ⟨_, us, j, k, rfl, rfl, g5, by rw [dpa_len g6]; exact hk, ?_⟩
    have ds : DpAll K (less H2 (Zs Wd B ad G)) (us.set k v) (xs.set k x) := by
      have key : ∀ (us : List V) (xs : List PyData) (k : Nat), DpAll K (less H2 (Zs Wd B ad G)) us xs → DpAll K (less H2 (Zs Wd B ad G)) (us.set k v) (xs.set k x) := fun us => by
        induction us with
        | nil => intro xs k h; cases h; exact .nil
        | cons u us ih =>
          intro xs k h
          cases h with
          | cons a b =>
            cases k with
            | zero => exact .cons (dp_mono (Xb.lz e2) d1) b
            | succ k => exact .cons a (ih _ k b)
      exact key us xs k g6
    exact q _ p ad _ σ (S2.chg (c' := ol (xs.set k x)) hi ds) ((Xb.lz (e1.trans e2)).trans (chg_ex hi))) (post_xp q)
end
end U.N

end
section
namespace U.N
open PySem PyProof.Rows L2 Evl
section
variable {φ : PyData → Prop} {n m : Nat} {p q : Fr}
/-! ### items by literal places -/
section
variable {α : Type} {ψ : α → Prop} {xs : List α} {z : α}
theorem at_nat {i : Nat} (h : xs[i]? = some z) (p : ψ z) : ∃ z, atI xs (i : Int) = some z ∧ ψ z := ⟨z, atI_nat h, p⟩
theorem at0 (h : xs[0]? = some z) (p : ψ z) : ∃ z, atI xs 0 = some z ∧ ψ z := at_nat (i := 0) h p
theorem atm {k : Nat} (hk : k ≤ xs.length) (hk0 : 0 < k) (h : xs[xs.length - k]? = some z) : atI xs (-(k : Int)) = some z := by
  unfold atI
  have e : ixN xs.length (-(k : Int)) = some (xs.length - k) := by
    unfold ixN
    split
    · omega
    · split
      · congr 1
        omega
      · omega
  rw [e]
  exact h
theorem atm1 (p : ψ z) : ∃ z', atI (xs ++ [z]) (-1) = some z' ∧ ψ z' := ⟨z, atm (k := 1) (by simp) (by decide) (by simp), p⟩
theorem atm1M {β : Type} {f : β → α} {xs : List β} {z : β} (p : ψ (f z)) : ∃ z', atI (List.map f (xs ++ [z])) (-1) = some z' ∧ ψ z' := by
  rw [List.map_append]
  exact atm1 p
theorem atM {β : Type} {f : β → α} {xs : List β} {i : Nat} {z : β} (h : xs[i]? = some z) (p : ψ (f z)) : ∃ z', atI (List.map f xs) (i : Int) = some z' ∧ ψ z' := ⟨_, atI_nat (by rw [List.getElem?_map, h]; rfl), p⟩
end
/-! ### what calls of the first layer's defs give -/
theorem c_pull {k : Int} (h0 : 0 < k) (h1 : k < 1000000000000) (h : ∀ v : Int, 0 ≤ v → v < k → φ (.int v)) (s : Bag) (ok : s.ok) : ∃ r s', P_pull s [.int k] r s' ∧ s'.ok ∧ φ r :=
  ⟨_, _, ⟨k, rfl, h0, h1, rfl, rfl⟩, pullS_ok _ ok, h _ (pullV_range s h0).1 (pullV_range s h0).2⟩
theorem c_plus (hp : Gd n p) (hq : Gd m q) (hl : n + m ≤ 7800) (h : Gd (n + m + 1) (addF p q) → φ (fr (addF p q))) : ∃ r, P_plus [fr p, fr q] r ∧ φ r := ⟨_, ⟨n, m, p, q, rfl, hp.sz, hq.sz, hl, ⟨hp.ne, hq.ne⟩, rfl⟩, h (hp.add hq)⟩
theorem c_times (hp : Gd n p) (hq : Gd m q) (hl : n + m ≤ 7800) (h : Gd (n + m) (mulF p q) → φ (fr (mulF p q))) : ∃ r, P_times [fr p, fr q] r ∧ φ r := ⟨_, ⟨n, m, p, q, rfl, hp.sz, hq.sz, hl, ⟨hp.ne, hq.ne⟩, rfl⟩, h (hp.mul hq)⟩
theorem c_ladd (hp : Gd n p) (hq : Gd m q) (hl : n + m ≤ 7800) (h : Gd (n + m + 1) (addF p q) → φ (fr (addF p q))) : ∃ r, P_add [fr p, fr q] r ∧ φ r := ⟨_, ⟨n, m, p, q, rfl, hp.sz, hq.sz, hl, rfl⟩, h (hp.add hq)⟩
theorem c_lsub (hp : Gd n p) (hq : Gd m q) (hl : n + m ≤ 7800) (h : Gd (n + m + 1) (subF p q) → φ (fr (subF p q))) : ∃ r, P_lsub [fr p, fr q] r ∧ φ r := ⟨_, ⟨n, m, p, q, rfl, hp.sz, hq.sz, hl, trivial, rfl⟩, h (hp.sub hq)⟩
theorem c_lmul (hp : Gd n p) (hq : Gd m q) (hl : n + m ≤ 7800) (h : Gd (n + m) (mulF p q) → φ (fr (mulF p q))) : ∃ r, P_lmul [fr p, fr q] r ∧ φ r := ⟨_, ⟨n, m, p, q, rfl, hp.sz, hq.sz, hl, trivial, rfl⟩, h (hp.mul hq)⟩
theorem c_like {x y : PyData} (e : x = y) (hy : okD 9 y = true) (h : φ (.bool true)) : ∃ r, P_like 10 [x, y] r ∧ φ r := by
  subst e
  exact ⟨_, ⟨x, rfl, hy, rfl⟩, h⟩
theorem c_map {st gl : Int} (h1 : 0 ≤ st) (h2 : 0 ≤ gl) (l1 : st ≤ 1000) (l2 : gl ≤ 1000) (h : ∀ m, Mp 10 gl.toNat st.toNat m → φ (mp m)) (s : Bag) (ok : s.ok) : ∃ r s', P_map s [.int st, .int gl] r s' ∧ s'.ok ∧ φ r :=
  ⟨_, _, ⟨st.toNat, gl.toNat, by rw [Int.toNat_of_nonneg h1, Int.toNat_of_nonneg h2], by omega, by omega, rfl, rfl⟩, mapS_ok ok _ _, h _ (mapOf_mp _ _ _)⟩
theorem gd_none : Gd 1 (0, 1) := ⟨⟨by unfold Bd; decide, by unfold Bd; decide⟩, by decide, by decide⟩
theorem gd_one : Gd 1 (1, 1) := ⟨⟨by unfold Bd; decide, by unfold Bd; decide⟩, by decide, by decide⟩
theorem val_none : val (0, 1) = 0 := by unfold val; grind
theorem val_one : val (1, 1) = 1 := by unfold val; grind
end
end U.N


end
section
/-! Spots in order: the common number below, the keys, the order by worth. -/
namespace U
open PySem PyProof.Rows L2 Evl
theorem gi_cop {a b : Int} (h : gI a b = 1) (hb : b ≠ 0) : Nat.Coprime a.natAbs b.natAbs := by
  have h1 : gN a b = 1 := by unfold gI at h; omega
  unfold gN at h1
  have : 0 < Nat.gcd a.natAbs b.natAbs := Nat.gcd_pos_of_pos_right _ (by omega)
  unfold Nat.Coprime
  omega
theorem val_eq_iff {p q : Fr} (hp : 0 < p.2) (hq : 0 < q.2) : val p = val q ↔ p.1 * q.2 = q.1 * p.2 := by
  have h1 := qne (Int.ne_of_gt hp)
  have h2 := qne (Int.ne_of_gt hq)
  unfold val
  constructor
  · intro h
    have : (p.1 : Rat) * q.2 = q.1 * p.2 := by grind
    exact_mod_cast this
  · intro h
    have : (p.1 : Rat) * q.2 = q.1 * p.2 := by exact_mod_cast h
    grind
theorem gd_inj {n m : Nat} {p q : Fr} (hp : Gd n p) (hq : Gd m q) (h : val p = val q) : p = q := by
  have e := (val_eq_iff hp.pos hq.pos).mp h
  have c1 := gi_cop hp.low hp.ne
  have c2 := gi_cop hq.low hq.ne
  have en : p.1.natAbs * q.2.natAbs = q.1.natAbs * p.2.natAbs := by
    have := congrArg Int.natAbs e
    rwa [Int.natAbs_mul, Int.natAbs_mul] at this
  have d1 : p.2.natAbs ∣ q.2.natAbs := by
    have : p.2.natAbs ∣ p.1.natAbs * q.2.natAbs := en ▸ Nat.dvd_mul_left _ _
    exact Nat.Coprime.dvd_of_dvd_mul_left c1.symm this
  have d2 : q.2.natAbs ∣ p.2.natAbs := by
    have : q.2.natAbs ∣ q.1.natAbs * p.2.natAbs := en ▸ Nat.dvd_mul_left _ _
    exact Nat.Coprime.dvd_of_dvd_mul_left c2.symm this
  have e2 := Nat.dvd_antisymm d1 d2
  have p1 := hp.pos
  have p2 := hq.pos
  have e3 : p.2 = q.2 := by omega
  rw [e3] at e
  have e4 : p.1 = q.1 := Int.eq_of_mul_eq_mul_right (by omega) e
  exact Prod.ext e4 e3
/-! ### the common number -/
/-! ### the keys -/
end U

end
section
/-! Dicts whose keys are tuples, nested ones too: by what they hold. -/
namespace U
open PySem PySem.Spec PyProof.Rows L2 Evl
abbrev NK := NestedKey
mutual
/-- data as keys -/
def toK : PyData → Option NK
  | .none => some .none
  | .int i => some (.num i)
  | .str x => some (.text x)
  | .tuple xs => (toKs xs).map .tup
  | _ => none
def toKs : List PyData → Option (List NK)
  | [] => some []
  | x :: xs => (toK x).bind fun k => (toKs xs).map (k :: ·)
end
section
variable {X : Cx} {pins : List (Addr × Obj)} {σ : L2.St} {H : Hp} {s : Shared}
mutual
theorem nk_is (I : Inv X pins σ H s) : ∀ {x : PyData} {v : V} {u : Value} {k : NK}, Dp X.K H v x → RelV v u → toK x = some k → NestedIs s.heap k u
  | _, _, _, _, .non, r, e => by cases e; cases r; exact .none
  | _, _, _, _, .bl b, r, e => by cases e
  | _, _, _, _, .int i, r, e => by
    cases e
    obtain ⟨t, rfl⟩ := r
    exact .int i t
  | _, _, _, _, .str x, r, e => by
    cases e
    obtain ⟨t, rfl⟩ := r
    exact .text x t
  | _, _, _, _, .lst h t, r, e => by cases e
  | .tuple xs, _, _, _, .tup h t, r, e => by
    have e : (toKs xs).map NestedKey.tup = some _ := e
    obtain ⟨ks, hks, rfl⟩ := Option.map_eq_some_iff.mp e
    cases r
    obtain ⟨its, rv, ⟨o, h1, h2, n, h3⟩, _⟩ := I.tuple h
    exact .tup h1 h2 h3 (by rw [List.toList_toArray]; exact nk_all I t rv hks)
theorem nk_all (I : Inv X pins σ H s) : ∀ {xs : List PyData} {vs : List V} {us : List Value} {ks : List NK}, DpAll X.K H vs xs → Vals vs us → toKs xs = some ks → NestedAll s.heap ks us
  | _, _, _, _, .nil, r, e => by cases e; cases r; exact .nil
  | x :: xs, _, _, _, .cons h t, r, e => by
    have e : ((toK x).bind fun k => (toKs xs).map (k :: ·)) = some _ := e
    obtain ⟨k, hk, e⟩ := Option.bind_eq_some_iff.mp e
    obtain ⟨ks, hks, rfl⟩ := Option.map_eq_some_iff.mp e
    cases r with
    | cons a b => exact .cons (nk_is I h a hk) (nk_all I t b hks)
end
end
abbrev Ent := NK × Addr × V
section
variable {X : Cx} {pins : List (Addr × Obj)} {σ : L2.St} {H : Hp} {s : Shared} {a b : Addr} {ep : Nat} {es : List Ent} {k : NK}
/-! ### {}, d[k], d[k] = v, d.get(k, x) -/
end
end U

end
section
/-! Dicts with tuple keys: walked, and made by a comprehension. -/
namespace U
open PySem PySem.Spec PyProof.Rows L2 Evl
section
variable {P : Program} {w : World} {K : Fg} {tg : Expr} {d : Addr} {ep : Nat} {es : List Ent}
end
section
variable {X : Cx} {tg e : Expr} {td : TE}
end
section
variable {X : Cx} {pins : List (Addr × Obj)} {σ : L2.St} {H : Hp} {s : Shared}
end
section
variable {X : Cx}
end
end U

end
section
/-! sorted(xs) of data that compare, sorted(d) of a dict with such keys. -/
namespace U
open PySem PySem.Spec PyProof.Rows L2 Evl
section
variable {X : Cx} {pins : List (Addr × Obj)} {σ : L2.St} {H : Hp} {s : Shared}
end
end U

end
section
/-! Dicts of one's own, keys tuples; sorted. -/
namespace U.N
open PySem L2 Evl
abbrev Kvs := List (List PyData × PyData)
section
variable {K : Fg} {M : Hp}
end
section
variable {K : Fg} {cs : Cs} {W : WX} {G G' G1 G2 : Gam} {ta tb tc te : TE} {t u : TT} {φ : PyData → Prop} {ε : Xw → Prop} {ψ : Bool → Prop} {α : List PyData → Prop} {ι : List PyData → Prop} {χ : Own → Prop} {Φ : Out → Prop} {tu : TS}
variable {Wd : Addr → Prop} {B : Option (Addr × Addr)} {ad : Nat → Addr} {H0 H H1 H2 : Hp} {σ : L2.St} {w : World} {ep : Nat} {kvs : Kvs} {i : Nat}
/-! ### sorted -/
end
/-! ### a dict by a comprehension -/
section
variable {K : Fg} {cs : Cs} {W : WX} {G : Gam} {tk tv : TE} {ε : Xw → Prop} {χ : Own → Prop} {wi : TI} {g : TG} {tt : TT} {vs : List Nat} {w : World}
end
end U.N

end
section
/-! The order of spots; dicts by keys of a type. -/
namespace U
open PySem PyProof.Rows L2 Evl
abbrev Spot := List Fr
/-! ### dicts by typed keys -/
namespace N
section
variable {κ β : Type} [DecidableEq κ] {ek : κ → List PyData} {ev : β → PyData}
end
end N
end U

end
section
/-! x in a list or a tuple of data of any depth. -/
namespace U
open PySem PySem.Spec PyProof.Rows L2 Evl
section
variable {X : Cx}
end
end U

end
section
/-! Keys that are whole numbers; sorted rows of whole numbers; forms for the walking tactic. -/
namespace U.N
open PySem L2 Evl
/-! ### rows of whole numbers, sorted -/
/-! ### forms for the tactic -/
section
variable {K : Fg} {cs : Cs} {W : WX} {G : Gam} {ta tb : TE} {φ : PyData → Prop} {ε : Xw → Prop} {w : World} {ep : Nat} {kvs : Kvs} {i : Nat}
end
end U.N

end
section
/-! The common number divides every common multiple. -/
namespace U
open PySem PyProof.Rows L2 Evl
/-- numbers of a bits, the numbers below with a common multiple of N bits -/
structure CbB (a N : Nat) (ss : List Spot) : Prop where
  gd : ∀ s ∈ ss, Gds a s
  cm : ∃ c0 : Int, 0 < c0 ∧ (∀ s ∈ ss, ∀ f ∈ s, f.2 ∣ c0) ∧ Bd N c0
end U

end
section
/-! Corners round: plain geometry over the rationals. -/
namespace U.Hull
structure Pt where
  x : Rat
  y : Rat
deriving DecidableEq
def sub (a b : Pt) : Pt := ⟨a.x - b.x, a.y - b.y⟩
/-- the area by which two steps span -/
def cr (u v : Pt) : Rat := u.x * v.y - u.y * v.x
/-- > 0: c lies to the left of a → b -/
def tn (a b c : Pt) : Rat := cr (sub b a) (sub c a)
/-! ### one side -/
/-! ### edges -/
end U.Hull

end
section
namespace U.Hull
/-- q lies between h and r -/
def Btw (h r q : Pt) : Prop := (q.x - h.x) * (q.x - r.x) ≤ 0 ∧ (q.y - h.y) * (q.y - r.y) ≤ 0 ∧ tn h r q = 0
/-- q follows h round the spots P -/
def Nx (P : List Pt) (h q : Pt) : Prop := q ∈ P ∧ q ≠ h ∧ (∀ r ∈ P, 0 ≤ tn h q r) ∧ ∀ r ∈ P, r ≠ q → ¬ Btw h r q
end U.Hull

end
section
namespace U.Hull
end U.Hull

end
section
/-! Corners round, of spots. -/
namespace U.Hull
open U
def pt : Spot → Pt
  | [a, b] => ⟨val a, val b⟩
  | [a] => ⟨val a, 0⟩
  | _ => ⟨0, 0⟩
end U.Hull

end
section
/-! The body of spots in order. -/
namespace U.Hull
open U
/-! ### on a line -/
end U.Hull

end
section
/-! enumerate of a list or a tuple. -/
namespace U
open PySem PySem.W PyProof.Rows L2 Evl
section
variable {prog : Program} {w : World} {A : Around} {E : Value → Shared → Prop} {s : Shared}
end
end U

end
section
/-! list comprehensions of two and three clauses. -/
namespace U
open PySem PySem.Spec PyProof.Rows L2
/-- what a clause's rest does to the list at D -/
abbrev TCl := Addr → St → Hp → (Hp → Prop) → Prop
section
variable {X : Cx} {own : List Nat} {D : Addr}
end
section
variable {X : Cx}
end
/-! ### the clauses' own loops -/
section
variable {prog : Program} {w : World} {A : Around} {env : Env} {D : Addr} {c elt t0 i0 i1 : Expr} {i : Nat} {ifs0 : List Expr}
end
section
variable {elt t0 i0 t1 i1 t2 i2 : Expr} {ifs0 ifs1 ifs2 : List Expr} {scope : Scope} {pos : Pos}
variable {prog : Program} {w : World} {A : Around} {env : Env} {D : Addr}
end
/-! ### the rules for use -/
section
variable {X : Cx} {elt tg iter tg1 iter1 tg2 iter2 : Expr} {ifs ifs1 ifs2 : List Expr} {scope : Scope} {own : List (Str × Nat)} {pos : Pos} {wi wi1 wi2 : TI} {g g1 g2 : TG} {tt tt1 tt2 : TT} {te : TE} {vs1 vs2 : List Nat}
end
end U

end
section
namespace U.N
open PySem PyProof.Rows L2 Evl
section
variable {K : Fg} {cs : Cs} {W : WX} {G G' : Gam} {ta te : TE} {φ : PyData → Prop} {ε : Xw → Prop} {ι : List PyData → Prop} {χ : Own → Prop} {Φ : Out → Prop}
variable {Wd : Addr → Prop} {B : Option (Addr × Addr)} {ad : Nat → Addr} {H0 H H1 H2 : Hp} {σ : L2.St}
/-! ### enumerate -/
/-! ### many clauses -/
/-! the turns' items by a map -/
section
variable {β : Type} {xs : List β} {f : β → PyData} {g : TG} {tt : TT} {tc : TCl} {vs : List Nat} {m : Nat} {ρ : List PyData → Prop}
end
end
end U.N

end
section
/-! Land by sides and by threes. -/
namespace U.Hull
open U
end U.Hull

end
section
/-! A list of one's own is lent to a test or a call that only reads it. -/
namespace U.N
open PySem PyProof.Rows L2 Evl
section
variable {K : Fg} {cs : Cs} {W : WX} {G : Gam} {te : TE} {t : TT} {φ : PyData → Prop} {ψ : Bool → Prop} {ε : Xw → Prop} {i : Nat} {xs : List PyData}
variable {Wd : Addr → Prop} {B : Option (Addr × Addr)} {ad : Nat → Addr} {H0 H H2 : Hp} {σ : L2.St}
end
end U.N

end
section
/-! first, *rest = a list or a tuple. -/
namespace U
open PySem PySem.W PyProof.Rows L2 Evl
section
variable {prog : Program} {w : World} {A : Around} {E : Value → Shared → Prop} {s : Shared}
end
/-! ### a call with keywords that may raise -/
section
variable {X : Cx} {CX : CXT} {k n : Nat} {f : Addr} {fd : FuncData} {ps ks : List Str} {sp : Sp} {E : St → XK} {x : Str} {p pos : Pos} {e : Expr} {es : List Expr} {kws : List Keyword} {t tk : TA} {g : List Value → List Value → List Value} {gV : List V → List V → List V}
end
end U

end
section
namespace U.N
open PySem PyProof.Rows L2 Evl
section
variable {K : Fg} {cs : Cs} {W : WX} {G G' : Gam} {ta tb te : TE} {φ : PyData → Prop} {ε : Xw → Prop} {χ : Own → Prop} {Φ : Out → Prop} {γ : Gam → Prop} {P : Pr}
variable {Wd : Addr → Prop} {B : Option (Addr × Addr)} {ad : Nat → Addr} {H0 H H1 H2 : Hp} {σ : L2.St}
/-! ### first, *rest = xs -/
/-! ### calls with keywords that may raise -/
/-! ### xs.index(y) -/
end
/-! ### keys that are bodies -/
end U.N

end
section
/-! What lies between the corners of a body. -/
namespace U.Hull
open U
/-! ### on a line -/
/-! ### bodies of more spots -/
/-! ### every spot lies in its body -/
end U.Hull

end
section
namespace U
open PySem PyProof.Rows L2 Evl
section
variable {X : Cx}
end
end U

end
section
namespace U.N
open PySem PyProof.Rows L2 Evl
section
variable {K : Fg} {cs : Cs} {W : WX} {G : Gam} {φ : PyData → Prop} {ε : Xw → Prop}
/-! ### max and min of a list of whole numbers -/
end
end U.N

end
section
/-! isinstance of a caught exception of an own class that has a dict. -/
namespace U
open PySem PyProof.Rows L2 Evl
end U

end
section
namespace U.N
open PySem PyProof.Rows L2 Evl
section
variable {K : Fg} {cs : Cs} {W : WX} {G : Gam} {φ : PyData → Prop} {ε : Xw → Prop}
end
end U.N

end
section
namespace U
open PySem PyProof.Rows L2 Evl
section
variable {X : Cx}
end
end U

end
section
namespace U.N
open PySem PyProof.Rows L2 Evl
section
variable {K : Fg} {cs : Cs} {W : WX} {G : Gam} {Φ : Out → Prop}
end
end U.N

end
section
namespace U
open PySem PyProof.Rows L2 Evl
section
variable {X : Cx} {pos : Pos}
end
end U

end
section
namespace U.N
open PySem PyProof.Rows L2 Evl
section
variable {K : Fg} {cs : Cs} {W : WX} {G : Gam} {γ : Gam → Prop}
end
end U.N

end
namespace U.N
open PySem PyProof.Rows L2 Evl
local macro_rules | `(tactic| walk_at "sd") => `(tactic| first | with_reducible assumption | omega | rfl | decide | assumption | exact Gd.mono (by assumption) (by first | decide | omega) | (simp only [List.length_map, List.length_append, List.length_cons, List.length_nil]; omega) | (simp; done))
local macro_rules | `(tactic| walk_at "ca") => `(tactic| first
  | ((with_reducible apply c_pull); (case h0 => walk_at "sd"); (case h1 => walk_at "sd"); intro _ _ _)
  | ((with_reducible apply c_part); intro _ _)
  | ((with_reducible apply c_far); intro _ _)
  | ((with_reducible apply c_farPart); intro _ _)
  | ((with_reducible apply c_wholePart); intro _ _)
  | ((with_reducible apply c_entry); intro _ _)
  | ((with_reducible apply c_plus); (case hp => walk_at "sd"); (case hq => walk_at "sd"); (case hl => walk_at "sd"); intro _)
  | ((with_reducible apply c_minus); (case hp => walk_at "sd"); (case hq => walk_at "sd"); (case hl => walk_at "sd"); intro _)
  | ((with_reducible apply c_times); (case hp => walk_at "sd"); (case hq => walk_at "sd"); (case hl => walk_at "sd"); intro _)
  | ((with_reducible apply c_ladd); (case hp => walk_at "sd"); (case hq => walk_at "sd"); (case hl => walk_at "sd"); intro _)
  | ((with_reducible apply c_lsub); (case hp => walk_at "sd"); (case hq => walk_at "sd"); (case hl => walk_at "sd"); intro _)
  | ((with_reducible apply c_lmul); (case hp => walk_at "sd"); (case hq => walk_at "sd"); (case hl => walk_at "sd"); intro _)
  | ((with_reducible apply c_order); (case hp => walk_at "sd"); (case hq => walk_at "sd"); (case hl => walk_at "sd"))
  | ((with_reducible apply c_cmp); (case hp => walk_at "sd"); (case hq => walk_at "sd"); (case hl => walk_at "sd"))
  | ((with_reducible apply c_map); (case h1 => walk_at "sd"); (case h2 => walk_at "sd"); (case l1 => walk_at "sd"); (case l2 => walk_at "sd"); intro _ _)
  | ((with_reducible apply c_spot); (case h0 => walk_at "sd"); (case hl => walk_at "sd"); intro _ _ _)
  | ((with_reducible apply c_over); (case hp => walk_at "sd"); (case hq => walk_at "sd"); (case hl => walk_at "sd"); (case hne => walk_at "sd"); intro _))
local macro_rules | `(tactic| walk_at "s1") => `(tactic| first
  | ((with_reducible apply x_all); (case h => exact allB_map))
  | ((with_reducible apply x_any); (case h => exact anyB_map))
  | ((with_reducible apply x_sum); (case h => exact sumI_map))
  | ((with_reducible apply ew_glob); (case h => assumption))
  | ((with_reducible apply sw_app); (case hi => rfl); (case hl => walk_at "sd"))
  | ((with_reducible apply cw_elt); (case hm => walk_at "sd"))
  | ((with_reducible apply sw_clear); (case hi => rfl))
  | ((with_reducible apply x1_rng); (case hb => walk_at "sd"))
  | ((with_reducible apply x2_rng); (case hb => walk_at "sd"); (case hc => walk_at "sd"))
  | ((with_reducible apply ew_var); (case h => rfl))
  | ((with_reducible apply ew_ixO); (case hi => rfl))
  | ((with_reducible apply ew_lenO); (case hi => rfl))
  | ((with_reducible apply ew_tupO); (case hi => rfl))
  | ((with_reducible apply ew_listO); (case hi => rfl))
  | ((with_reducible apply ew_callB); (case hi => rfl))
  | ((with_reducible apply ew_callWB); (case hi => rfl))
  | ((with_reducible apply at0); (case h => rfl))
  | ((with_reducible apply at1); (case h => rfl))
  | ((with_reducible apply at2); (case h => rfl))
  | ((with_reducible apply xi_it); (case h => rfl))
  | ((with_reducible apply x1_it); (case h => rfl))
  | ((with_reducible apply ew_dxO); (case hi => rfl))
  | ((with_reducible apply ew_dxF); (case hi => rfl))
  | ((with_reducible apply ew_dgetO); (case hi => rfl))
  | ((with_reducible apply ew_dgetF); (case hi => rfl))
  | ((with_reducible apply iw_dct); (case hi => rfl))
  | ((with_reducible apply ew_inSO); (case hi => rfl))
  | ((with_reducible apply ew_indexO); (case hi => rfl))
  | with_reducible refine ew_int ?_
  | with_reducible refine ew_bl ?_
  | with_reducible refine ew_str ?_
  | with_reducible refine ew_non ?_
  | with_reducible refine ew_tup0 ?_
  | with_reducible refine ew_tup1 ?_
  | with_reducible refine ew_tup2 ?_
  | with_reducible refine ew_tup3 ?_
  | with_reducible refine ew_tup4 ?_
  | with_reducible refine ew_tup ?_
  | with_reducible refine ew_lst0 ?_
  | with_reducible refine ew_lst1 ?_
  | with_reducible refine ew_lst2 ?_
  | with_reducible refine ew_lst3 ?_
  | with_reducible refine ew_lst ?_
  | with_reducible refine ew_add ?_
  | with_reducible refine ew_sub ?_
  | with_reducible refine ew_mul ?_
  | with_reducible refine ew_div ?_
  | with_reducible refine ew_mod ?_
  | with_reducible refine ew_pow ?_
  | with_reducible refine ew_lt ?_
  | with_reducible refine ew_le ?_
  | with_reducible refine ew_gt ?_
  | with_reducible refine ew_ge ?_
  | with_reducible refine ew_neg ?_
  | with_reducible refine ew_eq ?_
  | with_reducible refine ew_ne ?_
  | with_reducible refine ew_eqD ?_
  | with_reducible refine ew_neD ?_
  | with_reducible refine ew_subB ?_
  | with_reducible refine ew_isNo ?_
  | with_reducible refine ew_noNo ?_
  | with_reducible refine ew_isBl ?_
  | with_reducible refine ew_notBl ?_
  | with_reducible refine ew_leLe ?_
  | with_reducible refine tw_test ?_
  | with_reducible refine tw_B ?_
  | with_reducible refine tw_yes ?_
  | with_reducible refine tw_not ?_
  | with_reducible refine tw_and ?_
  | with_reducible refine tw_or ?_
  | with_reducible refine ew_andV ?_
  | with_reducible refine ew_orV ?_
  | with_reducible refine ew_notV ?_
  | with_reducible refine ew_if ?_
  | with_reducible refine aw_nil ?_
  | with_reducible refine aw_cons ?_
  | with_reducible refine ew_cP ?_
  | with_reducible refine ew_cX ?_
  | with_reducible refine ew_c0 ?_
  | with_reducible refine ew_cW ?_
  | with_reducible refine ew_abs ?_
  | with_reducible refine ew_max ?_
  | with_reducible refine ew_min ?_
  | with_reducible refine ew_intB ?_
  | with_reducible refine ew_len ?_
  | with_reducible refine ew_list ?_
  | with_reducible refine ew_tuple ?_
  | with_reducible refine ew_all ?_
  | with_reducible refine ew_any ?_
  | with_reducible refine ew_sum ?_
  | with_reducible refine ew_isi ?_
  | with_reducible refine ew_isi2 ?_
  | with_reducible refine ow_none ?_
  | with_reducible refine ow_some ?_
  | with_reducible refine ew_slL ?_
  | with_reducible refine ew_slA ?_
  | with_reducible refine ew_catL ?_
  | with_reducible refine ew_catA ?_
  | with_reducible refine ew_inI ?_
  | with_reducible refine ew_lc ?_
  | with_reducible refine ew_lcN ?_
  | with_reducible refine cw_clause ?_
  | with_reducible refine ew_revL ?_
  | with_reducible refine ew_srt ?_
  | with_reducible refine ew_inS ?_
  | with_reducible refine ew_maxL ?_
  | with_reducible refine ew_minL ?_
  | with_reducible refine iw_list ?_
  | with_reducible refine iw_tup ?_
  | with_reducible refine iw_seq ?_
  | with_reducible refine iw_rng1 ?_
  | with_reducible refine iw_rng2 ?_
  | with_reducible refine iw_zipM ?_
  | with_reducible refine iw_enum ?_
  | with_reducible refine sq_nx ?_
  | with_reducible refine sq_rt ?_
  | with_reducible refine sq_rl ?_
  | with_reducible refine sq_bk ?_
  | with_reducible refine sq_ct ?_
  | with_reducible refine sq_ex ?_
  | with_reducible refine lp_nx ?_
  | with_reducible refine lp_ct ?_
  | with_reducible refine lp_bk ?_
  | with_reducible refine lp_rt ?_
  | with_reducible refine lp_ex ?_
  | with_reducible refine sw_next ?_
  | with_reducible refine sw_brk ?_
  | with_reducible refine sw_cont ?_
  | with_reducible refine sw_if ?_
  | with_reducible refine sw_par ?_
  | with_reducible refine sw_ret ?_
  | with_reducible refine sw_retN ?_
  | with_reducible refine sw_dropC ?_
  | with_reducible refine sw_dropX ?_
  | with_reducible refine sw_for ?_
  | with_reducible refine sw_try ?_
  | with_reducible refine gsc_nil ?_
  | with_reducible refine gsc_cons ?_
  | with_reducible refine gsw_nil ?_
  | with_reducible refine gsw_cons ?_
  | with_reducible refine rE_ok ?_
  | with_reducible refine rE_fl ?_
  | with_reducible refine rE_er ?_
  | with_reducible refine rF_fl ?_
  | with_reducible refine atm1 ?_
  | with_reducible refine xi_int ?_
  | with_reducible refine xi_bool ?_
  | with_reducible refine xi_str ?_
  | with_reducible refine xi_tup ?_
  | with_reducible refine xi_list ?_
  | with_reducible refine xi_itL ?_
  | with_reducible refine xi_itT ?_
  | with_reducible refine x1_int ?_
  | with_reducible refine x1_bool ?_
  | with_reducible refine x2_int ?_
  | with_reducible refine x2_any ?_
  | with_reducible refine x1_itL ?_
  | with_reducible refine x1_itT ?_
  | with_reducible refine sc_int ?_
  | with_reducible refine sc_str ?_
  | with_reducible refine sc_bool ?_
  | with_reducible refine x_ol ?_
  | with_reducible refine atm1M ?_
  | with_reducible refine x_nx ?_
  | with_reducible refine ew_ix ?_
  | with_reducible refine ew_callNW ?_
  | with_reducible refine ew_callN ?_
  | with_reducible refine ew_callN0 ?_
  | with_reducible refine gw_name ?_
  | ((with_reducible refine gc_name ?wa ?_); (case wa => simp))
  | ((with_reducible refine gc_tup ?wa ?_); (case wa => rfl))
  | ((with_reducible refine gw_tup ?wa ?_); (case wa => rfl))
  | with_reducible refine cnd_t ?_
  | with_reducible refine cnd_f ?_
  | with_reducible refine cnd_nt ?_
  | with_reducible refine cnd_nf ?_
  | walk_at "ca"
  | ((with_reducible apply zip_f); (case hx => rfl); (case hy => rfl))
  | ((with_reducible apply zip_t); (case hx => rfl); (case hy => rfl); (case hl => walk_at "sd"))
  | with_reducible refine sw_asg ?_
  | ((with_reducible apply sw_dset); (case hi => rfl))
  | ((with_reducible apply sw_setI); (case hi => rfl))
  | with_reducible refine sw_asgT ?_
  | refine gsw_cons ?_
  | refine gsc_cons ?_
  | refine gsw_nil ?_
  | refine gsc_nil ?_
  | with_reducible exact trivial)
local macro_rules | `(tactic| walk_at "w1") => `(tactic| first | walk_at "s1" | with_reducible refine sw_seqA ?_ | with_reducible refine sw_seqD ?_ | with_reducible refine sw_seqF ?_ | with_reducible refine sw_seqP ?_ | with_reducible refine sw_seqG ?_ | with_reducible refine sw_seqW ?_)
local macro_rules | `(tactic| walk_at "s") => `(tactic| repeat walk_at "s1")
local macro_rules | `(tactic| walk_at "ef") => `(tactic| first
  | with_reducible refine ef_lst0 ?_
  | with_reducible refine ef_lst1 ?_
  | with_reducible refine ef_lst2 ?_
  | with_reducible refine ef_lst3 ?_
  | with_reducible refine ef_lst ?_
  | with_reducible refine ef_lc ?_
  | with_reducible refine ef_lcN ?_
  | with_reducible refine ef_list ?_
  | with_reducible refine ef_slL ?_
  | with_reducible refine ef_catL ?_
  | with_reducible refine ef_c0 ?_
  | with_reducible refine ef_cW ?_
  | with_reducible refine ef_if ?_
  | with_reducible refine ef_dct0 ?_
  | with_reducible refine ef_dc ?_
  | with_reducible refine ef_srt ?_
  | with_reducible refine ef_revL ?_)
local macro_rules | `(tactic| walk_at "wi") => `(tactic| repeat (first | walk_at "w1" | with_reducible refine sw_seq ?_))
local macro_rules | `(tactic| walk_at "w") => `(tactic| repeat walk_at "w1")
section
open PySem PyProof.Rows L2 Evl

section
variable {K : Fg} {cs : Cs} {gs : Gs} {φ : PyData → Prop} {A : Rs → Prop} {ε : Xw → Prop} {w : World}
/-! ### spots in order -/
-- slots of common_below: 0 spots, 1 found, 2 spot, 3 above, 4 below
-- slots of whole_row: 0 spot, 1 common, 2 above, 3 below
-- slots of rising: 0 spots, 1 common, 2 by_worth, 3 spot, 4 key
/-! what a dict by a comprehension holds -/
section
variable {κ β γ : Type} [DecidableEq κ]
end
end


end
section
open PySem PyProof.Rows L2 Evl

section
variable {K : Fg} {cs : Cs} {gs : Gs} {φ : PyData → Prop} {A : Rs → Prop} {ε : Xw → Prop} {w : World}
/-! ### the law's own order -/
-- slots of _law_below: 0 _law_spots_here, 1 _law_found, 2 _law_spot_here, 3 _law_one
-- slots of _law_key: 0 _law_spots_here, 1 _law_below_here, 2 _law_found, 3 _law_spot_here, 4 _law_one
-- slots of _law_rising: 0 _law_spots_here, 1 _law_below_here, 2 _law_keys, 3 _law_found, 4 _law_key_here, 5 _law_spot_here, 6 _law_one
end


end
section
open PySem PyProof.Rows L2 Evl U.Hull

section
variable {K : Fg} {cs : Cs} {gs : Gs} {φ : PyData → Prop} {A : Rs → Prop} {ε : Xw → Prop} {w : World}
/-! ### corners round -/
-- slots of hull_side: 0 spots, 1 found, 2 spot
end


end
section
open PySem PyProof.Rows L2 Evl U.Hull

section
variable {K : Fg} {cs : Cs} {gs : Gs} {φ : PyData → Prop} {A : Rs → Prop} {ε : Xw → Prop} {w : World}
/-- spots of one room, of bounded numbers and bounded many -/
structure SpR (a r : Nat) (ss : List Spot) : Prop where
  hr : r = 1 ∨ r = 2
  gd : ∀ s ∈ ss, Gds a s ∧ s.length = r
  ne : ss ≠ []
  ha : a ≤ 900
  hl : ss.length ≤ 10000
  hb : ∃ N, N ≤ 6900 ∧ CbB a N ss
-- slots of corners_round: 0 spots, 1 row, 2 below, 3 above
end


end
section
open PySem PyProof.Rows L2 Evl U.Hull

section
variable {K : Fg} {cs : Cs} {gs : Gs} {φ : PyData → Prop} {A : Rs → Prop} {ε : Xw → Prop} {w : World}
/-! ### the law's own body -/
instance (h r q : Pt) : Decidable (Btw h r q) := by unfold Btw; exact inferInstance
-- slots of _law_between: 0 _law_one, 1 _law_two, 2 _law_spot_here, 3 _law_at
/-! what follows a corner -/
instance (P : List Pt) (h q : Pt) : Decidable (Nx P h q) := by unfold Nx; exact inferInstance
-- slots of _law_next: 0 _law_row, 1 _law_here, 2 _law_spot_here, 3 _law_one
end


end
section
open PySem PyProof.Rows L2 Evl U.Hull

section
variable {K : Fg} {cs : Cs} {gs : Gs} {φ : PyData → Prop} {A : Rs → Prop} {ε : Xw → Prop} {w : World}
-- slots of _law_body: 0 _law_spots_here, 1 _law_row, 2 _law_found, 3 _law_step, 4 _law_spot_here
end


end
section
open PySem PyProof.Rows L2 Evl U.Hull

section
variable {K : Fg} {cs : Cs} {gs : Gs} {φ : PyData → Prop} {A : Rs → Prop} {ε : Xw → Prop} {w : World}
/-! ### drawn rooms and spots -/
-- slots of _law_room: 0 _law_bag_here
/-- spots of a room -/
def Sps (a r : Nat) (ss : List Spot) : Prop := ∀ s ∈ ss, Gds a s ∧ s.length = r
-- slots of _law_spots: 0 _law_bag_here, 1 _law_rank, 2 _law_limit, 3 _law_many, 4 _law_found, 5 _law_kind, 6 _law_one, 7 _law_two, 8 _law_at
-- slots of _law_wide_spots: 0 _law_bag_here, 1 _law_rank, 2 _law_limit, 3 _law_found, 4 _law_k, 5 _law_at
end


end
section
open PySem PyProof.Rows L2 Evl U.Hull

section
variable {K : Fg} {cs : Cs} {gs : Gs} {φ : PyData → Prop} {A : Rs → Prop} {ε : Xw → Prop} {w : World}
/-! ### sides, land -/
-- slots of sides_of: 0 body, 1 at, 2 corner
-- slots of size_of: 0 body
-- slots of land_of: 0 body, 1 found, 2 x, 3 y, 4 right, 5 up
end


end
section
open PySem PyProof.Rows L2 Evl U.Hull

section
variable {K : Fg} {cs : Cs} {gs : Gs} {φ : PyData → Prop} {A : Rs → Prop} {ε : Xw → Prop} {w : World}
-- slots of _law_three_land: 0 _law_one, 1 _law_two, 2 _law_three, 3 _law_first, 4 _law_second, 5 _law_third
/-! what is needed of bodies -/
end


end
section
open PySem PyProof.Rows L2 Evl U.Hull

section
variable {K : Fg} {cs : Cs} {gs : Gs} {φ : PyData → Prop} {A : Rs → Prop} {ε : Xw → Prop} {w : World}
/-! ### bodies in order, faces -/
abbrev Body := List Spot
-- slots of in_order: 0 bodies, 1 common, 2 by_worth, 3 body, 4 key, 5 corner, 6 number
end


end
section
open PySem PyProof.Rows L2 Evl U.Hull

section
variable {K : Fg} {cs : Cs} {gs : Gs} {φ : PyData → Prop} {A : Rs → Prop} {ε : Xw → Prop} {w : World}
/-! ### == of data by a type -/
/-! ### keys with places, sorted -/
/-! ### the law's own order of bodies -/
def bits (a : Nat) (bs : List Body) : Nat := (bs.map fun b => 1 + b.length * (2 * a)).sum
-- slots of _law_in_order: 0 _law_bodies, 1 _law_limit, 2 _law_body_here, 3 _law_keys, 4 _law_found, 5 _law_key_here, 6 _law_at
end


end
section
open PySem PyProof.Rows L2 Evl U.Hull

section
variable {K : Fg} {cs : Cs} {gs : Gs} {φ : PyData → Prop} {A : Rs → Prop} {ε : Xw → Prop} {w : World}
/-! ### faces -/
-- slots of faces: 0 body, 1 found, 2 corner, 3 side
end


end
section
open PySem PyProof.Rows L2 Evl U.Hull

section
variable {K : Fg} {cs : Cs} {gs : Gs} {φ : PyData → Prop} {A : Rs → Prop} {ε : Xw → Prop} {w : World} {W : WX}
/-! ### the body of some spots -/
-- slots of body_of: 0 spots, 1 room, 2 first, 3 rest, 4 spot
/-! ### lots -/
-- slots of is_small: 0 number, 1 limit
-- slots of bounded: 0 lot, 1 weight, 2 body, 3 corner, 4 one, 5 number
end


end
section
open PySem PyProof.Rows L2 Evl U.Hull

section
variable {K : Fg} {cs : Cs} {gs : Gs} {φ : PyData → Prop} {A : Rs → Prop} {ε : Xw → Prop} {w : World} {W : WX}
/-! ### weights gathered -/
-- slots of gathered: 0 rows, 1 room, 2 weights, 3 left, 4 weight, 5 body
end


end
section
open PySem PyProof.Rows L2 Evl U.Hull

section
variable {K : Fg} {cs : Cs} {gs : Gs} {φ : PyData → Prop} {A : Rs → Prop} {ε : Xw → Prop} {w : World} {W : WX}
-- slots of settled_lot: 0 rows, 1 room
/-! ### lots of rows of spots -/
/-- a row: its weight, its spots, told as a list or a tuple -/
structure RowS where
  w : Int
  t : Bool
  ss : List Spot
-- slots of lot_of: 0 rows, 1 room, 2 found, 3 row, 4 body
end


end
section
open PySem PyProof.Rows L2 Evl U.Hull

section
variable {K : Fg} {cs : Cs} {gs : Gs} {φ : PyData → Prop} {A : Rs → Prop} {ε : Xw → Prop} {w : World} {W : WX}
/-! ### the law's own lot -/
-- slots of _law_lot: 0 _law_rows_here, 1 _law_rank, 2 _law_bodies, 3 _law_weights, 4 _law_corners, 5 _law_body_here, 6 _law_below_here, 7 _law_keys, 8 _law_ranked, 9 _law_weight, 10 _law_spots_here, 11 _law_at, 12 _law_key_here
theorem ixN_nat {n j : Nat} (h : j < n) : ixN n (j : Int) = some j := by
  unfold ixN
  rw [if_pos (by omega), if_pos (by omega), Int.toNat_natCast]
end


end
section
open PySem PyProof.Rows L2 Evl U.Hull

section
variable {K : Fg} {cs : Cs} {gs : Gs} {φ : PyData → Prop} {A : Rs → Prop} {ε : Xw → Prop} {w : World} {W : WX}
/-! ### drawn rows -/
structure DrR (a r C : Nat) (rs : List RowS) : Prop where
  wl : ∀ p ∈ rs, -7 ≤ p.w ∧ p.w ≤ 7
  tf : ∀ p ∈ rs, p.t = false
  sp : ∀ p ∈ rs, Sps a r p.ss ∧ 1 ≤ p.ss.length ∧ p.ss.length ≤ C
-- slots of _law_rows: 0 _law_bag_here, 1 _law_rank, 2 _law_limit, 3 _law_corners, 4 _law_found, 5 _law_at, 6 _law_weight, 7 _law_row
end


end
section
open PySem PyProof.Rows L2 Evl U.Hull

section
variable {K : Fg} {cs : Cs} {gs : Gs} {φ : PyData → Prop} {A : Rs → Prop} {ε : Xw → Prop} {w : World} {W : WX}
/-! ### lots in plain -/
/-! ### two lots -/
-- slots of same_room: 0 one, 1 other
-- slots of added: 0 one, 1 other
-- slots of scaled: 0 lot, 1 number, 2 weight, 3 body
-- slots of told23: 0 _law_one, 1 _law_other, 2 why
/-! ### drawn lots -/
end


end
section
open PySem PyProof.Rows L2 Evl U.Hull

section
variable {K : Fg} {cs : Cs} {gs : Gs} {φ : PyData → Prop} {A : Rs → Prop} {ε : Xw → Prop} {w : World} {W : WX}
/-! ### what a lot sums to -/
-- slots of tally: 0 lot, 1 weight, 2 body
-- slots of land: 0 lot, 1 found, 2 weight, 3 body
-- slots of _law_size: 0 _law_spots_here, 1 _law_body_here, 2 _law_total, 3 _law_at
end


end
section
open PySem PyProof.Rows L2 Evl U.Hull

section
variable {K : Fg} {cs : Cs} {gs : Gs} {φ : PyData → Prop} {A : Rs → Prop} {ε : Xw → Prop} {w : World} {W : WX}
/-! ### lots turned -/
-- slots of faced: 0 rows, 1 found, 2 weight, 3 body, 4 face
-- slots of turned: 0 lot
end


end
section
open U.Hull
/-! ### faces of faces -/
def atS (b : Body) (i : Nat) : Spot := (b[i]?).getD []
theorem at_inj {b : Body} (nd : b.Nodup) {i j : Nat} (hi : i < b.length) (hj : j < b.length) (e : atS b i = atS b j) : i = j := by
  unfold atS at e
  rw [List.getElem?_eq_getElem hi, List.getElem?_eq_getElem hj] at e
  have e : b[i] = b[j] := by simpa using e
  rcases Nat.lt_trichotomy i j with h | h | h
  · exact absurd e (List.pairwise_iff_getElem.mp nd i j hi hj h)
  · exact h
  · exact absurd e.symm (List.pairwise_iff_getElem.mp nd j i hj hi h)
theorem nx_lt {n i : Nat} (h : i < n) : (i + 1) % n < n := Nat.mod_lt _ (by omega)
theorem nx_cases {n i : Nat} (h : i < n) : (i + 1 < n ∧ (i + 1) % n = i + 1) ∨ (i + 1 = n ∧ (i + 1) % n = 0) := by
  by_cases e : i + 1 < n
  · exact .inl ⟨e, Nat.mod_eq_of_lt e⟩
  · have : i + 1 = n := by omega
    exact .inr ⟨this, by rw [this, Nat.mod_self]⟩
theorem at_ne {b : Body} (nd : b.Nodup) (h : 3 ≤ b.length) {i : Nat} (hi : i < b.length) : atS b i ≠ atS b ((i + 1) % b.length) := fun e => by
  have := at_inj nd hi (nx_lt hi) e
  rcases nx_cases hi with ⟨h1, h2⟩ | ⟨h1, h2⟩ <;> omega
end
section
open PySem PyProof.Rows L2 Evl U.Hull

section
variable {K : Fg} {cs : Cs} {gs : Gs} {φ : PyData → Prop} {A : Rs → Prop} {ε : Xw → Prop} {w : World} {W : WX}
/-! ### lots turned: calls -/
end


end
section
open U.Hull
/-! ### what a body holds, in plain -/
/-! ### the law's own way -/
def T3 (p q u s : Pt) : Prop := tn p q u ≠ 0 ∧ ((0 ≤ tn p q s ∧ 0 ≤ tn q u s ∧ 0 ≤ tn u p s) ∨ (tn p q s ≤ 0 ∧ tn q u s ≤ 0 ∧ tn u p s ≤ 0))
instance (p q u s : Pt) : Decidable (T3 p q u s) := by unfold T3; exact inferInstance
end
section
open PySem PyProof.Rows L2 Evl U.Hull

section
variable {K : Fg} {cs : Cs} {gs : Gs} {φ : PyData → Prop} {A : Rs → Prop} {ε : Xw → Prop} {w : World} {W : WX}
/-! ### what a body holds -/
noncomputable def tf (p : Prop) : Bool := @decide p (Classical.propDecidable p)
-- slots of spot_order: 0 one, 1 other, 2 first, 3 second, 4 found
-- slots of between: 0 spot, 1 low, 2 high
-- slots of holds: 0 body, 1 spot, 2 rim, 3 least, 4 start, 5 end
end


end
section
open PySem PyProof.Rows L2 Evl U.Hull

section
variable {K : Fg} {cs : Cs} {gs : Gs} {φ : PyData → Prop} {A : Rs → Prop} {ε : Xw → Prop} {w : World} {W : WX}
/-! ### the law's own way of telling what is within -/
-- slots of _law_in_three: 0 _law_one, 1 _law_two, 2 _law_three, 3 _law_spot_here, 4 _law_sides
-- slots of _law_in: 0 _law_spots_here, 1 _law_spot_here, 2 _law_at, 3 _law_to, 4 _law_k
theorem rng_map (k : Nat) : rngD 0 k = (List.range k).map fun i : Nat => PyData.int i := by
  apply List.ext_getElem?
  intro i
  rw [List.getElem?_map]
  by_cases h : i < k
  · rw [List.getElem?_eq_getElem (by rw [rngD_len]; exact h), List.getElem?_range h]
    unfold rngD
    simp
  · rw [List.getElem?_eq_none (by rw [rngD_len]; omega), List.getElem?_eq_none (by rw [List.length_range]; omega)]
    rfl
end


end
section
open PySem PyProof.Rows L2 Evl U.Hull

section
variable {K : Fg} {cs : Cs} {gs : Gs} {φ : PyData → Prop} {A : Rs → Prop} {ε : Xw → Prop} {w : World} {W : WX}
/-! ### weights at spots -/
-- slots of weight_at: 0 lot, 1 spot, 2 weight, 3 body
-- slots of told21: 0 _law_lot, 1 _law_spot_here, 2 why
-- slots of _law_weight: 0 _law_rows_here, 1 _law_spot_here, 2 _law_weight_here, 3 _law_spots_here
/-! ### spots looked at -/
-- slots of _law_all_spots: 0 _law_rows_here, 1 _law_found, 2 _law_weight_here, 3 _law_spots_here
-- slots of _law_look: 0 _law_bag_here, 1 _law_spots_here, 2 _law_rank, 3 _law_one, 4 _law_two
-- slots of _law_some_spots: 0 _law_bag_here, 1 _law_rows_here, 2 _law_rank, 3 _law_many, 4 _law_spots_here, 5 _law_at
end


end
section
open PySem PyProof.Rows L2 Evl

section
variable {K : Fg} {cs : Cs} {gs : Gs} {φ : PyData → Prop} {A : Rs → Prop} {ε : Xw → Prop}
/-! ### maps that lead -/
def P_roomFrom : Pr := fun ds A => ∃ (r : List Fr) (m : List (List Fr)), ds = [mp (r :: m)] ∧ A (.ok (.int ((r.length : Int) - 1)))
def t_room_from (K : Fg) : TS := (tRet (tOp rSubI (tCB (rLenQ K) (tCons (tOp (rIx K) (tVar 0) (tC (V.int 0))) tNil)) (tC (V.int 1))))
-- slots of room_from: 0 way
theorem ln_room_from : ∀ ds A, P_roomFrom ds A → ds.length = 1 := fun ds A h => by obtain ⟨_, _, rfl, _⟩ := h; rfl
theorem rd_room_from {ds A} (h : P_roomFrom ds A) : SW K cs W0 (t_room_from K) (frame 1 ds) (rts0 A) := by
  obtain ⟨r, m, rfl, h⟩ := h
  unfold t_room_from
  walk_at "w"
  show A _
  rw [List.length_map]
  exact h
/-- last + steps * ps -/
def sumF : Fr → List Fr → List Fr → Fr
  | acc, s :: ss, p :: ps => sumF (addF acc (mulF s p)) ss ps
  | acc, _, _ => acc
theorem sumF_gd {a b : Nat} : ∀ {ss ps : List Fr} {n : Nat} {acc : Fr}, Gds a ss → Gds b ps → Gd n acc → Gd (n + ss.length * (a + b + 1)) (sumF acc ss ps)
  | [], _, n, acc, _, _, h => by simpa [sumF] using h
  | s :: ss, [], n, acc, _, _, h => by
    show Gd _ acc
    exact h.mono (Nat.le_add_right _ _)
  | s :: ss, p :: ps, n, acc, hs, hp, h => by
    have h1 := h.add ((hs s (List.mem_cons_self ..)).mul (hp p (List.mem_cons_self ..)))
    have h2 := sumF_gd (ss := ss) (ps := ps) (fun x hx => hs x (List.mem_cons_of_mem _ hx)) (fun x hx => hp x (List.mem_cons_of_mem _ hx)) h1
    refine h2.mono ?_
    rw [List.length_cons, Nat.succ_mul]
    omega
def foldS (acc : Fr) (ps : List (Fr × Fr)) : Fr := ps.foldl (fun t p => addF t (mulF p.1 p.2)) acc
theorem foldS_sum : ∀ (ss ps : List Fr) (acc : Fr), foldS acc (ss.zip ps) = sumF acc ss ps
  | [], _, _ => by simp [foldS, sumF]
  | s :: ss, [], _ => by simp [foldS, sumF]
  | s :: ss, p :: ps, acc => foldS_sum ss ps _
theorem foldS_gd {a b : Nat} : ∀ {ps : List (Fr × Fr)} {n : Nat} {acc : Fr}, (∀ p ∈ ps, Gd a p.1 ∧ Gd b p.2) → Gd n acc → Gd (n + ps.length * (a + b + 1)) (foldS acc ps)
  | [], n, acc, _, h => by simpa [foldS] using h
  | p :: ps, n, acc, hp, h => by
    have h0 := hp p (List.mem_cons_self ..)
    have h1 := h.add (h0.1.mul h0.2)
    have h2 := foldS_gd (ps := ps) (fun x hx => hp x (List.mem_cons_of_mem _ hx)) h1
    refine h2.mono ?_
    rw [List.length_cons, Nat.succ_mul]
    omega
theorem foldS_snoc {acc : Fr} {ps : List (Fr × Fr)} {p : Fr × Fr} : foldS acc (ps ++ [p]) = addF (foldS acc ps) (mulF p.1 p.2) := by simp [foldS]
theorem gw_starF {G : Gam} {γ : Gam → Prop} {i j : Nat} {ss : List Fr} {x : Fr} (hij : i ≠ j) (hi : i < G.length) (hl : ss.length ≤ 10000) (h : γ ((G.set i (.d (.list (ss.map fr)))).set j (.d (fr x)))) : GW K (gStar K (gCons (gName i) (gCons (gName j) gNil))) G (frs (ss ++ [x])) γ := by
  have e : frs (ss ++ [x]) = .tuple (ss.map fr ++ [fr x]) := by unfold frs; rw [List.map_append]; rfl
  rw [e]
  exact gw_starD hij hi (by rw [List.length_map]; exact hl) h
-- slots of summed: 0 row, 1 spot, 2 last, 3 step, 4 one, 5 steps
def rowF (r ps : List Fr) : Fr := sumF (r.getLastD (0, 1)) r.dropLast ps
def ledF (m : List (List Fr)) (ps : List Fr) : List Fr := m.map fun r => rowF r ps
theorem row_split {r : List Fr} {n : Nat} (h : r.length = n + 1) : ∃ ss x, r = ss ++ [x] ∧ ss.length = n := by
  have hne : r ≠ [] := by intro e; rw [e] at h; simp at h
  exact ⟨r.dropLast, r.getLast hne, (List.dropLast_concat_getLast hne).symm, by simp [h]⟩
theorem rowF_app {ss ps : List Fr} {x : Fr} : rowF (ss ++ [x]) ps = sumF x ss ps := by
  unfold rowF
  rw [List.dropLast_concat]
  simp
theorem rowF_gd {a b st : Nat} {r ps : List Fr} (hr : r.length = st + 1) (ha : Gds a r) (hb : Gds b ps) : Gd (a + st * (a + b + 1)) (rowF r ps) := by
  obtain ⟨ss, x, rfl, hl⟩ := row_split hr
  rw [rowF_app, ← hl]
  exact sumF_gd (fun p hp => ha p (by simp [hp])) hb (ha x (by simp))
abbrev xOther : Xw := xWd "OtherRoom"
-- slots of led: 0 way, 1 spot, 2 row
/-! ### the law's own -/
def P_lled : Pr := fun ds A => ∃ (a b n st : Nat) (m : List (List Fr)) (ps : List Fr), ds = [mp m, frs ps] ∧ Mp a n st m ∧ n ≤ 100 ∧ (a + st * (a + b + 1) ≤ 1900 ∧ st ≤ 100) ∧ Gds b ps ∧ ps.length = st ∧ A (.ok (frs (ledF m ps)))
def t__law_led (K : Fg) : TS := (tSeq (tAsg (tLst tNil) (gName 2))
  (tSeq (tFor (iTup K (tVar 0)) (gName 3) (tSeq (tAsg (tOp (rIx K) (tVar 3) (tUn rNegI (tC (V.int 1)))) (gName 4))
  (tSeq (tFor (iRng1 (tCons (tCB (rLenQ K) (tCons (tVar 1) tNil)) tNil)) (gName 5) (tAsg (tCall (spP K P_add) [] E0 (tCons (tVar 4) (tCons (tCall (spP K P_lmul) [] E0 (tCons (tOp (rIx K) (tVar 3) (tVar 5)) (tCons (tOp (rIx K) (tVar 1) (tVar 5)) tNil))) tNil))) (gName 4)))
  (tDrop (tBM K "list" rAppend (tVar 2) (tCons (tVar 4) tNil))))))
  (tRet (tCB (rTupQ K) (tCons (tVar 2) tNil)))))
-- slots of _law_led: 0 _law_kind, 1 _law_spot_here, 2 _law_found, 3 _law_row, 4 _law_total, 5 _law_at
theorem ln__law_led : ∀ ds A, P_lled ds A → ds.length = 2 := fun ds A h => by obtain ⟨_, _, _, _, _, _, rfl, _⟩ := h; rfl
theorem rd__law_led {ds A} (h : P_lled ds A) : SW K cs W0 (t__law_led K) (frame 6 ds) (rts0 A) := by
  obtain ⟨a, b, n, st, m, ps, rfl, M, hn2, hf, hb, hp, h⟩ := h
  unfold t__law_led
  refine sw_seq (sw_asgF ?_)
  walk_at "ef"
  walk_at "w"
  refine forP (fun pre G => ∃ e3 e4 e5, G = [.d (mp m), .d (frs ps), .ow (ol ((ledF pre ps).map fr)), e3, e4, e5]) ⟨.un, .un, .un, rfl⟩ ?_ ?_
  · rintro pre x post _ e ⟨e3, e4, e5, rfl⟩
    obtain ⟨hx1, hx2⟩ := M.row x (by rw [e]; simp)
    obtain ⟨ss, y, rfl, hl⟩ := row_split hx1
    have hpl : (List.map fr ps).length = st := by simp [hp]
    walk_at "w"
    have hn : ((List.map fr ps).length : Int).toNat = st := by simp [hp]
    have hz : ∀ i, i ≤ st → i * (a + b + 1) ≤ st * (a + b + 1) := fun i hi => Nat.mul_le_mul_right _ hi
    rw [hn]
    refine forN (fun i G => ∃ e5, G = [.d (mp m), .d (frs ps), .ow (ol ((ledF pre ps).map fr)), .d (frs (ss ++ [y])), .d (fr (foldS y ((ss.zip ps).take i))), e5]) ⟨_, rfl⟩ ?_ ?_
    · rintro i _ hi ⟨e5, rfl⟩
      have hs : ss[i]? = some ss[i] := List.getElem?_eq_getElem (by omega)
      have hs2 : (ss ++ [y])[i]? = some ss[i] := by rw [List.getElem?_append_left (by omega), hs]
      have hq : ps[i]? = some ps[i] := List.getElem?_eq_getElem (by omega)
      have g1 : Gd a ss[i] := hx2 _ (by simp)
      have g2 : Gd b ps[i] := hb _ (by simp)
      have g3 : Gd (a + ((ss.zip ps).take i).length * (a + b + 1)) (foldS y ((ss.zip ps).take i)) := foldS_gd (fun p hp => ⟨hx2 _ (by simp [(List.of_mem_zip (List.mem_of_mem_take hp)).1]), hb _ (List.of_mem_zip (List.mem_of_mem_take hp)).2⟩) (hx2 y (by simp))
      have hz1 := hz i (by omega)
      have hz2 := hz 1 (by omega)
      have hlt : ((ss.zip ps).take i).length = i := by simp; omega
      rw [hlt] at g3
      walk_at "w"
      refine atM hs2 ?_
      walk_at "w"
      refine atM hq ?_
      walk_at "w"
      have e : (ss.zip ps).take (i + 1) = (ss.zip ps).take i ++ [(ss[i], ps[i])] := by
        rw [List.take_succ, (List.getElem?_zip_eq_some (z := (ss[i], ps[i]))).mpr ⟨hs, hq⟩]
        rfl
      rw [e, foldS_snoc]
      exact ⟨_, rfl⟩
    · rintro _ ⟨e5, rfl⟩
      walk_at "w"
      refine sw_app rfl (by simp [ledF]; have := congrArg List.length e; simp at this; have := M.len; omega) ?_
      walk_at "w"
      have e2 : (ledF (pre ++ [ss ++ [y]]) ps).map fr = (ledF pre ps).map fr ++ [fr (sumF y ss ps)] := by simp [ledF, rowF_app]
      rw [e2, ← foldS_sum, List.take_of_length_le (by simp; omega)]
      exact ⟨_, _, _, rfl⟩
  · rintro _ ⟨e3, e4, e5, rfl⟩
    walk_at "w"
    exact h
theorem c_lled {a b n st : Nat} {m : List (List Fr)} {ps : List Fr} (M : Mp a n st m) (hn2 : n ≤ 100) (hf : a + st * (a + b + 1) ≤ 1900 ∧ st ≤ 100) (hb : Gds b ps) (hp : ps.length = st) (h : A (.ok (frs (ledF m ps)))) : P_lled [mp m, frs ps] A :=
  ⟨a, b, n, st, m, ps, rfl, M, hn2, hf, hb, hp, h⟩
-- slots of told16: 0 _law_map_rows, 1 _law_spot_here, 2 why
end


end
section
open PySem PyProof.Rows L2 Evl U.Hull

section
variable {K : Fg} {cs : Cs} {gs : Gs} {φ : PyData → Prop} {A : Rs → Prop} {ε : Xw → Prop} {w : World} {W : WX}
/-! ### bodies carried -/
def linR (r : List Fr) (p : Pt) : Rat := match r with
  | [k, l] => val l + val k * p.x
  | [k, j, l] => val l + val k * p.x + val j * p.y
  | _ => 0
def mapP (m : List (List Fr)) (p : Pt) : Pt := match m with
  | [r] => ⟨linR r p, 0⟩
  | [r, r'] => ⟨linR r p, linR r' p⟩
  | _ => ⟨0, 0⟩
theorem rowF_val {a b st : Nat} {r ps : List Fr} (hst : st = 1 ∨ st = 2) (hr : r.length = st + 1) (gr : Gds a r) (hp : ps.length = st) (gp : Gds b ps) : val (rowF r ps) = linR r (pt ps) := by
  rcases hst with rfl | rfl
  · match r, hr, ps, hp with
    | [k, l], _, [x], _ =>
      have gk := gr k (by simp)
      have gl := gr l (by simp)
      have gx := gp x (by simp)
      show val (addF l (mulF k x)) = _
      rw [val_add gl (gk.mul gx), val_mul gk gx]
      rfl
  · match r, hr, ps, hp with
    | [k, j, l], _, [x, y], _ =>
      have gk := gr k (by simp)
      have gj := gr j (by simp)
      have gl := gr l (by simp)
      have gx := gp x (by simp)
      have gy := gp y (by simp)
      show val (addF (addF l (mulF k x)) (mulF j y)) = _
      rw [val_add (gl.add (gk.mul gx)) (gj.mul gy), val_add gl (gk.mul gx), val_mul gk gx, val_mul gj gy]
      rfl
theorem led_pt {a b n st : Nat} {m : List (List Fr)} {ps : List Fr} (M : Mp a n st m) (hn : n = 1 ∨ n = 2) (hst : st = 1 ∨ st = 2) (hp : ps.length = st) (gp : Gds b ps) : pt (ledF m ps) = mapP m (pt ps) := by
  have hl := M.len
  have hrow := M.row
  rcases hn with rfl | rfl
  · match m, hl, hrow with
    | [r], _, hrow =>
      have h := hrow r (by simp)
      show Pt.mk (val (rowF r ps)) 0 = _
      rw [rowF_val hst h.1 h.2 hp gp]
      rfl
  · match m, hl, hrow with
    | [r, r'], _, hrow =>
      have h := hrow r (by simp)
      have h' := hrow r' (by simp)
      show Pt.mk (val (rowF r ps)) (val (rowF r' ps)) = _
      rw [rowF_val hst h.1 h.2 hp gp, rowF_val hst h'.1 h'.2 hp gp]
      rfl
theorem ledF_gd {a b n st : Nat} {m : List (List Fr)} {ps : List Fr} (M : Mp a n st m) (gp : Gds b ps) : Gds (a + st * (a + b + 1)) (ledF m ps) ∧ (ledF m ps).length = n := by
  refine ⟨fun x hx => ?_, by unfold ledF; rw [List.length_map, M.len]⟩
  obtain ⟨r, hr, rfl⟩ := List.mem_map.mp hx
  obtain ⟨l1, g1⟩ := M.row r hr
  exact rowF_gd l1 g1 gp
-- slots of carried: 0 lot, 1 way, 2 rows, 3 weight, 4 body, 5 corner
-- slots of _law_carried: 0 _law_rows_here, 1 _law_table, 2 _law_weight, 3 _law_spots_here, 4 _law_spot_here
-- slots of told25: 0 _law_lot_here, 1 _law_table, 2 why
end


end
section
open PySem PyProof.Rows L2 Evl U.Hull

section
variable {K : Fg} {cs : Cs} {gs : Gs} {φ : PyData → Prop} {A : Rs → Prop} {ε : Xw → Prop} {w : World} {W : WX}
/-! ### bodies laid -/
-- slots of sum_of: 0 spot, 1 other, 2 one, 3 two
-- slots of laid_bodies: 0 one, 1 other, 2 corner, 3 beside
-- slots of laid: 0 one, 1 other, 2 room, 3 rows, 4 weight, 5 body, 6 times, 7 beside
-- slots of told26: 0 _law_one, 1 _law_other, 2 why
-- slots of _law_sums: 0 _law_spots_here, 1 _law_others, 2 _law_found, 3 _law_spot_here, 4 _law_one, 5 _law_at
-- slots of _law_laid: 0 _law_rows_here, 1 _law_others, 2 _law_found, 3 _law_weight, 4 _law_spots_here, 5 _law_beside, 6 _law_more
/-! ### lots laid, in plain -/
section
variable {r : Nat} {rs qs : List RowS} (hr : r = 1 ∨ r = 2) (h : DrR 14 r 4 rs) (k : DrR 14 r 4 qs) (l1 : rs.length ≤ 4) (l2 : qs.length ≤ 4)
include hr h l1
include k l2
end
end


end
section
open PySem PyProof.Rows L2 Evl U.Hull

section
variable {K : Fg} {cs : Cs} {gs : Gs} {φ : PyData → Prop} {A : Rs → Prop} {ε : Xw → Prop} {w : World} {W : WX}
/-! ### rows with their bounds -/
/-! ### laying in any order -/
end


end
section
open PySem PyProof.Rows L2 Evl U.Hull

section
variable {K : Fg} {cs : Cs} {gs : Gs} {φ : PyData → Prop} {A : Rs → Prop} {ε : Xw → Prop} {w : World} {W : WX}
-- slots of _law_threes: 0 _law_bag_here, 1 _law_rank, 2 _law_limit, 3 _law_found, 4 _law_at, 5 _law_spots, 6 _law_corner
/-! ### straight maps -/
end


end
section
open PySem PyProof.Rows L2 Evl U.Hull

section
variable {K : Fg} {cs : Cs} {gs : Gs} {φ : PyData → Prop} {A : Rs → Prop} {ε : Xw → Prop} {w : World} {W : WX}
/-! ### true bounds: D times the worth is whole, the worth lies from -V to V -/
structure LV (D V : Nat) (f : Fr) : Prop where
  wh : ∃ z : Int, (D : Rat) * val f = (z : Rat)
  lo : -(V : Rat) ≤ val f
  hi : val f ≤ (V : Rat)
-- slots of lspotsL: 0 _law_bag_here, 1 _law_rank, 2 _law_limit, 3 _law_many, 4 _law_found, 5 _law_kind, 6 _law_one, 7 _law_two, 8 _law_at
-- slots of lrowsL: 0 _law_bag_here, 1 _law_rank, 2 _law_limit, 3 _law_corners, 4 _law_found, 5 _law_at, 6 _law_weight, 7 _law_row
end


end
section
open PySem PyProof.Rows L2 Evl U.Hull

section
variable {K : Fg} {cs : Cs} {gs : Gs} {φ : PyData → Prop} {A : Rs → Prop} {ε : Xw → Prop} {w : World} {W : WX}
theorem len2 {α : Type} {l : List α} (h : l.length = 2) : ∃ a b, l = [a, b] := match l, h with | [a, b], _ => ⟨a, b, rfl⟩
theorem len3 {α : Type} {l : List α} (h : l.length = 3) : ∃ a b c, l = [a, b, c] := match l, h with | [a, b, c], _ => ⟨a, b, c, rfl⟩
/-! ### a map behind a map -/
def mkStep (made : List Fr) (p : Fr × List Fr) : List Fr := List.zipWith (fun one other => addF one (mulF p.1 other)) made p.2
def mkA (acc : List Fr) (ps : List (Fr × List Fr)) : List Fr := ps.foldl mkStep acc
theorem mkA_snoc {acc : List Fr} {ps : List (Fr × List Fr)} {p : Fr × List Fr} : mkA acc (ps ++ [p]) = mkStep (mkA acc ps) p := by simp [mkA]
theorem mkA_len {k : Nat} : ∀ {ps : List (Fr × List Fr)} {acc : List Fr}, acc.length = k → (∀ p ∈ ps, p.2.length = k) → (mkA acc ps).length = k
  | [], _, h, _ => h
  | p :: ps, acc, h, hp => mkA_len (ps := ps) (acc := mkStep acc p) (by unfold mkStep; rw [List.length_zipWith, h, hp p (by simp)]; omega) fun q hq => hp q (by simp [hq])
theorem mkStep_gd {n a b : Nat} {acc : List Fr} {p : Fr × List Fr} (h : Gds n acc) (h1 : Gd b p.1) (h2 : Gds a p.2) : Gds (n + (b + a + 1)) (mkStep acc p) := fun x hx => by
  unfold mkStep at hx
  obtain ⟨i, hi, rfl⟩ := List.getElem_of_mem hx
  rw [List.getElem_zipWith]
  exact ((h _ (List.getElem_mem _)).add (h1.mul (h2 _ (List.getElem_mem _)))).mono (by omega)
theorem mkA_gd {a b : Nat} : ∀ {ps : List (Fr × List Fr)} {n : Nat} {acc : List Fr}, Gds n acc → (∀ p ∈ ps, Gd b p.1 ∧ Gds a p.2) → Gds (n + ps.length * (b + a + 1)) (mkA acc ps)
  | [], n, acc, h, _ => fun x hx => (h x hx).mono (by omega)
  | p :: ps, n, acc, h, hp => fun x hx => by
    have h1 := hp p (by simp)
    have i := mkA_gd (ps := ps) (acc := mkStep acc p) (mkStep_gd h h1.1 h1.2) (fun q hq => hp q (by simp [hq])) x hx
    refine i.mono ?_
    rw [List.length_cons, Nat.succ_mul]
    omega
def zrow (st : Nat) : List Fr := List.replicate (st + 1) (0, 1)
theorem zrow_gd (st : Nat) : Gds 1 (zrow st) := fun x hx => by rw [List.eq_of_mem_replicate hx]; exact gd_none
def mkM (st : Nat) (m : List (List Fr)) (row : List Fr) : List Fr := mkA (zrow st) (row.dropLast.zip m)
def behRow (st : Nat) (m : List (List Fr)) (row : List Fr) : List Fr := (mkM st m row).dropLast ++ [addF ((mkM st m row).getLastD (0, 1)) (row.getLastD (0, 1))]
def behF (st : Nat) (m k : List (List Fr)) : List (List Fr) := k.map (behRow st m)
theorem zipm {g : Fr → Fr → Fr} : ∀ {xs ys : List Fr}, ((xs.zip ys).map fun p => fr (g p.1 p.2)) = (List.zipWith g xs ys).map fr
  | [], _ => rfl
  | _ :: _, [] => rfl
  | x :: xs, y :: ys => by rw [List.zip_cons_cons, List.map_cons, zipm, List.zipWith_cons_cons, List.map_cons]
theorem mkM_ok {a b n st : Nat} {m : List (List Fr)} {row : List Fr} (M : Mp a n st m) (hr : row.length = n + 1) (gr : Gds b row) : (mkM st m row).length = st + 1 ∧ Gds (1 + n * (b + a + 1)) (mkM st m row) := by
  have hz : (row.dropLast.zip m).length = n := by rw [List.length_zip, List.length_dropLast, M.len]; omega
  refine ⟨mkA_len (by simp [zrow]) fun p hp => (M.row _ (List.of_mem_zip hp).2).1, ?_⟩
  have := mkA_gd (a := a) (b := b) (ps := row.dropLast.zip m) (zrow_gd st) fun p hp => ⟨gr _ ((List.dropLast_sublist row).subset (List.of_mem_zip hp).1), (M.row _ (List.of_mem_zip hp).2).2⟩
  rw [hz] at this
  exact this
theorem beh_row {a b n st : Nat} {m : List (List Fr)} {row : List Fr} (M : Mp a n st m) (hr : row.length = n + 1) (gr : Gds b row) : (behRow st m row).length = st + 1 ∧ Gds (1 + n * (b + a + 1) + b + 1) (behRow st m row) := by
  obtain ⟨l1, g1⟩ := mkM_ok M hr gr
  unfold behRow
  refine ⟨by simp; omega, fun x hx => ?_⟩
  obtain ⟨ini, z, e, _⟩ := row_split l1
  obtain ⟨ss, y, e2, _⟩ := row_split hr
  rw [e] at hx g1
  rw [e2] at hx gr
  rw [List.dropLast_concat] at hx
  have z1 : (ini ++ [z]).getLastD (0, 1) = z := by simp
  have z2 : (ss ++ [y]).getLastD (0, 1) = y := by simp
  rw [z1, z2] at hx
  rcases List.mem_append.mp hx with hx | hx
  · exact (g1 x (by simp [hx])).mono (by omega)
  · rw [List.mem_singleton.mp hx]
    exact (g1 z (by simp)).add (gr y (by simp))
theorem beh_mp {a b n st n2 : Nat} {m k : List (List Fr)} (M : Mp a n st m) (N : Mp b n2 n k) : Mp (1 + n * (b + a + 1) + b + 1) n2 st (behF st m k) := ⟨by unfold behF; rw [List.length_map]; exact N.len, fun r hr => by
  obtain ⟨q, hq, rfl⟩ := List.mem_map.mp hr
  exact beh_row M (N.row q hq).1 (N.row q hq).2⟩
def P_behind : Pr := fun ds A => ∃ (a b n st n2 st2 : Nat) (m k : List (List Fr)), ds = [mp m, mp k] ∧ Mp a n st m ∧ Mp b n2 st2 k ∧ 1 ≤ n ∧ n ≤ 100 ∧ 1 ≤ n2 ∧ n2 ≤ 100 ∧ st ≤ 100 ∧ st2 ≤ 100 ∧ (st2 ≠ n → A (.er xOther)) ∧ (st2 = n → 1 + n * (b + a + 1) + b + 1 ≤ 1900 ∧ A (.ok (mp (behF st m k))))
def t_behind (K : Fg) (cs : Cs) (gs : Gs) (W : WX) : TS := (tSeq (tIfS (tTest (tOp rNe (tCall (spW0 K P_roomFrom) [] E0 (tCons (tVar 1) tNil)) (tCB (rLenQ K) (tCons (tVar 0) tNil)))) (tRaiseX (cs "OtherRoom") (spIn K ["word"] (gCw "OtherRoom")) [] tNil W) tNext)
  (tSeq (tAsg (tLst tNil) (gName 2))
  (tSeq (tFor (iTup K (tVar 1)) (gName 3) (tSeq (tAsg (tVar 3) (gStar K (gCons (gName 8) (gCons (gName 5) gNil))))
  (tSeq (tAsg (tLc (iTup K (tOp (rIx K) (tVar 0) (tC (V.int 0)))) (gName 9) tYes (tC (gs "NONE")) [9]) (gName 4))
  (tSeq (tFor (iZipM K false (tCons (tVar 8) (tCons (tVar 0) tNil))) (gTup K 2 (gCons (gName 6) (gCons (gName 7) gNil))) (tAsg (tLc (iZipM K false (tCons (tVar 4) (tCons (tVar 7) tNil))) (gTup K 2 (gCons (gName 9) (gCons (gName 10) gNil))) tYes (tCall (spP K P_plus) [] E0 (tCons (tVar 9) (tCons (tCall (spP K P_times) [] E0 (tCons (tVar 6) (tCons (tVar 10) tNil))) tNil))) [9, 10]) (gName 4)))
  (tSeq (tAsg (tCall (spP K P_plus) [] E0 (tCons (tOp (rIx K) (tVar 4) (tUn rNegI (tC (V.int 1)))) (tCons (tVar 5) tNil))) (gSub (tVar 4) (tUn rNegI (tC (V.int 1))) rSetL))
  (tDrop (tBM K "list" rAppend (tVar 2) (tCons (tCB (rTupQ K) (tCons (tVar 4) tNil)) tNil))))))))
  (tRet (tCB (rTupQ K) (tCons (tVar 2) tNil))))))
-- slots of behind: 0 first, 1 then, 2 found, 3 row, 4 made, 5 last, 6 step, 7 inner, 8 steps, 9 one, 10 other
theorem ln_behind : ∀ ds A, P_behind ds A → ds.length = 2 := fun ds A h => by obtain ⟨_, _, _, _, _, _, _, _, rfl, _⟩ := h; rfl
theorem rd_behind {ds A} (cf : ClsF K cs "OtherRoom" ["word"]) (gN : ∀ H, Dp K H (gs "NONE") (fr (0, 1))) (h : P_behind ds A) (W : WX) : SW K cs W (t_behind K cs gs W) (frame 11 ds) (rts A) := by
  obtain ⟨a, b, n, st, n2, st2, m, k, rfl, M, N, hn1, hn, hn21, hn2, hst, hst2, h1, h2⟩ := h
  obtain ⟨r0, k', ek⟩ : ∃ r0 k', k = r0 :: k' := by
    cases k with
    | nil => have := N.len; simp at this; omega
    | cons r0 m' => exact ⟨r0, m', rfl⟩
  obtain ⟨f0, m', em⟩ : ∃ f0 m', m = f0 :: m' := by
    cases m with
    | nil => have := M.len; simp at this; omega
    | cons r0 m' => exact ⟨r0, m', rfl⟩
  have l0 := (N.row r0 (by rw [ek]; simp)).1
  have lf := (M.row f0 (by rw [em]; simp)).1
  have lm := M.len
  have lk := N.len
  unfold t_behind
  refine sw_seq ?_
  walk_at "s"
  refine ⟨r0, k', by rw [ek], ?_⟩
  walk_at "s"
  by_cases e : st2 = n
  · obtain ⟨hb, h⟩ := h2 e
    subst e
    refine cnd_F (by simp; omega) ?_
    walk_at "s"
    refine sw_seq (sw_asgF (ef_lst0 ?_))
    walk_at "s"
    refine sw_cut (fun G => ∃ e3 e4 e5 e6 e7 e8, G = [.d (mp m), .d (mp k), .ow (ol ((behF st m k).map frs)), e3, e4, e5, e6, e7, e8, .un, .un]) ?_ ?_
    · walk_at "s"
      refine forP (fun pre G => ∃ e3 e4 e5 e6 e7 e8, G = [.d (mp m), .d (mp k), .ow (ol ((behF st m pre).map frs)), e3, e4, e5, e6, e7, e8, .un, .un]) ⟨_, _, _, _, _, _, rfl⟩ ?_ ?_
      · rintro pre row post _ e ⟨e3, e4, e5, e6, e7, e8, rfl⟩
        obtain ⟨hr1, hr2⟩ := N.row row (by rw [e]; simp)
        have ok := mkM_ok M hr1 hr2
        obtain ⟨ini, z, ez, lz⟩ := row_split ok.1
        obtain ⟨ss, x, rfl, hl⟩ := row_split hr1
        have lp : pre.length ≤ 100 := by have := congrArg List.length e; simp at this; omega
        walk_at "s"
        refine sw_seq (sw_asgT (ew_var rfl (gw_starF (by decide) (by simp) (by omega) ?_)))
        refine sw_seq (sw_asgF (ef_lc ?_))
        walk_at "s"
        refine at0 (z := frs f0) (by rw [em]; rfl) ?_
        walk_at "s"
        refine lcM (f := fr) (xs := f0) (fun _ => fr (0, 1)) (by omega) (unk1 rfl) (fun y my => ?_) ?_
        · walk_at "s"
          rfl
        have ef : f0.map (fun _ => fr (0, 1)) = (zrow st).map fr := by
          unfold zrow
          rw [List.map_replicate, ← lf]
          exact List.map_const' ..
        rw [ef]
        refine sw_cut (fun G => ∃ e6 e7, G = [.d (mp m), .d (mp k), .ow (ol ((behF st m pre).map frs)), .d (frs (ss ++ [x])), .ow (ol ((mkM st m (ss ++ [x])).map fr)), .d (fr x), e6, e7, .d (.list (ss.map fr)), .un, .un]) ?_ ?_
        · walk_at "s"
          rw [zipD_map]
          refine forP (fun pre' G => ∃ e6 e7, G = [.d (mp m), .d (mp k), .ow (ol ((behF st m pre).map frs)), .d (frs (ss ++ [x])), .ow (ol ((mkA (zrow st) pre').map fr)), .d (fr x), e6, e7, .d (.list (ss.map fr)), .un, .un]) ⟨_, _, rfl⟩ ?_ ?_
          · rintro pre' p post' _ e' ⟨e6, e7, rfl⟩
            have mz : ∀ q ∈ ss.zip m, Gd b q.1 ∧ Gds a q.2 ∧ q.2.length = st + 1 := fun q hq => ⟨hr2 _ (by simp [(List.of_mem_zip hq).1]), (M.row _ (List.of_mem_zip hq).2).2, (M.row _ (List.of_mem_zip hq).2).1⟩
            have mp' := mz p (by rw [e']; simp)
            have g1 := mkA_gd (a := a) (b := b) (ps := pre') (zrow_gd st) fun q hq => ⟨(mz q (by rw [e']; simp [hq])).1, (mz q (by rw [e']; simp [hq])).2.1⟩
            have l1 : (mkA (zrow st) pre').length = st + 1 := mkA_len (by simp [zrow]) fun q hq => (mz q (by rw [e']; simp [hq])).2.2
            have lpz : pre'.length + 1 ≤ st2 := by
              have := congrArg List.length e'
              simp at this
              omega
            have hm1 : (pre'.length + 1) * (b + a + 1) ≤ st2 * (b + a + 1) := Nat.mul_le_mul_right _ lpz
            rw [Nat.succ_mul] at hm1
            refine gw_tup rfl (gsw_cons (gw_name (gsw_cons (gw_name (gsw_nil ?_)))))
            refine sw_freeze (i := 4) rfl ?_
            refine sw_asgF (ef_lc ?_)
            walk_at "s"
            rw [zipD_map]
            refine lcM (fun q : Fr × Fr => fr (addF q.1 (mulF p.1 q.2))) (by rw [List.length_zip]; omega) (unk2 rfl rfl) (fun q mq => ?_) ?_
            · have gq1 := g1 q.1 (List.of_mem_zip mq).1
              have gq2 := mp'.2.1 q.2 (List.of_mem_zip mq).2
              have gp1 := mp'.1
              walk_at "s"
              rfl
            refine ⟨.d (fr p.1), .d (frs p.2), ?_⟩
            rw [zipm (g := fun one other => addF one (mulF p.1 other)), mkA_snoc]
            rfl
          · rintro _ ⟨e6, e7, rfl⟩
            exact x_nx ⟨e6, e7, by unfold mkM; rw [List.dropLast_concat]⟩
        rintro _ ⟨e6, e7, rfl⟩
        have okg := ok.2
        rw [ez] at okg ⊢
        have gz : Gd (1 + st2 * (b + a + 1)) z := okg z (by simp)
        have gx : Gd b x := hr2 x (by simp)
        rw [List.map_append]
        refine sw_seq (sw_setI (i := 4) rfl ?_)
        refine ew_cP (aw_cons (ew_ixO (i := 4) rfl ?_))
        walk_at "s"
        refine ⟨fr z, atm (k := 1) (by simp) (by decide) (by simp), ?_⟩
        walk_at "s"
        refine ⟨_, st, rfl, ?_, ?_⟩
        · rw [List.length_append, List.length_map, lz]
          simp [ixN]
          omega
        have eb : behRow st m (ss ++ [x]) = ini ++ [addF z x] := by
          unfold behRow
          rw [ez]
          simp
        have e9 : (behF st m (pre ++ [ss ++ [x]])).map frs = (behF st m pre).map frs ++ [frs (ini ++ [addF z x])] := by
          unfold behF
          rw [List.map_append, List.map_append, List.map_cons, List.map_nil, eb]
          rfl
        have e10 : (ini.map fr ++ [fr z]).set st (fr (addF z x)) = (ini ++ [addF z x]).map fr := by
          rw [← lz]
          simp
        have e11 : ini.map fr ++ List.map fr [z] = ini.map fr ++ [fr z] := rfl
        rw [e9]
        simp only [e11, e10]
        refine sw_app (i := 2) rfl (by rw [List.length_map]; unfold behF; rw [List.length_map]; omega) ?_
        walk_at "s"
        exact ⟨_, _, _, _, _, _, rfl⟩
      · rintro _ ⟨e3, e4, e5, e6, e7, e8, rfl⟩
        exact x_nx ⟨_, _, _, _, _, _, rfl⟩
    rintro _ ⟨e3, e4, e5, e6, e7, e8, rfl⟩
    walk_at "s"
    exact h
  · refine cnd_T (by simp; omega) ?_
    refine sw_raise0 cf rfl ?_
    exact h1 e
theorem va {a b c : Nat} {z k p : Fr} (hz : Gd a z) (hk : Gd b k) (hp : Gd c p) : val (addF z (mulF k p)) = val z + val k * val p := by rw [val_add hz (hk.mul hp), val_mul hk hp]
theorem beh_lin {a b n st : Nat} {m : List (List Fr)} {row : List Fr} (M : Mp a n st m) (lr : row.length = n + 1) (gr : Gds b row) (hn : n = 1 ∨ n = 2) (hst : st = 1 ∨ st = 2) (p : Pt) : linR (behRow st m row) p = linR row (mapP m p) := by
  have lm := M.len
  have hm := M.row
  have g0 := gd_none
  have v0 := val_none
  clear M
  rcases hn with rfl | rfl
  · obtain ⟨f, rfl⟩ := List.length_eq_one_iff.mp lm
    obtain ⟨k, l, rfl⟩ := len2 lr
    obtain ⟨lf, gf⟩ := hm f (by simp)
    have gk := gr k (by simp)
    have gl := gr l (by simp)
    rcases hst with rfl | rfl
    · obtain ⟨x, y, rfl⟩ := len2 lf
      have gx := gf x (by simp)
      have gy := gf y (by simp)
      show val (addF (addF (0, 1) (mulF k y)) l) + val (addF (0, 1) (mulF k x)) * p.x = val l + val k * (val y + val x * p.x)
      rw [val_add (g0.add (gk.mul gy)) gl, va g0 gk gy, va g0 gk gx, v0]
      grind
    · obtain ⟨x, y, z, rfl⟩ := len3 lf
      have gx := gf x (by simp)
      have gy := gf y (by simp)
      have gz := gf z (by simp)
      show val (addF (addF (0, 1) (mulF k z)) l) + val (addF (0, 1) (mulF k x)) * p.x + val (addF (0, 1) (mulF k y)) * p.y = val l + val k * (val z + val x * p.x + val y * p.y)
      rw [val_add (g0.add (gk.mul gz)) gl, va g0 gk gz, va g0 gk gx, va g0 gk gy, v0]
      grind
  · obtain ⟨f, f', rfl⟩ := len2 lm
    obtain ⟨k, j, l, rfl⟩ := len3 lr
    obtain ⟨lf, gf⟩ := hm f (by simp)
    obtain ⟨lf', gf'⟩ := hm f' (by simp)
    have gk := gr k (by simp)
    have gj := gr j (by simp)
    have gl := gr l (by simp)
    rcases hst with rfl | rfl
    · obtain ⟨x, y, rfl⟩ := len2 lf
      obtain ⟨x', y', rfl⟩ := len2 lf'
      have gx := gf x (by simp)
      have gy := gf y (by simp)
      have gx' := gf' x' (by simp)
      have gy' := gf' y' (by simp)
      show val (addF (addF (addF (0, 1) (mulF k y)) (mulF j y')) l) + val (addF (addF (0, 1) (mulF k x)) (mulF j x')) * p.x = val l + val k * (val y + val x * p.x) + val j * (val y' + val x' * p.x)
      rw [val_add ((g0.add (gk.mul gy)).add (gj.mul gy')) gl, va (g0.add (gk.mul gy)) gj gy', va (g0.add (gk.mul gx)) gj gx', va g0 gk gy, va g0 gk gx, v0]
      grind
    · obtain ⟨x, y, z, rfl⟩ := len3 lf
      obtain ⟨x', y', z', rfl⟩ := len3 lf'
      have gx := gf x (by simp)
      have gy := gf y (by simp)
      have gz := gf z (by simp)
      have gx' := gf' x' (by simp)
      have gy' := gf' y' (by simp)
      have gz' := gf' z' (by simp)
      show val (addF (addF (addF (0, 1) (mulF k z)) (mulF j z')) l) + val (addF (addF (0, 1) (mulF k x)) (mulF j x')) * p.x + val (addF (addF (0, 1) (mulF k y)) (mulF j y')) * p.y = val l + val k * (val z + val x * p.x + val y * p.y) + val j * (val z' + val x' * p.x + val y' * p.y)
      rw [val_add ((g0.add (gk.mul gz)).add (gj.mul gz')) gl, va (g0.add (gk.mul gz)) gj gz', va (g0.add (gk.mul gx)) gj gx', va (g0.add (gk.mul gy)) gj gy', va g0 gk gz, va g0 gk gx, va g0 gk gy, v0]
      grind
theorem led_beh {a b c n st n2 : Nat} {m k : List (List Fr)} {s : Spot} (M : Mp a n st m) (N : Mp b n2 n k) (hn : n = 1 ∨ n = 2) (hst : st = 1 ∨ st = 2) (g : Gds c s) (hs : s.length = st) : ledF (behF st m k) s = ledF k (ledF m s) := by
  unfold behF
  show (List.map (behRow st m) k).map (fun r => rowF r s) = k.map fun r => rowF r (ledF m s)
  rw [List.map_map]
  refine List.map_congr_left fun row hr => ?_
  obtain ⟨lr, gr⟩ := N.row row hr
  obtain ⟨lb, gb⟩ := beh_row M lr gr
  obtain ⟨gl, ll⟩ := ledF_gd M g
  show rowF (behRow st m row) s = rowF row (ledF m s)
  refine gd_inj (rowF_gd lb gb g) (rowF_gd lr gr gl) ?_
  rw [rowF_val hst lb gb hs g, rowF_val hn lr gr ll gl, led_pt M hn hst hs g]
  exact beh_lin M lr gr hn hst _
/-! ### bounds carried -/
end


end
section
open PySem PyProof.Rows L2 Evl U.Hull

section
variable {K : Fg} {cs : Cs} {gs : Gs} {φ : PyData → Prop} {A : Rs → Prop} {ε : Xw → Prop} {w : World} {W : WX}
/-! ### a spot lies deep where each small step on leads not out -/
end


end
section
open PySem PyProof.Rows L2 Evl U.Hull

section
variable {K : Fg} {cs : Cs} {gs : Gs} {φ : PyData → Prop} {A : Rs → Prop} {ε : Xw → Prop} {w : World} {W : WX}
-- slots of lookL: 0 _law_bag_here, 1 _law_spots_here, 2 _law_rank, 3 _law_one, 4 _law_two
-- slots of someL: 0 _law_bag_here, 1 _law_rows_here, 2 _law_rank, 3 _law_many, 4 _law_spots_here, 5 _law_at
-- slots of wideL: 0 _law_bag_here, 1 _law_rank, 2 _law_limit, 3 _law_found, 4 _law_k, 5 _law_at
-- slots of _law_deep: 0 _law_spots_here, 1 _law_spot_here, 2 _law_tiny, 3 _law_start
end


end
section
open PySem PyProof.Rows L2 Evl U.Hull
/-! ### corners and sides: what lies on a side's line -/
/-! ### Euler: the faces that hold a spot, with their signs -/
end
section
open PySem PyProof.Rows L2 Evl U.Hull
/-! ### what two bodies have in common, plain -/
end
section
open PySem PyProof.Rows L2 Evl U.Hull
/-! ### two bodies of the plane: all that both hold lies between corners and crossings -/
end
section
open PySem PyProof.Rows L2 Evl U.Hull

section
variable {K : Fg} {cs : Cs} {gs : Gs} {φ : PyData → Prop} {A : Rs → Prop} {ε : Xw → Prop} {w : World} {W : WX}
/-! ### what is drawn, told tightly -/
-- slots of lspotsT: 0 _law_bag_here, 1 _law_rank, 2 _law_limit, 3 _law_many, 4 _law_found, 5 _law_kind, 6 _law_one, 7 _law_two, 8 _law_at
-- slots of lrowsT: 0 _law_bag_here, 1 _law_rank, 2 _law_limit, 3 _law_corners, 4 _law_found, 5 _law_at, 6 _law_weight, 7 _law_row
end


end
section
open PySem PyProof.Rows L2 Evl U.Hull

section
variable {K : Fg} {cs : Cs} {gs : Gs} {φ : PyData → Prop} {A : Rs → Prop} {ε : Xw → Prop} {w : World} {W : WX}
/-! ### crossings of small spots are small -/
def lv2 (p : Sp2) : Prop := LV 48 6 p.x ∧ LV 48 6 p.y
end


end
section
open PySem PyProof.Rows L2 Evl U.Hull

section
variable {K : Fg} {cs : Cs} {gs : Gs} {φ : PyData → Prop} {A : Rs → Prop} {ε : Xw → Prop} {w : World} {W : WX}
/-! ### the body of all that two hold -/
def sp2 (s : Spot) : Sp2 := ⟨(s[0]?).getD (0, 1), (s[1]?).getD (0, 1)⟩
-- slots of common: 0 one, 1 other, 2 found, 3 corner, 4 start, 5 end, 6 other_start, 7 other_end, 8 spot
end


end
section
open PySem PyProof.Rows L2 Evl U.Hull

section
variable {K : Fg} {cs : Cs} {gs : Gs} {φ : PyData → Prop} {A : Rs → Prop} {ε : Xw → Prop} {w : World} {W : WX}
/-! ### lots met -/
-- slots of met: 0 one, 1 other, 2 room, 3 found, 4 weight, 5 body, 6 other_weight, 7 other_body, 8 shared_body
-- slots of told24: 0 _law_one, 1 _law_other, 2 why
end


end
section
open PySem PyProof.Rows L2 Evl U.Hull

section
variable {K : Fg} {cs : Cs} {gs : Gs} {φ : PyData → Prop} {A : Rs → Prop} {ε : Xw → Prop} {w : World} {W : WX}
/-! ### the law's own crossing -/
-- slots of _law_cross: 0 _law_one, 1 _law_two, 2 _law_three, 3 _law_four, 4 _law_first, 5 _law_second, 6 _law_span, 7 _law_step, 8 _law_share
/-! ### the law's own meeting -/
-- slots of _law_meeting: 0 _law_one, 1 _law_other, 2 _law_found, 3 _law_at, 4 _law_to, 5 _law_spot_here
end


end
section
open PySem PyProof.Rows L2 Evl U.Hull
/-! ### the body of what two have in common, plain -/
/-! ### crossings by their values -/
structure Gp (p : Spot × Spot) : Prop where
  g1 : (sp2 p.1).g 100
  g2 : (sp2 p.2).g 100
  l1 : p.1.length = 2
  l2 : p.2.length = 2
  v1 : lv2 (sp2 p.1)
  v2 : lv2 (sp2 p.2)
/-! ### all that both hold -/
end
section
open PySem PyProof.Rows L2 Evl U.Hull

section
variable {K : Fg} {cs : Cs} {gs : Gs} {φ : PyData → Prop} {A : Rs → Prop} {ε : Xw → Prop} {w : World} {W : WX}
/-! ### looks, told tightly; spots of rows of all kinds -/
-- slots of lookT: 0 _law_bag_here, 1 _law_spots_here, 2 _law_rank, 3 _law_one, 4 _law_two
-- slots of allspM: 0 _law_rows_here, 1 _law_found, 2 _law_weight_here, 3 _law_spots_here
-- slots of someM: 0 _law_bag_here, 1 _law_rows_here, 2 _law_rank, 3 _law_many, 4 _law_spots_here, 5 _law_at
end


end
section
open PySem PyProof.Rows L2 Evl U.Hull
/-! ### numbers below, told tightly -/
/-! ### rows of small spots -/
structure TR (r n : Nat) (rs : List RowS) : Prop where
  wl : ∀ p ∈ rs, -7 ≤ p.w ∧ p.w ≤ 7
  sp : ∀ p ∈ rs, Sps 31 r p.ss ∧ 1 ≤ p.ss.length ∧ p.ss.length ≤ 5
  lv : ∀ p ∈ rs, ∀ s ∈ p.ss, ∀ f ∈ s, LV 48 6 f
  ln : rs.length ≤ n
/-! ### the pairs -/
section
variable {r n m : Nat} {rs qs : List RowS} (hr : r = 1 ∨ r = 2) (hn : n ≤ 100) (hm : m ≤ 100) (h1 : TR r n rs) (h2 : TR r m qs)
include hr hn hm h1 h2
end
/-! ### weights of what is met -/
end
section
open PySem PyProof.Rows L2 Evl U.Hull
/-! ### what a body has on a line, plain -/
structure Ln (k : Spot × Spot) : Prop where
  gp : Gp k
  ne : k.1 ≠ k.2
/-! ### times of corners and of crossings -/
end
section
open PySem PyProof.Rows L2 Evl U.Hull

section
variable {K : Fg} {cs : Cs} {gs : Gs} {φ : PyData → Prop} {A : Rs → Prop} {ε : Xw → Prop} {w : World} {W : WX}
/-! ### faces by the law, mirrored bodies -/
-- slots of _law_faces: 0 _law_spots_here, 1 _law_body_here, 2 _law_found, 3 _law_corner, 4 _law_at
-- slots of _law_turned: 0 _law_rows_here, 1 _law_found, 2 _law_weight, 3 _law_spots_here, 4 _law_sign_here, 5 _law_face
/-! ### mirrored -/
-- slots of mirrored: 0 body, 1 corner, 2 one
-- slots of unlaid: 0 body
end


end
section
open PySem PyProof.Rows L2 Evl U.Hull

section
variable {K : Fg} {cs : Cs} {gs : Gs} {φ : PyData → Prop} {A : Rs → Prop} {ε : Xw → Prop} {w : World} {W : WX}
/-! ### the program's spots on a line -/
/-! ### the law's spots on a line -/
structure SB (ss : List Spot) : Prop where
  sp : SpR 31 2 ss
  l5 : ss.length ≤ 100
  lv : ∀ s ∈ ss, ∀ f ∈ s, LV 48 6 f
end


end
section
open PySem PyProof.Rows L2 Evl U.Hull

section
variable {K : Fg} {cs : Cs} {gs : Gs} {φ : PyData → Prop} {A : Rs → Prop} {ε : Xw → Prop} {w : World} {W : WX}
/-! ### sliced -/
-- slots of time_of: 0 spot, 1 step, 2 corner, 3 at
-- slots of slice_of: 0 body, 1 spot, 2 step, 3 ahead, 4 found, 5 at, 6 corner, 7 last, 8 one
/-! the lot -/
-- slots of sliced: 0 lot, 1 spot, 2 step, 3 rows, 4 weight, 5 body, 6 row
end


end
section
open PySem PyProof.Rows L2 Evl U.Hull

section
variable {K : Fg} {cs : Cs} {gs : Gs} {φ : PyData → Prop} {A : Rs → Prop} {ε : Xw → Prop} {w : World} {W : WX}
/-! ### paired -/
-- slots of paired: 0 one, 1 other, 2 rows, 3 weight, 4 body, 5 beside, 6 upright, 7 spot, 8 high
-- slots of lpair28: 0 _law_one, 1 _law_other, 2 why
-- slots of lslice28: 0 _law_lot_here, 1 _law_spot_here, 2 _law_step, 3 why
end


end
section
open PySem PyProof.Rows L2 Evl U.Hull

section
variable {K : Fg} {cs : Cs} {gs : Gs} {φ : PyData → Prop} {A : Rs → Prop} {ε : Xw → Prop} {w : World} {W : WX}
/-! ### the law's own times -/
-- slots of _law_times: 0 _law_spots_here, 1 _law_spot_here, 2 _law_ahead, 3 _law_found, 4 _law_at, 5 _law_to, 6 _law_near, 7 _law_one, 8 _law_two, 9 _law_cut
end


end
section
open PySem PyProof.Rows L2 Evl U.Hull

section
variable {K : Fg} {cs : Cs} {gs : Gs} {φ : PyData → Prop} {A : Rs → Prop} {ε : Xw → Prop} {w : World} {W : WX}
-- slots of someT: 0 _law_bag_here, 1 _law_rows_here, 2 _law_rank, 3 _law_many, 4 _law_spots_here, 5 _law_at
/-! ### rows paired, plain -/
/-! ### rows sliced, plain -/
section
variable {k : Spot × Spot} {rs : List RowS} (hL : Ln k) (hS : ∀ p ∈ rs, SB p.ss ∧ p.ss.length ≤ 5) (hn : rs.length ≤ 5)
include hL hS hn
end
end


end
section
open PySem PyProof.Rows L2 Evl U.Hull
/-! ### Euler on a line: places less open stretches -/
end
section
open PySem PyProof.Rows L2 Evl U.Hull

section
variable {K : Fg} {cs : Cs} {gs : Gs} {φ : PyData → Prop} {A : Rs → Prop} {ε : Xw → Prop} {w : World} {W : WX}
/-! ### the law's tally on a line -/
-- slots of _law_both: 0 _law_rows_here, 1 _law_others, 2 _law_spot_here
-- slots of _law_line_tally: 0 _law_rows_here, 1 _law_others, 2 _law_one, 3 _law_two, 4 _law_cuts, 5 _law_places, 6 _law_total, 7 _law_at, 8 _law_weight_here, 9 _law_spots_here, 10 _law_gap, 11 _law_place
end


end
section
open PySem PyProof.Rows L2 Evl U.Hull
/-! ### lines as three whole numbers, plain -/
end
section
open PySem PyProof.Rows L2 Evl U.Hull

section
variable {K : Fg} {cs : Cs} {gs : Gs} {φ : PyData → Prop} {A : Rs → Prop} {ε : Xw → Prop} {w : World} {W : WX}
/-! ### lines, read -/
-- slots of line_by: 0 lean, 1 spot, 2 divisor, 3 right, 4 up, 5 last, 6 below
-- slots of line_through: 0 spot, 1 other, 2 right, 3 up
-- slots of told48: 0 _law_one, 1 _law_two, 2 why
end


end
section
open PySem PyProof.Rows L2 Evl U.Hull

section
variable {K : Fg} {cs : Cs} {gs : Gs} {φ : PyData → Prop} {A : Rs → Prop} {ε : Xw → Prop} {w : World} {W : WX}
/-! ### the law's line -/
-- slots of _law_line: 0 _law_one, 1 _law_two, 2 _law_first, 3 _law_second, 4 _law_a, 5 _law_b, 6 _law_c, 7 _law_divisor
end


end
section
open PySem PyProof.Rows L2 Evl U.Hull

section
variable {K : Fg} {cs : Cs} {gs : Gs} {φ : PyData → Prop} {A : Rs → Prop} {ε : Xw → Prop} {w : World} {W : WX}
/-! ### what a line hits -/
/-! readings -/
-- slots of side_on: 0 line, 1 corner, 2 found
-- slots of _law_side: 0 _law_line_here, 1 _law_spot_here, 2 _law_place, 3 _law_gap
-- slots of line_tally: 0 lot, 1 line, 2 found, 3 weight, 4 body, 5 seen, 6 corner
-- slots of flat48: 0 _law_lot, 1 _law_line_here, 2 why
-- slots of _law_line_weight: 0 _law_rows_here, 1 _law_line_here, 2 _law_total, 3 _law_weight_here, 4 _law_spots_here, 5 _law_sides, 6 _law_spot_here
end


end
section
open PySem PyProof.Rows L2 Evl
/-! ### lists of one's own within a list of one's own -/
abbrev WL (Wd : Addr → Prop) (as : List Addr) : Addr → Prop := fun a => Wd a ∨ a ∈ as
structure Nst (K : Fg) (Wd : Addr → Prop) (B : Option (Addr × Addr)) (ad : Nat → Addr) (H0 H : Hp) (σ : St) (G : Gam) (i : Nat) (a0 : Addr) (as : List Addr) (xss : List (List PyData)) : Prop where
  S : Sta K (WL Wd (a0 :: as)) B ad H0 H σ G
  sl : σ[i]? = some (some (.ref a0))
  un : G[i]? = some .un
  o0 : H a0 = some (.lst (as.map V.ref))
  nd : (a0 :: as).Nodup
  len : as.length = xss.length
  row : ∀ (j : Nat) (a : Addr), as[j]? = some a → ∃ vs xs, xss[j]? = some xs ∧ H a = some (.lst vs) ∧ DpAll K (less H (Zs (WL Wd (a0 :: as)) B ad G)) vs xs
  fr : ∀ a ∈ a0 :: as, H0 a = none ∧ ¬ InB B a ∧ ¬ Wd a
section
variable {K : Fg} {cs : Cs} {W : WX} {Wd : Addr → Prop} {B : Option (Addr × Addr)} {ad : Nat → Addr} {H0 H H2 : Hp} {σ : St} {G G' : Gam} {i : Nat} {a0 : Addr} {as : List Addr} {xss : List (List PyData)} {φ : PyData → Prop}
theorem Sta.sub {W1 W2 : Addr → Prop} (S : Sta K W2 B ad H0 H σ G) (hw : ∀ a, W1 a → W2 a) : Sta K W1 B ad H0 H σ G ∧ Ex (less H (Zs W2 B ad G)) (less H (Zs W1 B ad G)) := by
  have ex : Ex (less H (Zs W2 B ad G)) (less H (Zs W1 B ad G)) := less_sub fun a z => z.elim (fun z => .inl (hw a z)) .inr
  refine ⟨⟨S.len, fun i e h => ?_, S.inj, fun i c h => ⟨(S.sep i c h).1, (S.sep i c h).2.1, fun z => (S.sep i c h).2.2 (hw _ z)⟩, S.base, S.bag, fun a z => S.wd a (hw a z)⟩, ex⟩
  obtain ⟨u, g1, g2⟩ := S.at_ i e h
  exact ⟨u, g1, g2.mono ex fun _ _ _ q => q⟩
theorem wl_snoc {p : Addr} : (fun a => WL Wd as a ∨ a = p) = WL Wd (as ++ [p]) := funext fun a => propext (by
  show (Wd a ∨ a ∈ as) ∨ a = p ↔ Wd a ∨ a ∈ as ++ [p]
  rw [List.mem_append, List.mem_singleton, or_assoc])
theorem Nst.ev (N : Nst K Wd B ad H0 H σ G i a0 as xss) {te : TE} (h : EW K cs W te G φ noX) {Q : VK}
    (q : ∀ x v H2, φ x → Nst K Wd B ad H0 H2 σ G i a0 as xss → Dp K (less H2 (Zs (WL Wd (a0 :: as)) B ad G)) v x → Ex (less H (Zs (WL Wd (a0 :: as)) B ad G)) (less H2 (Zs (WL Wd (a0 :: as)) B ad G)) → Q v H2) : te σ H Q :=
  h _ B ad H0 H σ N.S Q (fun x px v H2 S2 xb d => q x v H2 px ⟨S2, N.sl, N.un, xb _ _ N.o0 (N.fr a0 List.mem_cons_self).2.1, N.nd, N.len, fun j a ja => by
    obtain ⟨vs, xs, e1, e2, e3⟩ := N.row j a ja
    exact ⟨vs, xs, e1, xb _ _ e2 (N.fr a (List.mem_cons_of_mem _ (List.mem_of_getElem? ja))).2.1, dpa_mono (Xb.lz xb) e3⟩, N.fr⟩ d (Xb.lz xb)) xp_no
theorem Nst.asg (N : Nst K Wd B ad H0 H σ G i a0 as xss) {k : Nat} {v : V} {x : PyData} (hk : k ≠ i) (d : Dp K (less H (Zs (WL Wd (a0 :: as)) B ad G)) v x) :
    Nst K Wd B ad H0 H (σ.set k (some v)) (G.set k (.d x)) i a0 as xss ∧ Ex (less H (Zs (WL Wd (a0 :: as)) B ad G)) (less H (Zs (WL Wd (a0 :: as)) B ad (G.set k (.d x)))) := by
  have ex : Ex (less H (Zs (WL Wd (a0 :: as)) B ad G)) (less H (Zs (WL Wd (a0 :: as)) B ad (G.set k (.d x)))) := less_sub fun a z => Zs.set_of (fun _ z => by cases z) z
  refine ⟨⟨N.S.setD d, by rw [List.getElem?_set_ne hk]; exact N.sl, by rw [List.getElem?_set_ne hk]; exact N.un, N.o0, N.nd, N.len, fun j a ja => ?_, N.fr⟩, ex⟩
  obtain ⟨vs, xs, e1, e2, e3⟩ := N.row j a ja
  exact ⟨vs, xs, e1, e2, dpa_mono ex e3⟩
/-- a row grows -/
theorem Nst.grow (N : Nst K Wd B ad H0 H σ G i a0 as xss) {r : Nat} {a : Addr} {vs : List V} {xs : List PyData} {v : V} {x : PyData} (ha : as[r]? = some a) (hx : xss[r]? = some xs) (ho : H a = some (.lst vs)) (hd : DpAll K (less H (Zs (WL Wd (a0 :: as)) B ad G)) vs xs) (d : Dp K (less H (Zs (WL Wd (a0 :: as)) B ad G)) v x) :
    Nst K Wd B ad H0 (upd H a (.lst (vs ++ [v]))) σ G i a0 as (xss.set r (xs ++ [x])) ∧ Ex (less H (Zs (WL Wd (a0 :: as)) B ad G)) (less (upd H a (.lst (vs ++ [v]))) (Zs (WL Wd (a0 :: as)) B ad G)) := by
  have am : a ∈ as := List.mem_of_getElem? ha
  have am' : a ∈ a0 :: as := List.mem_cons_of_mem _ am
  obtain ⟨S2, e2⟩ := N.S.foreign (o := .lst (vs ++ [v])) (p := a) (.inr am') (N.fr a am').1 (N.fr a am').2.1
  have ne0 : a0 ≠ a := fun z => (List.nodup_cons.mp N.nd).1 (z ▸ am)
  refine ⟨⟨S2, N.sl, N.un, by rw [upd_ne ne0]; exact N.o0, N.nd, by rw [List.length_set]; exact N.len, fun j b jb => ?_, N.fr⟩, by rw [e2]; exact Ex.refl _⟩
  rw [e2]
  by_cases z : j = r
  · subst z
    rw [ha] at jb
    cases jb
    have jl : j < xss.length := by rw [← N.len]; exact (List.getElem?_eq_some_iff.mp ha).1
    exact ⟨_, _, List.getElem?_set_self jl, upd_same, dpa_app hd (.cons d .nil)⟩
  · have nb : b ≠ a := fun q => by
      subst q
      obtain ⟨l1, q1⟩ := List.getElem?_eq_some_iff.mp ha
      obtain ⟨l2, q2⟩ := List.getElem?_eq_some_iff.mp jb
      have pw := List.pairwise_iff_getElem.mp (List.nodup_cons.mp N.nd).2
      rcases Nat.lt_or_ge j r with y | y
      · exact pw j r l2 l1 y (q2.trans q1.symm)
      · exact pw r j l1 l2 (by omega) (q1.trans q2.symm)
    obtain ⟨us, ys, g1, g2, g3⟩ := N.row j b jb
    exact ⟨us, ys, by rw [List.getElem?_set_ne (Ne.symm z)]; exact g1, by rw [upd_ne nb]; exact g2, g3⟩
/-- from now on all stays as it is -/
theorem Nst.done (N : Nst K Wd B ad H0 H σ G i a0 as xss) : Sta K Wd B ad H0 H σ (G.set i (.d (.list (xss.map PyData.list)))) ∧ Ex (less H (Zs (WL Wd (a0 :: as)) B ad G)) (less H (Zs Wd B ad (G.set i (.d (.list (xss.map PyData.list)))))) := by
  obtain ⟨S1, e1⟩ := N.S.sub (W1 := Wd) fun a z => .inl z
  have nz : ∀ a ∈ a0 :: as, ¬ Zs Wd B ad G a := fun a ha z => by
    rcases z with z | ⟨j, c, g, rfl⟩ | z
    · exact (N.fr a ha).2.2 z
    · exact (N.S.sep j c g).2.2 (.inr ha)
    · exact (N.fr a ha).2.1 z
  have d : Dp K (less H (Zs Wd B ad G)) (.ref a0) (.list (xss.map PyData.list)) := by
    refine .lst (sq_of (less_of (nz a0 List.mem_cons_self) N.o0)) ?_
    have key : ∀ (bs : List Addr) (yss : List (List PyData)), bs.length = yss.length → (∀ (j : Nat) (a : Addr), bs[j]? = some a → a ∈ as ∧ ∃ vs xs, yss[j]? = some xs ∧ H a = some (.lst vs) ∧ DpAll K (less H (Zs (WL Wd (a0 :: as)) B ad G)) vs xs) → DpAll K (less H (Zs Wd B ad G)) (bs.map V.ref) (yss.map PyData.list) := by
      intro bs
      induction bs with
      | nil => intro yss hl _; cases yss with
        | nil => exact .nil
        | cons y ys => simp at hl
      | cons b bs ih =>
        intro yss hl hr
        cases yss with
        | nil => simp at hl
        | cons y ys =>
          obtain ⟨m, vs, xs, g1, g2, g3⟩ := hr 0 b rfl
          cases g1
          exact .cons (.lst (sq_of (less_of (nz b (List.mem_cons_of_mem _ m)) g2)) (dpa_mono e1 g3)) (ih ys (by simpa using hl) fun j a ja => hr (j + 1) a ja)
    exact key as xss N.len fun j a ja => ⟨List.mem_of_getElem? ja, N.row j a ja⟩
  have il : i < σ.length := by rw [N.S.len]; exact (List.getElem?_eq_some_iff.mp N.un).1
  have es : σ.set i (some (.ref a0)) = σ := by
    obtain ⟨l, e⟩ := List.getElem?_eq_some_iff.mp N.sl
    rw [← e, List.set_getElem_self]
  have S2 := S1.setD (i := i) d
  rw [es] at S2
  exact ⟨S2, e1.trans (less_sub fun a z => Zs.set_of (fun _ z => by cases z) z)⟩
/-! ### statements beside such lists -/
def NW (K : Fg) (cs : Cs) (W : WX) (ts : TS) (G : Gam) (i : Nat) (xss : List (List PyData)) (Ψ : Gam → List (List PyData) → Prop) : Prop :=
  ∀ Wd B ad H0 H σ (D : Ends) a0 as, Nst K Wd B ad H0 H σ G i a0 as xss →
    (∀ G' xss', Ψ G' xss' → ∀ H' σ', Nst K Wd B ad H0 H' σ' G' i a0 as xss' → Ex (less H (Zs (WL Wd (a0 :: as)) B ad G)) (less H' (Zs (WL Wd (a0 :: as)) B ad G')) → D.nx σ' H') → ts D σ H
variable {Ψ : Gam → List (List PyData) → Prop} {tu tv tb : TS} {te tf : TE} {k : Nat}
theorem nw_seq (h : NW K cs W tu G i xss fun G' xss' => NW K cs W tv G' i xss' Ψ) : NW K cs W (tSeq tu tv) G i xss Ψ := fun Wd B ad H0 H σ D a0 as N q =>
  h Wd B ad H0 H σ _ a0 as N fun G' xss' h2 H' σ' N2 e => h2 Wd B ad H0 H' σ' D a0 as N2 fun G3 x3 p H3 σ3 N3 e3 => q G3 x3 p H3 σ3 N3 (e.trans e3)
theorem nw_asg (hk : k ≠ i) (h : EW K cs W te G (fun x => Ψ (G.set k (.d x)) xss) noX) : NW K cs W (tAsg te (gName k)) G i xss Ψ := fun Wd B ad H0 H σ D a0 as N q =>
  N.ev h fun x v H2 p N2 d e => q _ _ p H2 _ (N2.asg hk d).1 (e.trans (N2.asg hk d).2)
theorem nw_app {r : Nat} {xs : List PyData} (hr : xss[r]? = some xs) (hl : xs.length ≤ 1000) (h1 : EW K cs W te G (fun x => x = .int r) noX) (h2 : EW K cs W tf G (fun y => Ψ G (xss.set r (xs ++ [y]))) noX) :
    NW K cs W (tDrop (tBM K "list" rAppend (tOp (rIx K) (tVar i) te) (tCons tf tNil))) G i xss Ψ := fun Wd B ad H0 H σ D a0 as N q => by
  refine ⟨_, N.sl, ?_⟩
  refine N.ev h1 fun x v H1 ex N1 d e1 => ?_
  subst ex
  cases d
  have rl : r < as.length := by rw [N.len]; exact (List.getElem?_eq_some_iff.mp hr).1
  have ra : as[r]? = some as[r] := List.getElem?_eq_getElem rl
  refine .inl ⟨a0, as.map V.ref, (r : Int), .ref as[r], rfl, rfl, SqL.of N1.o0, atI_nat (by rw [List.getElem?_map, ra]; rfl), ?_⟩
  obtain ⟨vs, ys, g1, g2, g3⟩ := N1.row r _ ra
  refine ⟨.inl ⟨rfl, vs, SqL.of g2⟩, ?_⟩
  refine N1.ev h2 fun y v H3 p N2 d e2 => ?_
  obtain ⟨us, zs, g4, g5, g6⟩ := N2.row r _ ra
  rw [hr] at g4
  cases g4
  refine ⟨as[r], us, v, rfl, rfl, g5, ?_, ?_⟩
  · rw [dpa_len g6]; exact Nat.lt_of_le_of_lt hl (by decide)
  · exact q _ _ p _ _ (N2.grow ra hr g5 g6 d).1 ((e1.trans e2).trans (N2.grow ra hr g5 g6 d).2)
theorem nw_for (hk : k ≠ i) (h : EW K cs W te G (fun x => ∃ n : Nat, x = .int n ∧ n ≤ 1000000 ∧ ∃ I : Nat → Gam → List (List PyData) → Prop, I 0 G xss ∧ (∀ j G' xss', j < n → I j G' xss' → NW K cs W tb (G'.set k (.d (.int (j : Int)))) i xss' (I (j + 1))) ∧ ∀ G' xss', I n G' xss' → Ψ G' xss') noX) :
    NW K cs W (tFor (iRng1 (tCons te tNil)) (gName k) tb) G i xss Ψ := fun Wd B ad H0 H σ D a0 as N q => by
  refine N.ev h fun x v H1 ⟨n, ex, hn, I, i0, hs, hd⟩ N1 d e1 => ?_
  subst ex
  cases d
  refine ⟨(n : Int), rfl, by omega, by omega, ?_⟩
  refine ⟨fun j m σ' H' => m = n - j ∧ j ≤ n ∧ ∃ G' xss', I j G' xss' ∧ Nst K Wd B ad H0 H' σ' G' i a0 as xss' ∧ Ex (less H (Zs (WL Wd (a0 :: as)) B ad G)) (less H' (Zs (WL Wd (a0 :: as)) B ad G')), ⟨n, rfl, Nat.zero_le _, G, xss, i0, N1, e1⟩, ?_⟩
  rintro j m σ' H' ⟨rfl, hj, G', xss', hI, N', e'⟩
  by_cases hlt : j < n
  · refine .inr ⟨by show j < (n : Int).toNat; omega, fun σ3 H3 => ∃ G3 xss3, I (j + 1) G3 xss3 ∧ Nst K Wd B ad H0 H3 σ3 G3 i a0 as xss3 ∧ Ex (less H (Zs (WL Wd (a0 :: as)) B ad G)) (less H3 (Zs (WL Wd (a0 :: as)) B ad G3)), fun σ3 H3 ⟨G3, x3, a, b, c⟩ => ⟨n - (j + 1), by omega, rfl, hlt, G3, x3, a, b, c⟩, ?_⟩
    rintro x H'' ⟨rfl, rfl⟩
    have dj : Dp K (less H'' (Zs (WL Wd (a0 :: as)) B ad G')) (.int (0 + (j : Int))) (.int (j : Int)) := by rw [Int.zero_add]; exact .int _
    exact hs j G' xss' hlt hI Wd B ad H0 H'' _ _ a0 as (N'.asg hk dj).1 fun G3 x3 p H3 σ3 N3 e3 => ⟨G3, x3, p, N3, (e'.trans (N'.asg hk dj).2).trans e3⟩
  · have en : j = n := by omega
    subst en
    exact .inl ⟨by show (j : Int).toNat ≤ j; omega, q _ _ (hd _ _ hI) _ _ N' e'⟩
/-- a list of new empty lists -/
theorem nest_lc (S : Sta K Wd B ad H0 H σ G) {χ : List PyData → Prop} (h : EW K cs W te G (fun x => ∃ ds, x = .tuple ds ∧ ds.length ≤ 1000 ∧ χ ds) noX) {Q : VK}
    (q : ∀ ds, χ ds → ∀ a0 as H2, as.length = ds.length → Sta K (WL Wd (a0 :: as)) B ad H0 H2 σ G → Ex (less H (Zs Wd B ad G)) (less H2 (Zs (WL Wd (a0 :: as)) B ad G)) → H2 a0 = some (.lst (as.map V.ref)) → (a0 :: as).Nodup → (∀ a ∈ as, H2 a = some (.lst [])) →
      (∀ a ∈ a0 :: as, H0 a = none ∧ ¬ InB B a ∧ ¬ Wd a) → Q (.ref a0) H2) : tLc (iTup K te) (gName k) tYes (tLst tNil) [k] σ H Q :=
  h Wd B ad H0 H σ S _ (fun x ⟨ds, e, hn, p⟩ v H1 S1 e1 d1 => by
    subst e
    obtain ⟨a, vs, rfl, g, ok⟩ := dp_itT d1
    refine ⟨a, rfl, ⟨vs, ex_t less_ex g⟩, fun Dl hD => ?_⟩
    obtain ⟨L0, el0⟩ := S1.lend (o := .lst []) hD
    obtain ⟨f1, f2, f3⟩ := S1.fresh hD
    have ew1 : (fun a => Wd a ∨ a = Dl) = WL Wd [Dl] := funext fun a => by
      show _ = (Wd a ∨ a ∈ [Dl])
      rw [List.mem_singleton]
    rw [ew1] at L0 el0
    refine ⟨fun i m H' => m = ds.length - i ∧ i ≤ ds.length ∧ ∃ as : List Addr, as.length = i ∧ Sta K (WL Wd (Dl :: as)) B ad H0 H' σ G ∧ Ex (less H1 (Zs Wd B ad G)) (less H' (Zs (WL Wd (Dl :: as)) B ad G)) ∧ H' Dl = some (.lst (as.map V.ref)) ∧ (Dl :: as).Nodup ∧
      (∀ a ∈ as, H' a = some (.lst [])) ∧ ∀ a ∈ Dl :: as, H0 a = none ∧ ¬ InB B a ∧ ¬ Wd a, ⟨ds.length, rfl, Nat.zero_le _, [], rfl, L0, by rw [el0]; exact Ex.refl _, upd_same, by simp, (fun a ha => by cases ha), fun a ha => ?_⟩, ?_⟩
    · rw [List.mem_singleton.mp ha]
      exact ⟨f1, f2, fun z => f3 (.inl z)⟩
    rintro i m H' ⟨rfl, hi, as, al, S', e', o', nd, emp, fr⟩
    obtain ⟨k1, k2, k3⟩ := ok H' (Zs (WL Wd (Dl :: as)) B ad G) S'.there e' i
    by_cases hlt : i < ds.length
    · have hx : ds[i]? = some ds[i] := List.getElem?_eq_getElem hlt
      refine .inr ⟨k1 _ hx, fun H' => ∃ as : List Addr, as.length = i + 1 ∧ Sta K (WL Wd (Dl :: as)) B ad H0 H' σ G ∧ Ex (less H1 (Zs Wd B ad G)) (less H' (Zs (WL Wd (Dl :: as)) B ad G)) ∧ H' Dl = some (.lst (as.map V.ref)) ∧ (Dl :: as).Nodup ∧
        (∀ a ∈ as, H' a = some (.lst [])) ∧ ∀ a ∈ Dl :: as, H0 a = none ∧ ¬ InB B a ∧ ¬ Wd a, fun H3 h3 => ⟨ds.length - (i + 1), by omega, rfl, hlt, h3⟩, fun v H'' hyl => ?_⟩
      obtain ⟨ex, dx⟩ := k3 v H'' hyl
      have S2 := S'.ext ex
      refine ⟨by simp [wipe, List.set_set], ?_⟩
      unfold tYes
      dsimp only
      try rw [if_pos rfl]
      refine ⟨Nat.zero_le _, fun p hp => ?_⟩
      obtain ⟨S3, e3⟩ := S2.lend (o := .lst []) hp
      obtain ⟨g1, g2, g3⟩ := S2.fresh hp
      rw [wl_snoc] at S3 e3
      have np : p ∉ Dl :: as := fun z => g3 (.inl (.inr z))
      have nD : Dl ≠ p := fun z => np (z ▸ List.mem_cons_self)
      have o3 : upd H'' p (.lst []) Dl = some (.lst (as.map V.ref)) := by rw [upd_ne nD]; exact ex _ _ o'
      refine ⟨as.map V.ref, o3, by rw [List.length_map]; exact Nat.lt_of_le_of_lt (show as.length ≤ 1000 by omega) (by decide), ?_⟩
      obtain ⟨S4, e4⟩ := S3.foreign (o := .lst (as.map V.ref ++ [.ref p])) (p := Dl) (.inr (by simp)) f1 f2
      refine ⟨as ++ [p], by simp [al], S4, ?_, ?_, ?_, ?_, ?_⟩
      · have z : Ex (less H1 (Zs Wd B ad G)) (less H'' (Zs (WL Wd (Dl :: as)) B ad G)) := e'.trans (less_mono ex)
        rw [← e3, ← e4] at z
        exact z
      · rw [upd_same]; simp
      · have := List.nodup_append.mpr ⟨nd, List.nodup_cons.mpr ⟨List.not_mem_nil, List.nodup_nil⟩, fun a ha b hb z => np (by have e := List.mem_singleton.mp hb; subst e; subst z; exact ha)⟩
        exact this
      · intro b hb
        have nb : b ≠ Dl := by
          rintro rfl
          rcases List.mem_append.mp hb with z | z
          · exact (List.nodup_cons.mp nd).1 z
          · exact nD (List.mem_singleton.mp z)
        rw [upd_ne nb]
        rcases List.mem_append.mp hb with z | z
        · rw [upd_ne (show b ≠ p from fun y => np (by rw [← y]; exact List.mem_cons_of_mem _ z))]
          exact ex _ _ (emp b z)
        · rw [List.mem_singleton.mp z, upd_same]
      · intro b hb
        rcases List.mem_append.mp (show b ∈ (Dl :: as) ++ [p] from hb) with z | z
        · exact fr b z
        · rw [List.mem_singleton.mp z]
          exact ⟨g1, g2, fun y => g3 (.inl (.inl y))⟩
    · have en : i = ds.length := by omega
      subst en
      exact .inl ⟨k2 (Nat.le_refl _), q ds p Dl as H' al S' ((Xb.lz e1).trans e') o' nd emp fr⟩) xp_no
theorem sw_nest {Φ : Out → Prop} {tz : TS} (hi : i < G.length) (h : EW K cs W te G (fun x => ∃ ds, x = .tuple ds ∧ ds.length ≤ 1000 ∧ NW K cs W tu (G.set i .un) i (ds.map fun _ => []) (fun G' xss' => SW K cs W tz (G'.set i (.d (.list (xss'.map PyData.list)))) Φ)) noX) :
    SW K cs W (tSeq (tAsg (tLc (iTup K te) (gName k) tYes (tLst tNil) [k]) (gName i)) (tSeq tu tz)) G Φ := fun Wd B ad H0 H σ D S q => by
  show tLc (iTup K te) (gName k) tYes (tLst tNil) [k] σ H fun x H1 => tu { D with nx := tz D } (σ.set i (some x)) H1
  refine nest_lc S h fun ds p a0 as H2 al S2 e2 o2 nd emp fr => ?_
  have ex : Ex (less H2 (Zs (WL Wd (a0 :: as)) B ad G)) (less H2 (Zs (WL Wd (a0 :: as)) B ad (G.set i .un))) := less_sub fun a z => Zs.set_of (fun _ z => by cases z) z
  have N : Nst K Wd B ad H0 H2 (σ.set i (some (.ref a0))) (G.set i .un) i a0 as (ds.map fun _ => []) :=
    ⟨S2.setU, List.getElem?_set_self (by rw [S.len]; exact hi), List.getElem?_set_self hi, o2, nd, by rw [List.length_map]; exact al, fun j a ja => by
      have jl : j < ds.length := by rw [← al]; exact (List.getElem?_eq_some_iff.mp ja).1
      exact ⟨[], [], by rw [List.getElem?_map, List.getElem?_eq_getElem jl]; rfl, emp a (List.mem_of_getElem? ja), .nil⟩, fr⟩
  refine p Wd B ad H0 H2 _ _ a0 as N fun G' xss' hz H' σ' N' e' => ?_
  obtain ⟨S3, e3⟩ := N'.done
  exact hz Wd B ad H0 H' σ' D S3 fun o po => (q o po).mono (((e2.trans ex).trans e').trans e3)
end


end
section
open PySem PyProof.Rows L2 Evl U.Hull

section
variable {K : Fg} {cs : Cs} {gs : Gs} {φ : PyData → Prop} {A : Rs → Prop} {ε : Xw → Prop} {w : World} {W : WX}
/-! ### the law's map behind a map -/
def P_lends : Pr := fun ds A => ∃ (a b n st n2 : Nat) (m k : List (List Fr)), ds = [mp m, mp k, .int (st : Int)] ∧ Mp a n st m ∧ Mp b n2 n k ∧ (n = 1 ∨ n = 2) ∧ (st = 1 ∨ st = 2) ∧ (n2 = 1 ∨ n2 = 2) ∧ a ≤ 100 ∧ b ≤ 100 ∧ A (.ok (mp (behF st m k)))
def t__law_ends (K : Fg) : TS := (tSeq (tAsg (tCB (rTupQ K) (tCons (tLc (iRng1 (tCons (tVar 2) tNil)) (gName 6) tYes (tTup (tCons (tC (V.int 0)) (tCons (tC (V.int 1)) tNil))) [6]) tNil)) (gName 3))
  (tSeq (tAsg (tCall (spW0 K P_lled) [] E0 (tCons (tVar 1) (tCons (tCall (spW0 K P_lled) [] E0 (tCons (tVar 0) (tCons (tVar 3) tNil))) tNil))) (gName 4))
  (tSeq (tAsg (tLc (iTup K (tVar 1)) (gName 9) tYes (tLst tNil) [9]) (gName 5))
  (tSeq (tFor (iRng1 (tCons (tVar 2) tNil)) (gName 6) (tSeq (tAsg (tOp (rCatA K) (tOp (rCatA K) (tSl (rSlA K) (tVar 3) tNoPart (tPart (tVar 6))) (tTup (tCons (tTup (tCons (tC (V.int 1)) (tCons (tC (V.int 1)) tNil))) tNil))) (tSl (rSlA K) (tVar 3) (tPart (tOp rAddI (tVar 6) (tC (V.int 1)))) tNoPart)) (gName 7))
  (tSeq (tAsg (tCall (spW0 K P_lled) [] E0 (tCons (tVar 1) (tCons (tCall (spW0 K P_lled) [] E0 (tCons (tVar 0) (tCons (tVar 7) tNil))) tNil))) (gName 8))
  (tFor (iRng1 (tCons (tCB (rLenQ K) (tCons (tVar 1) tNil)) tNil)) (gName 9) (tDrop (tBM K "list" rAppend (tOp (rIx K) (tVar 5) (tVar 9)) (tCons (tCall (spP K P_lsub) [] E0 (tCons (tOp (rIx K) (tVar 8) (tVar 9)) (tCons (tOp (rIx K) (tVar 4) (tVar 9)) tNil))) tNil)))))))
  (tRet (tCB (rTupQ K) (tCons (tLc (iRng1 (tCons (tCB (rLenQ K) (tCons (tVar 1) tNil)) tNil)) (gName 9) tYes (tCB (rTupQ K) (tCons (tOp (rCatL K) (tOp (rIx K) (tVar 5) (tVar 9)) (tLst (tCons (tOp (rIx K) (tVar 4) (tVar 9)) tNil))) tNil)) [9]) tNil)))))))
-- slots of _law_ends: 0 _law_first, 1 _law_then, 2 _law_start, 3 _law_none, 4 _law_last, 5 _law_found, 6 _law_at, 7 _law_unit, 8 _law_there, 9 _law_row
theorem ln__law_ends : ∀ ds A, P_lends ds A → ds.length = 3 := fun ds A h => by obtain ⟨_, _, _, _, _, _, _, rfl, _⟩ := h; rfl
def unitF (st i : Nat) : List Fr := List.replicate i (0, 1) ++ (1, 1) :: List.replicate (st - (i + 1)) (0, 1)
def zeroF (st : Nat) : List Fr := List.replicate st (0, 1)
theorem zero_last {b st : Nat} {r : List Fr} (hst : st = 1 ∨ st = 2) (lr : r.length = st + 1) (gr : Gds b r) (z0 : Gds 1 (zeroF st)) : r.take st ++ [rowF r (zeroF st)] = r := by
  have hv := rowF_val hst lr gr (by simp [zeroF]) z0
  have hg := rowF_gd lr gr z0
  rcases hst with rfl | rfl
  · obtain ⟨x, y, rfl⟩ := len2 lr
    have : rowF [x, y] (zeroF 1) = y := gd_inj hg (gr y (by simp)) (by
      rw [hv]
      show val y + val x * val (0, 1) = val y
      rw [val_none]; grind)
    rw [this]; rfl
  · obtain ⟨x, y, z, rfl⟩ := len3 lr
    have : rowF [x, y, z] (zeroF 2) = z := gd_inj hg (gr z (by simp)) (by
      rw [hv]
      show val z + val x * val (0, 1) + val y * val (0, 1) = val z
      rw [val_none]; grind)
    rw [this]; rfl
theorem unit_col {b st i : Nat} {r : List Fr} (hst : st = 1 ∨ st = 2) (lr : r.length = st + 1) (gr : Gds b r) (z0 : Gds 1 (zeroF st)) (u0 : Gds 1 (unitF st i)) (hi : i < st) : r[i]? = some (subF (rowF r (unitF st i)) (rowF r (zeroF st))) := by
  have hv := rowF_val hst lr gr (by simp [zeroF]) z0
  have hg := rowF_gd lr gr z0
  have hv' := rowF_val hst lr gr (by simp [unitF]; omega) u0
  have hg' := rowF_gd lr gr u0
  have hs := val_sub hg' hg
  rw [hv, hv'] at hs
  have il : i < r.length := by omega
  rw [List.getElem?_eq_getElem il]
  refine congrArg some (gd_inj (gr _ (List.getElem_mem _)) (hg'.sub hg) ?_)
  rw [hs]
  rcases hst with rfl | rfl
  · obtain ⟨x, y, rfl⟩ := len2 lr
    obtain rfl : i = 0 := by omega
    show val x = (val y + val x * val (1, 1)) - (val y + val x * val (0, 1))
    rw [val_none, val_one]; grind
  · obtain ⟨x, y, z, rfl⟩ := len3 lr
    have : i = 0 ∨ i = 1 := by omega
    rcases this with rfl | rfl
    · show val x = (val z + val x * val (1, 1) + val y * val (0, 1)) - (val z + val x * val (0, 1) + val y * val (0, 1))
      rw [val_none, val_one]; grind
    · show val y = (val z + val x * val (0, 1) + val y * val (1, 1)) - (val z + val x * val (0, 1) + val y * val (0, 1))
      rw [val_none, val_one]; grind
def RowsAt (c : List (List Fr)) (i j : Nat) (xss : List (List PyData)) : Prop := xss.length = c.length ∧ ∀ (q : Nat) (r : List Fr), c[q]? = some r → xss[q]? = some ((r.take (if q < j then i + 1 else i)).map fr)
theorem rows_step {c : List (List Fr)} {i j : Nat} {xss : List (List PyData)} {r : List Fr} {x : Fr} (h : RowsAt c i j xss) (hq : c[j]? = some r) (hc : r[i]? = some x) : RowsAt c i (j + 1) (xss.set j ((r.take i).map fr ++ [fr x])) := by
  refine ⟨by rw [List.length_set]; exact h.1, fun q s hs => ?_⟩
  by_cases z : q = j
  · subst z
    rw [hq] at hs
    cases hs
    rw [List.getElem?_set_self (by rw [h.1]; exact (List.getElem?_eq_some_iff.mp hq).1), if_pos (Nat.lt_succ_self q), List.take_succ, hc]
    simp
  · rw [List.getElem?_set_ne (Ne.symm z), h.2 q s hs]
    by_cases y : q < j
    · rw [if_pos y, if_pos (by omega)]
    · rw [if_neg y, if_neg (by omega)]
theorem rows_end {c : List (List Fr)} {i n : Nat} {xss : List (List PyData)} (h : RowsAt c i n xss) (hn : c.length = n) : RowsAt c (i + 1) 0 xss := by
  refine ⟨h.1, fun q s hs => ?_⟩
  have := (List.getElem?_eq_some_iff.mp hs).1
  rw [h.2 q s hs, if_pos (by omega), if_neg (by omega)]
theorem sw_opq {t1 t2 t3 : TS} {G : Gam} {Φ : Out → Prop} (h : ∀ r, r = t3 → SW K cs W (tSeq t1 (tSeq t2 r)) G Φ) : SW K cs W (tSeq t1 (tSeq t2 t3)) G Φ := h _ rfl
theorem rd__law_ends {ds A} (h : P_lends ds A) : SW K cs W0 (t__law_ends K) (frame 10 ds) (rts0 A) := by
  obtain ⟨a, b, n, st, n2, m, k, rfl, M, N, hn, hst, hn2, ha, hb, h⟩ := h
  have z0 : Gds 1 (zeroF st) := fun x hx => by rw [List.eq_of_mem_replicate hx]; exact gd_none
  have u0 : ∀ i, Gds 1 (unitF st i) := fun i x hx => by
    unfold unitF at hx
    rcases List.mem_append.mp hx with z | z
    · rw [List.eq_of_mem_replicate z]; exact gd_none
    · rcases List.mem_cons.mp z with rfl | z
      · exact gd_one
      · rw [List.eq_of_mem_replicate z]; exact gd_none
  have C := beh_mp M N
  have mz : ∀ {x y : Nat}, x ≤ 2 → y ≤ 300 → x * y ≤ 600 := fun h1 h2 => Nat.le_trans (Nat.mul_le_mul h1 h2) (by decide)
  unfold t__law_ends
  refine sw_opq fun r hr => ?_
  refine sw_seq ?_
  walk_at "w"
  rw [show ((st : Int)).toNat = st from Int.toNat_natCast st, rng_map]
  refine lcM (fun _ => fr (0, 1)) (by rw [List.length_range]; omega) (unk1 rfl) (fun y my => ?_) ?_
  · walk_at "w"
    rfl
  walk_at "w"
  have ez : (List.range st).map (fun _ => fr (0, 1)) = (zeroF st).map fr := by
    unfold zeroF
    rw [List.map_replicate]
    have := List.map_const' (l := List.range st) (b := fr (0, 1))
    rw [List.length_range] at this
    exact this
  rw [ez]
  have ma : st * (a + 1 + 1) ≤ 600 := mz (by omega) (by omega)
  obtain ⟨gz, lz⟩ := ledF_gd M z0
  refine c_lled M (by omega) ⟨by omega, by omega⟩ z0 (by simp [zeroF]) ?_
  walk_at "w"
  have mb : n * (b + (a + st * (a + 1 + 1)) + 1) ≤ 2 * 801 := Nat.mul_le_mul (by omega) (by omega)
  refine c_lled N (by omega) ⟨by omega, by omega⟩ gz lz ?_
  walk_at "w"
  subst hr
  refine sw_nest (i := 5) ?_ ?_
  · show 5 < 10
    decide
  walk_at "w"
  refine ⟨by rw [List.length_map, N.len]; omega, ?_⟩
  rw [← led_beh M N hn hst z0 (by simp [zeroF])]
  refine nw_for (by decide) ?_
  walk_at "w"
  refine ⟨st, rfl, by omega, fun i G xss => (∃ e6 e7 e8 e9, G = [.d (mp m), .d (mp k), .d (.int (st : Int)), .d (frs (zeroF st)), .d (frs (ledF (behF st m k) (zeroF st))), .un, e6, e7, e8, e9]) ∧ RowsAt (behF st m k) i 0 xss, ⟨⟨_, _, _, _, rfl⟩, ?_⟩, ?_, ?_⟩
  · refine ⟨by simp [behF], fun q r hq => ?_⟩
    have ql : q < k.length := by
      have := (List.getElem?_eq_some_iff.mp hq).1
      simpa [behF] using this
    rw [if_neg (Nat.not_lt_zero q), List.take_zero, List.getElem?_map, List.getElem?_map, List.getElem?_eq_getElem ql]
    rfl
  · rintro i G xss hi ⟨⟨e6, e7, e8, e9, rfl⟩, hx⟩
    refine nw_seq (nw_asg (by decide) ?_)
    walk_at "w"
    have c1 : cutD ((zeroF st).map fr) none (some (i : Int)) = (List.replicate i ((0, 1) : Fr)).map fr := by
      rcases hst with rfl | rfl
      · obtain rfl : i = 0 := by omega
        rfl
      · have : i = 0 ∨ i = 1 := by omega
        rcases this with rfl | rfl <;> rfl
    have c2 : cutD ((zeroF st).map fr) (some ((i : Int) + 1)) none = (List.replicate (st - (i + 1)) ((0, 1) : Fr)).map fr := by
      rcases hst with rfl | rfl
      · obtain rfl : i = 0 := by omega
        rfl
      · have : i = 0 ∨ i = 1 := by omega
        rcases this with rfl | rfl <;> rfl
    rw [c1]
    refine ⟨by simp; omega, ?_⟩
    walk_at "w"
    rw [c2]
    refine ⟨by simp; omega, ?_⟩
    have eu : (List.replicate i ((0, 1) : Fr)).map fr ++ [PyData.tuple [.int 1, .int 1]] ++ (List.replicate (st - (i + 1)) ((0, 1) : Fr)).map fr = (unitF st i).map fr := by
      unfold unitF
      rw [List.map_append, List.map_cons, List.append_assoc]
      rfl
    rw [eu]
    obtain ⟨gu, lu⟩ := ledF_gd M (u0 i)
    have lun : (unitF st i).length = st := by simp [unitF]; omega
    refine nw_seq (nw_asg (by decide) ?_)
    walk_at "w"
    refine c_lled M (by omega) ⟨by omega, by omega⟩ (u0 i) lun ?_
    walk_at "w"
    refine c_lled N (by omega) ⟨by omega, by omega⟩ gu lu ?_
    walk_at "w"
    rw [← led_beh M N hn hst (u0 i) lun]
    refine nw_for (by decide) ?_
    walk_at "w"
    have mC : n * (b + a + 1) ≤ 2 * 201 := Nat.mul_le_mul (by omega) (by omega)
    refine ⟨n2, by rw [List.length_map, N.len], by omega, fun j G xss => (∃ e9, G = [.d (mp m), .d (mp k), .d (.int (st : Int)), .d (frs (zeroF st)), .d (frs (ledF (behF st m k) (zeroF st))), .un, .d (.int (i : Int)), .d (frs (unitF st i)), .d (frs (ledF (behF st m k) (unitF st i))), e9]) ∧ RowsAt (behF st m k) i j xss, ⟨⟨_, rfl⟩, hx⟩, ?_, ?_⟩
    · rintro j G xss' hj ⟨⟨e9, rfl⟩, hx⟩
      have jl : j < (behF st m k).length := by rw [C.len]; exact hj
      have hq : (behF st m k)[j]? = some (behF st m k)[j] := List.getElem?_eq_getElem jl
      have hr := C.row _ (List.mem_of_getElem? hq)
      have hx2 := hx.2 j _ hq
      rw [if_neg (Nat.lt_irrefl j)] at hx2
      have g1 := rowF_gd hr.1 hr.2 z0
      have g2 := rowF_gd hr.1 hr.2 (u0 i)
      have mB : st * (1 + n * (b + a + 1) + b + 1 + 1 + 1) ≤ 2 * 600 := Nat.mul_le_mul (by omega) (by omega)
      have hl1 : (ledF (behF st m k) (unitF st i))[j]? = some (rowF (behF st m k)[j] (unitF st i)) := by
        unfold ledF
        rw [List.getElem?_map, hq]
        rfl
      have hl2 : (ledF (behF st m k) (zeroF st))[j]? = some (rowF (behF st m k)[j] (zeroF st)) := by
        unfold ledF
        rw [List.getElem?_map, hq]
        rfl
      refine nw_app hx2 (by simp; omega) ?_ ?_
      · walk_at "w"
        rfl
      · walk_at "w"
        refine atM hl1 ?_
        walk_at "w"
        refine atM hl2 ?_
        walk_at "w"
        exact ⟨⟨_, rfl⟩, rows_step hx hq (unit_col hst hr.1 hr.2 z0 (u0 i) hi)⟩
    · rintro G xss' ⟨⟨e9, rfl⟩, hx⟩
      exact ⟨⟨_, _, _, _, rfl⟩, rows_end hx C.len⟩
  · rintro G xss ⟨⟨e6, e7, e8, e9, rfl⟩, hx⟩
    refine sw_wk (G1 := [.d (mp m), .d (mp k), .d (.int (st : Int)), .d (frs (zeroF st)), .d (frs (ledF (behF st m k) (zeroF st))), .d (.list (xss.map PyData.list)), e6, e7, e8, .un]) (.cons (.cons (.cons (.cons (.cons (.cons (.cons (.cons (.cons (.drop .nil)))))))))) ?_
    walk_at "w"
    refine ⟨by rw [List.length_map, N.len]; omega, ?_⟩
    rw [Int.toNat_natCast, List.length_map, N.len, rng_map]
    refine lcM (fun q : Nat => frs ((behF st m k).getD q [])) (by rw [List.length_range]; omega) (unk1 rfl) (fun q mq => ?_) ?_
    · have ql : q < (behF st m k).length := by rw [C.len]; exact List.mem_range.mp mq
      have hq : (behF st m k)[q]? = some (behF st m k)[q] := List.getElem?_eq_getElem ql
      have hr := C.row _ (List.mem_of_getElem? hq)
      have hx2 := hx.2 q _ hq
      rw [if_neg (Nat.not_lt_zero q)] at hx2
      walk_at "w"
      refine atM hx2 ?_
      walk_at "w"
      have hl : (ledF (behF st m k) (zeroF st))[q]? = some (rowF (behF st m k)[q] (zeroF st)) := by
        unfold ledF
        rw [List.getElem?_map, hq]
        rfl
      refine atM hl ?_
      walk_at "w"
      refine ⟨by simp; omega, ?_⟩
      walk_at "w"
      show PyData.tuple (((behF st m k)[q].take st).map fr ++ [fr (rowF (behF st m k)[q] (zeroF st))]) = _
      have e := zero_last hst hr.1 hr.2 z0
      have e2 : ((behF st m k)[q].take st).map fr ++ [fr (rowF (behF st m k)[q] (zeroF st))] = (behF st m k)[q].map fr := by
        rw [← List.map_singleton (f := fr), ← List.map_append, e]
      rw [e2, List.getD_eq_getElem?_getD, hq]
      rfl
    · walk_at "w"
      have e : (List.range n2).map (fun q => frs ((behF st m k).getD q [])) = (behF st m k).map frs := by
        refine List.ext_getElem? fun q => ?_
        rw [List.getElem?_map, List.getElem?_map]
        by_cases z : q < n2
        · have z2 : q < (behF st m k).length := by rw [C.len]; exact z
          rw [List.getElem?_range z]
          show some (frs ((behF st m k).getD q [])) = _
          rw [List.getD_eq_getElem?_getD, List.getElem?_eq_getElem z2]
          rfl
        · rw [List.getElem?_eq_none (by simp; omega), List.getElem?_eq_none (by rw [C.len]; omega)]
          rfl
      rw [e]
      exact h
end


end
section
open PySem PyProof.Rows L2 Evl U.Hull

section
variable {K : Fg} {cs : Cs} {gs : Gs} {φ : PyData → Prop} {A : Rs → Prop} {ε : Xw → Prop} {w : World} {W : WX}
def P_told17 : Pr := fun ds A => ∃ (a b n st n2 st2 : Nat) (m k : List (List Fr)), ds = [mp m, mp k] ∧ Mp a n st m ∧ Mp b n2 st2 k ∧ 1 ≤ n ∧ n ≤ 100 ∧ 1 ≤ n2 ∧ n2 ≤ 100 ∧ st ≤ 100 ∧ st2 ≤ 100 ∧ (st2 ≠ n → A (.ok (.list [.str "OtherRoom"]))) ∧ (st2 = n → 1 + n * (b + a + 1) + b + 1 ≤ 1900 ∧ A (.ok (mp (behF st m k))))
def t_told17 (K : Fg) (cs : Cs) : TS := (tTryAs K (.ref (cs "OtherRoom")) 2 (fun W => (tRet (tCallSD (spW K cs P_behind) [] (WE W) (tCons (tVar 0) (tCons (tVar 1) tNil))))) (fun a cls d => (tRet (tLst (tCons (tXf a cls d (cs "OtherRoom") "word" (tVar 2)) tNil)))))
-- slots of told17: 0 _law_first, 1 _law_then, 2 why
theorem ln_told17 : ∀ ds A, P_told17 ds A → ds.length = 2 := fun ds A h => by obtain ⟨_, _, _, _, _, _, _, _, rfl, _⟩ := h; rfl
theorem rd_told17 {ds A} (em : PySem.W.exmOne K (.ref (cs "OtherRoom")) (.ref (cs "OtherRoom")) = some true) (h : P_told17 ds A) : SW K cs W0 (t_told17 K cs) (frame 3 ds) (rts0 A) := by
  obtain ⟨a, b, n, st, n2, st2, m, k, rfl, M, N, q1, q2, q3, q4, q5, q6, h1, h2⟩ := h
  unfold t_told17
  refine sw_try fun W' => ?_
  walk_at "w"
  refine ⟨a, b, n, st, n2, st2, m, k, rfl, M, N, q1, q2, q3, q4, q5, q6, fun e => ?_, fun e => ?_⟩
  · refine ⟨em, fun a d => ?_⟩
    walk_at "w"
    refine ew_xfS rfl rfl ?_
    exact h1 e
  · refine ⟨(h2 e).1, ?_⟩
    walk_at "w"
    exact (h2 e).2
end


end
namespace Law
def topS (i : Nat) : Stmt := PySem.Challenge.pw_umbrage_k17_maps_behind_maps.main.body.getD i (.Pass ⟨0, 0, 0, 0⟩)
def clsS (i j : Nat) : Stmt := match topS i with | .ClassDef _ _ _ b _ _ _ _ _ _ _ => b.getD j (.Pass ⟨0, 0, 0, 0⟩) | _ => .Pass ⟨0, 0, 0, 0⟩
abbrev si_Unfit : Stmt := clsS 1 0
theorem sci_Unfit : FnScope ["self", "word"] ["self", "word"] (defScope si_Unfit) := ⟨rfl, rfl, rfl, by decide +kernel, rfl, by decide +kernel, by decide +kernel⟩
abbrev si_OtherRoom : Stmt := clsS 2 0
theorem sci_OtherRoom : FnScope ["self"] ["self"] (defScope si_OtherRoom) := ⟨rfl, rfl, rfl, by decide +kernel, rfl, by decide +kernel, by decide +kernel⟩
abbrev si_Flat : Stmt := clsS 3 0
theorem sci_Flat : FnScope ["self"] ["self"] (defScope si_Flat) := ⟨rfl, rfl, rfl, by decide +kernel, rfl, by decide +kernel, by decide +kernel⟩
abbrev s__law_bag : Stmt := topS 14
theorem sc__law_bag : FnScope ["_law_script"] ["_law_script"] (defScope s__law_bag) := ⟨rfl, rfl, rfl, by decide +kernel, rfl, by decide +kernel, by decide +kernel⟩
abbrev s__law_gcd : Stmt := topS 17
theorem sc__law_gcd : FnScope ["_law_one", "_law_other", "_law_kept"] ["_law_one", "_law_other"] (defScope s__law_gcd) := ⟨rfl, rfl, rfl, by decide +kernel, rfl, by decide +kernel, by decide +kernel⟩
abbrev s__law_frac : Stmt := topS 18
theorem sc__law_frac : FnScope ["_law_above", "_law_below", "_law_divisor"] ["_law_above", "_law_below"] (defScope s__law_frac) := ⟨rfl, rfl, rfl, by decide +kernel, rfl, by decide +kernel, by decide +kernel⟩
abbrev s__law_pull : Stmt := topS 15
theorem sc__law_pull : FnScope ["_law_bag_here", "_law_size", "_law_cells", "_law_cell", "_law_spot"] ["_law_bag_here", "_law_size"] (defScope s__law_pull) := ⟨rfl, rfl, rfl, by decide +kernel, rfl, by decide +kernel, by decide +kernel⟩
abbrev s__law_part : Stmt := topS 22
theorem sc__law_part : FnScope ["_law_bag_here"] ["_law_bag_here"] (defScope s__law_part) := ⟨rfl, rfl, rfl, by decide +kernel, rfl, by decide +kernel, by decide +kernel⟩
abbrev s__law_whole_part : Stmt := topS 23
theorem sc__law_whole_part : FnScope ["_law_bag_here"] ["_law_bag_here"] (defScope s__law_whole_part) := ⟨rfl, rfl, rfl, by decide +kernel, rfl, by decide +kernel, by decide +kernel⟩
abbrev s__law_entry : Stmt := topS 26
theorem sc__law_entry : FnScope ["_law_bag_here"] ["_law_bag_here"] (defScope s__law_entry) := ⟨rfl, rfl, rfl, by decide +kernel, rfl, by decide +kernel, by decide +kernel⟩
abbrev s__law_map : Stmt := topS 24
theorem sc__law_map : FnScope ["_law_bag_here", "_law_start", "_law_goal", "_law_row", "_law_at"] ["_law_bag_here", "_law_start", "_law_goal"] (defScope s__law_map) := ⟨rfl, rfl, rfl, by decide +kernel, rfl, by decide +kernel, by decide +kernel⟩
abbrev s__law_add : Stmt := topS 19
theorem sc__law_add : FnScope ["_law_one", "_law_other"] ["_law_one", "_law_other"] (defScope s__law_add) := ⟨rfl, rfl, rfl, by decide +kernel, rfl, by decide +kernel, by decide +kernel⟩
abbrev s__law_mul : Stmt := topS 21
theorem sc__law_mul : FnScope ["_law_one", "_law_other"] ["_law_one", "_law_other"] (defScope s__law_mul) := ⟨rfl, rfl, rfl, by decide +kernel, rfl, by decide +kernel, by decide +kernel⟩
abbrev s__law_led : Stmt := topS 25
theorem sc__law_led : FnScope ["_law_kind", "_law_spot", "_law_found", "_law_row", "_law_total", "_law_at"] ["_law_kind", "_law_spot"] (defScope s__law_led) := ⟨rfl, rfl, rfl, by decide +kernel, rfl, by decide +kernel, by decide +kernel⟩
abbrev s__law_sub : Stmt := topS 20
theorem sc__law_sub : FnScope ["_law_one", "_law_other"] ["_law_one", "_law_other"] (defScope s__law_sub) := ⟨rfl, rfl, rfl, by decide +kernel, rfl, by decide +kernel, by decide +kernel⟩
abbrev s__law_ends : Stmt := topS 28
theorem sc__law_ends : FnScope ["_law_first", "_law_then", "_law_start", "_law_none", "_law_last", "_law_found", "_law_at", "_law_unit", "_law_there", "_law_row"] ["_law_first", "_law_then", "_law_start"] (defScope s__law_ends) := ⟨rfl, rfl, rfl, by decide +kernel, rfl, by decide +kernel, by decide +kernel⟩
abbrev s__law_like : Stmt := topS 16
theorem sc__law_like : FnScope ["_law_found", "_law_due", "_law_at"] ["_law_found", "_law_due"] (defScope s__law_like) := ⟨rfl, rfl, rfl, by decide +kernel, rfl, by decide +kernel, by decide +kernel⟩
abbrev s_room_from : Stmt := topS 11
theorem sc_room_from : FnScope ["way"] ["way"] (defScope s_room_from) := ⟨rfl, rfl, rfl, by decide +kernel, rfl, by decide +kernel, by decide +kernel⟩
abbrev s_shared : Stmt := topS 5
theorem sc_shared : FnScope ["one", "other"] ["one", "other"] (defScope s_shared) := ⟨rfl, rfl, rfl, by decide +kernel, rfl, by decide +kernel, by decide +kernel⟩
abbrev s_part : Stmt := topS 6
theorem sc_part : FnScope ["above", "below", "divisor"] ["above", "below"] (defScope s_part) := ⟨rfl, rfl, rfl, by decide +kernel, rfl, by decide +kernel, by decide +kernel⟩
abbrev s_plus : Stmt := topS 7
theorem sc_plus : FnScope ["one", "other"] ["one", "other"] (defScope s_plus) := ⟨rfl, rfl, rfl, by decide +kernel, rfl, by decide +kernel, by decide +kernel⟩
abbrev s_times : Stmt := topS 8
theorem sc_times : FnScope ["one", "other"] ["one", "other"] (defScope s_times) := ⟨rfl, rfl, rfl, by decide +kernel, rfl, by decide +kernel, by decide +kernel⟩
abbrev s_behind : Stmt := topS 12
theorem sc_behind : FnScope ["first", "then", "found", "row", "made", "last", "step", "inner", "steps", "one", "other"] ["first", "then"] (defScope s_behind) := ⟨rfl, rfl, rfl, by decide +kernel, rfl, by decide +kernel, by decide +kernel⟩
abbrev s__law_told : Stmt := topS 27
theorem sc__law_told : FnScope ["_law_first", "_law_then", "why"] ["_law_first", "_law_then"] (defScope s__law_told) := ⟨rfl, rfl, rfl, by decide +kernel, rfl, by decide +kernel, by decide +kernel⟩
abbrev s_law : Stmt := topS 29
theorem sc_law : FnScope ["_law_script", "_law_bag_here", "_law_turn", "_law_start", "_law_middle_room", "_law_first", "_law_then_room", "_law_then", "_law_due"] ["_law_script"] (defScope s_law) := ⟨rfl, rfl, rfl, by decide +kernel, rfl, by decide +kernel, by decide +kernel⟩
structure TX (K : Fg) (mg : Str → Option Value) where
  cs : Cs
  ox_Unfit : OxK K (cs "Unfit")
  kC_Unfit : PySem.W.keepIn K (.ref (cs "Unfit")) = true
  fI_Unfit : Addr
  dI_Unfit : FuncData
  FI_Unfit : FunD K "__init__" "Unfit.__init__" (defArgs si_Unfit) (defBody si_Unfit) (defScope si_Unfit) [V.str "Unfit"] [] fI_Unfit dI_Unfit
  i_Unfit : PySem.W.findIn K (.ref (cs "Unfit")) "__init__" = some (some (.ref fI_Unfit))
  ti_Unfit : PySem.W.typeIn K (.ref fI_Unfit) = some (.type "function")
  bi_Unfit : Binds K dI_Unfit ["self", "word"] []
  g_Unfit : mg "Unfit" = some (.ref (cs "Unfit"))
  xf_Unfit : XfC K (cs "Unfit")
  nw_Unfit_word : PySem.W.findIn K (.ref (cs "Unfit")) "word" = some none
  cf_Unfit : ClsF K cs "Unfit" ["word"]
  rd_Unfit : PySem.W.readsIn K (cs "Unfit") (.type "type") = true
  ga_Unfit : PySem.W.specialIn K (.ref (cs "Unfit")) "__getattribute__" = some (some (.builtin "type.__getattribute__"))
  fc_Unfit : PySem.W.findCls K (.ref (cs "Unfit")) (.type "type") "__init__" = some (.val (.ref fI_Unfit))
  ox_OtherRoom : OxK K (cs "OtherRoom")
  kC_OtherRoom : PySem.W.keepIn K (.ref (cs "OtherRoom")) = true
  fI_OtherRoom : Addr
  dI_OtherRoom : FuncData
  FI_OtherRoom : Fun K "__init__" "OtherRoom.__init__" si_OtherRoom fI_OtherRoom dI_OtherRoom
  i_OtherRoom : PySem.W.findIn K (.ref (cs "OtherRoom")) "__init__" = some (some (.ref fI_OtherRoom))
  ti_OtherRoom : PySem.W.typeIn K (.ref fI_OtherRoom) = some (.type "function")
  bi_OtherRoom : Binds K dI_OtherRoom ["self"] []
  g_OtherRoom : mg "OtherRoom" = some (.ref (cs "OtherRoom"))
  xf_OtherRoom : XfC K (cs "OtherRoom")
  nw_OtherRoom_word : PySem.W.findIn K (.ref (cs "OtherRoom")) "word" = some none
  cf_OtherRoom : ClsF K cs "OtherRoom" ["word"]
  ox_Flat : OxK K (cs "Flat")
  kC_Flat : PySem.W.keepIn K (.ref (cs "Flat")) = true
  fI_Flat : Addr
  dI_Flat : FuncData
  FI_Flat : Fun K "__init__" "Flat.__init__" si_Flat fI_Flat dI_Flat
  i_Flat : PySem.W.findIn K (.ref (cs "Flat")) "__init__" = some (some (.ref fI_Flat))
  ti_Flat : PySem.W.typeIn K (.ref fI_Flat) = some (.type "function")
  bi_Flat : Binds K dI_Flat ["self"] []
  g_Flat : mg "Flat" = some (.ref (cs "Flat"))
  xf_Flat : XfC K (cs "Flat")
  nw_Flat_word : PySem.W.findIn K (.ref (cs "Flat")) "word" = some none
  cf_Flat : ClsF K cs "Flat" ["word"]
  em_OtherRoom_OtherRoom : PySem.W.exmOne K (.ref (cs "OtherRoom")) (.ref (cs "OtherRoom")) = some true
  a__law_bag : Addr
  d__law_bag : FuncData
  F__law_bag : Fun K "_law_bag" "_law_bag" s__law_bag a__law_bag d__law_bag
  g__law_bag : mg "_law_bag" = some (.ref a__law_bag)
  b__law_bag : Binds K d__law_bag ["_law_script"] []
  a__law_gcd : Addr
  d__law_gcd : FuncData
  F__law_gcd : Fun K "_law_gcd" "_law_gcd" s__law_gcd a__law_gcd d__law_gcd
  g__law_gcd : mg "_law_gcd" = some (.ref a__law_gcd)
  b__law_gcd : Binds K d__law_gcd ["_law_one", "_law_other"] []
  a__law_frac : Addr
  d__law_frac : FuncData
  F__law_frac : Fun K "_law_frac" "_law_frac" s__law_frac a__law_frac d__law_frac
  g__law_frac : mg "_law_frac" = some (.ref a__law_frac)
  b__law_frac : Binds K d__law_frac ["_law_above", "_law_below"] []
  a__law_pull : Addr
  d__law_pull : FuncData
  F__law_pull : Fun K "_law_pull" "_law_pull" s__law_pull a__law_pull d__law_pull
  g__law_pull : mg "_law_pull" = some (.ref a__law_pull)
  b__law_pull : Binds K d__law_pull ["_law_bag_here", "_law_size"] []
  a__law_part : Addr
  d__law_part : FuncData
  F__law_part : Fun K "_law_part" "_law_part" s__law_part a__law_part d__law_part
  g__law_part : mg "_law_part" = some (.ref a__law_part)
  b__law_part : Binds K d__law_part ["_law_bag_here"] []
  a__law_whole_part : Addr
  d__law_whole_part : FuncData
  F__law_whole_part : Fun K "_law_whole_part" "_law_whole_part" s__law_whole_part a__law_whole_part d__law_whole_part
  g__law_whole_part : mg "_law_whole_part" = some (.ref a__law_whole_part)
  b__law_whole_part : Binds K d__law_whole_part ["_law_bag_here"] []
  a__law_entry : Addr
  d__law_entry : FuncData
  F__law_entry : Fun K "_law_entry" "_law_entry" s__law_entry a__law_entry d__law_entry
  g__law_entry : mg "_law_entry" = some (.ref a__law_entry)
  b__law_entry : Binds K d__law_entry ["_law_bag_here"] []
  a__law_map : Addr
  d__law_map : FuncData
  F__law_map : Fun K "_law_map" "_law_map" s__law_map a__law_map d__law_map
  g__law_map : mg "_law_map" = some (.ref a__law_map)
  b__law_map : Binds K d__law_map ["_law_bag_here", "_law_start", "_law_goal"] []
  a__law_add : Addr
  d__law_add : FuncData
  F__law_add : Fun K "_law_add" "_law_add" s__law_add a__law_add d__law_add
  g__law_add : mg "_law_add" = some (.ref a__law_add)
  b__law_add : Binds K d__law_add ["_law_one", "_law_other"] []
  a__law_mul : Addr
  d__law_mul : FuncData
  F__law_mul : Fun K "_law_mul" "_law_mul" s__law_mul a__law_mul d__law_mul
  g__law_mul : mg "_law_mul" = some (.ref a__law_mul)
  b__law_mul : Binds K d__law_mul ["_law_one", "_law_other"] []
  a__law_led : Addr
  d__law_led : FuncData
  F__law_led : Fun K "_law_led" "_law_led" s__law_led a__law_led d__law_led
  g__law_led : mg "_law_led" = some (.ref a__law_led)
  b__law_led : Binds K d__law_led ["_law_kind", "_law_spot"] []
  a__law_sub : Addr
  d__law_sub : FuncData
  F__law_sub : Fun K "_law_sub" "_law_sub" s__law_sub a__law_sub d__law_sub
  g__law_sub : mg "_law_sub" = some (.ref a__law_sub)
  b__law_sub : Binds K d__law_sub ["_law_one", "_law_other"] []
  a__law_ends : Addr
  d__law_ends : FuncData
  F__law_ends : Fun K "_law_ends" "_law_ends" s__law_ends a__law_ends d__law_ends
  g__law_ends : mg "_law_ends" = some (.ref a__law_ends)
  b__law_ends : Binds K d__law_ends ["_law_first", "_law_then", "_law_start"] []
  a__law_like : Addr
  d__law_like : FuncData
  F__law_like : Fun K "_law_like" "_law_like" s__law_like a__law_like d__law_like
  g__law_like : mg "_law_like" = some (.ref a__law_like)
  b__law_like : Binds K d__law_like ["_law_found", "_law_due"] []
  a_room_from : Addr
  d_room_from : FuncData
  F_room_from : Fun K "room_from" "room_from" s_room_from a_room_from d_room_from
  g_room_from : mg "room_from" = some (.ref a_room_from)
  b_room_from : Binds K d_room_from ["way"] []
  a_shared : Addr
  d_shared : FuncData
  F_shared : Fun K "shared" "shared" s_shared a_shared d_shared
  g_shared : mg "shared" = some (.ref a_shared)
  b_shared : Binds K d_shared ["one", "other"] []
  a_part : Addr
  d_part : FuncData
  F_part : FunD K "part" "part" (defArgs s_part) (defBody s_part) (defScope s_part) [V.int 1] [] a_part d_part
  g_part : mg "part" = some (.ref a_part)
  b_part : Binds K d_part ["above", "below"] []
  e1_part : List Value
  v1_part : Vals [V.int 1] e1_part
  b1_part : Binds K d_part ["above", "below"] e1_part
  a_plus : Addr
  d_plus : FuncData
  F_plus : Fun K "plus" "plus" s_plus a_plus d_plus
  g_plus : mg "plus" = some (.ref a_plus)
  b_plus : Binds K d_plus ["one", "other"] []
  a_times : Addr
  d_times : FuncData
  F_times : Fun K "times" "times" s_times a_times d_times
  g_times : mg "times" = some (.ref a_times)
  b_times : Binds K d_times ["one", "other"] []
  a_behind : Addr
  d_behind : FuncData
  F_behind : Fun K "behind" "behind" s_behind a_behind d_behind
  g_behind : mg "behind" = some (.ref a_behind)
  b_behind : Binds K d_behind ["first", "then"] []
  a__law_told : Addr
  d__law_told : FuncData
  F__law_told : Fun K "_law_told" "_law_told" s__law_told a__law_told d__law_told
  g__law_told : mg "_law_told" = some (.ref a__law_told)
  b__law_told : Binds K d__law_told ["_law_first", "_law_then"] []
  n_abs : mg "abs" = none
  n_all : mg "all" = none
  n_bool : mg "bool" = none
  n_int : mg "int" = none
  n_isinstance : mg "isinstance" = none
  n_len : mg "len" = none
  n_list : mg "list" = none
  n_max : mg "max" = none
  n_range : mg "range" = none
  n_str : mg "str" = none
  n_tuple : mg "tuple" = none
  n_zip : mg "zip" = none
  gs : Gs
  u_NONE : Value
  c_NONE : mg "NONE" = some u_NONE
  r_NONE : RelV (gs "NONE") u_NONE
  gd_NONE : ∀ H, Dp K H (gs "NONE") (fr (0, 1))
section
variable {Pg : Program} {w : World} {K : Fg} {mg : Str → Option Value} {base : Heap} {cs : Cs} {gs : Gs}
theorem ok_Unfit (T : TX K mg) : FnOk Pg w K mg base CX0 1 T.fI_Unfit T.dI_Unfit ["self", "word"] (spIn K ["word"] gWd) :=
  okWd T.FI_Unfit sci_Unfit (fun cdv A outer sh H E => (pss_one (ps_ox (pv 0) (pv 1))))
theorem ok_OtherRoom (T : TX K mg) : FnOk Pg w K mg base CX0 2 T.fI_OtherRoom T.dI_OtherRoom ["self"] (spIn K ["word"] (gCw "OtherRoom")) :=
  okSub "OtherRoom" T.FI_OtherRoom sci_OtherRoom (fun cdv A outer sh H E hr => (pss_one (ps_expr (pe_up (by rfl) T.g_Unfit T.rd_Unfit T.ga_Unfit T.fc_Unfit T.FI_Unfit.kp (ok_Unfit T) (hr.mono (by decide)) T.bi_Unfit .nil pass0 (pa_cons (pv 0) (pa_cons pe_str pa_nil))))))
theorem ok_Flat (T : TX K mg) : FnOk Pg w K mg base CX0 1 T.fI_Flat T.dI_Flat ["self"] (spIn K ["word"] gFlat) :=
  okFlat T.FI_Flat sci_Flat (fun cdv A outer sh H E => (pss_one (ps_ox (pv 0) pe_str)))
theorem ok__law_bag (T : TX K mg) : FnOk Pg w K mg base CX0 1 T.a__law_bag T.d__law_bag ["_law_script"] (spBag K) := by
  refine T.F__law_bag.ok sc__law_bag (fun vs H Q E h => ?_) (fun cdv A outer sh H vs Q E hr h => ?_)
  · obtain ⟨W, ns, _, hd, _⟩ := h
    exact dpa_len hd
  · obtain ⟨W, ns, hW, hd, hl, q⟩ := h
    obtain ⟨v, rfl, dv⟩ := dp1 hd
    exact ⟨t__law_bag K, (pss_one (ps_ret (pe_lst (pa_cons (pe_callTy c_list (by rfl) T.n_list (by decide +kernel) (pa_cons (pe_slice sl_list (pv 0) po_none (po_some pe_int)) pa_nil)) (pa_cons pe_int (pa_cons pe_int pa_nil)))))), rd__law_bag dv hl q⟩
theorem ok__law_gcd (T : TX K mg) : FnOk Pg w K mg base CX0 1 T.a__law_gcd T.d__law_gcd ["_law_one", "_law_other"] (spP K P_gcd) :=
  okP T.F__law_gcd sc__law_gcd ln__law_gcd (fun ds r h cdv A outer sh H E hr => ⟨t__law_gcd K, (pss_cons (ps_set (i := 0) sc__law_gcd.nd rfl (by first | exact Or.inl rfl | exact Or.inr rfl) (pe_callB c_abs (by rfl) T.n_abs (by decide +kernel) (pa_cons (pv 0) pa_nil)))
      (pss_cons (ps_set (i := 1) sc__law_gcd.nd rfl (by first | exact Or.inl rfl | exact Or.inr rfl) (pe_callB c_abs (by rfl) T.n_abs (by decide +kernel) (pa_cons (pv 1) pa_nil)))
      (pss_cons (ps_while PassesOwn.never (pt_cmpR op_gt (pv 1) pe_int (nomark _)) (pss_cons (ps_set (i := 2) sc__law_gcd.nd rfl (by first | exact Or.inl rfl | exact Or.inr rfl) (pv 1))
      (pss_cons (ps_set (i := 1) sc__law_gcd.nd rfl (by first | exact Or.inl rfl | exact Or.inr rfl) (pe_op op_modX (pv 0) (pv 1)))
      (pss_one (ps_set (i := 0) sc__law_gcd.nd rfl (by first | exact Or.inl rfl | exact Or.inr rfl) (pv 2))))))
      (pss_one (ps_ret (pe_callB (c_max2 rfl) (by rfl) T.n_max (by decide +kernel) (pa_cons pe_int (pa_cons (pv 0) pa_nil)))))))), rd__law_gcd h⟩)
theorem ok__law_frac (T : TX K mg) : FnOk Pg w K mg base CX0 2 T.a__law_frac T.d__law_frac ["_law_above", "_law_below"] (spP K P_frac) :=
  okP T.F__law_frac sc__law_frac ln__law_frac (fun ds r h cdv A outer sh H E hr => ⟨t__law_frac K, (pss_cons (ps_set (i := 2) sc__law_frac.nd rfl (by first | exact Or.inl rfl | exact Or.inr rfl) (pe_call (ok__law_gcd T) (hr.mono (by decide)) (by rfl) T.g__law_gcd T.F__law_gcd.kp T.b__law_gcd .nil pass0 (pa_cons (pv 0) (pa_cons (pv 1) pa_nil))))
      (pss_cons (ps_if (pt_cmpR op_lt (pv 1) pe_int (nomark _)) (pss_one (ps_set (i := 2) sc__law_frac.nd rfl (by first | exact Or.inl rfl | exact Or.inr rfl) (pe_un un_neg (pv 2)))) pss_nil)
      (pss_one (ps_ret (pe_tup (pa_cons (pe_op op_fdivX (pv 0) (pv 2)) (pa_cons (pe_op op_fdivX (pv 1) (pv 2)) pa_nil))))))), rd__law_frac h⟩)
theorem ok__law_pull (T : TX K mg) : FnOk Pg w K mg base CX0 1 T.a__law_pull T.d__law_pull ["_law_bag_here", "_law_size"] (spB K P_pull) := by
  refine T.F__law_pull.ok sc__law_pull (fun vs H Q E h => ?_) (fun cdv A outer sh H vs Q E hr h => ?_)
  · obtain ⟨W, b, c, us, s, ds, r, s', _, rfl, _, hd, hp, _⟩ := h
    rw [List.length_cons, dpa_len hd]
    exact ln__law_pull s ds r s' hp
  · obtain ⟨W, b, c, us, s, ds, r, s', hW, rfl, hB, hd, ⟨n, rfl, h0, h1, rfl, rfl⟩, q⟩ := h
    obtain ⟨v, rfl, dv⟩ := dp1 hd
    cases dv
    exact ⟨t__law_pull K, (pss_cons (ps_set (i := 2) sc__law_pull.nd rfl (by first | exact Or.inl rfl | exact Or.inr rfl) (pe_ix ix_seq (pv 0) pe_int (fun _ _ => rfl)))
      (pss_cons (ps_set (i := 3) sc__law_pull.nd rfl (by first | exact Or.inl rfl | exact Or.inr rfl) pe_int)
      (pss_cons (ps_if (pt_cmpR op_gt (pe_callB c_len (by rfl) T.n_len PySem.boot_len (pa_cons (pv 2) pa_nil)) pe_int (nomark _)) (pss_cons (ps_set (i := 4) sc__law_pull.nd rfl (by first | exact Or.inl rfl | exact Or.inr rfl) (pe_op op_modX (pe_ix ix_seq (pv 0) pe_int (fun _ _ => rfl)) (pe_callB c_len (by rfl) T.n_len PySem.boot_len (pa_cons (pv 2) pa_nil))))
      (pss_cons (ps_set (i := 3) sc__law_pull.nd rfl (by first | exact Or.inl rfl | exact Or.inr rfl) (pe_ix ix_seq (pv 2) (pv 4) (fun _ _ => rfl)))
      (pss_one (ps_if (pt_cmpR op_ge (pe_callB c_abs (by rfl) T.n_abs (by decide +kernel) (pa_cons (pv 3) pa_nil)) (pe_op op_pow pe_int pe_int) (nomark _)) (pss_cons (ps_asg (pe_op op_fdivX (pv 3) (pv 1)) (pg_sub (pv 2) (pv 4) set_list))
      (pss_one (ps_ret (pe_op op_modX (pv 3) (pv 1))))) pss_nil)))) pss_nil)
      (pss_cons (ps_asg (pe_op op_add (pe_ix ix_seq (pv 0) pe_int (fun _ _ => rfl)) pe_int) (pg_sub (pv 0) pe_int set_list))
      (pss_cons (ps_asg (pe_op op_modX (pe_op op_add (pe_op op_add (pe_op op_mulW (pe_ix ix_seq (pv 0) pe_int (fun _ _ => rfl)) pe_int) (pe_op op_modX (pv 3) pe_int)) (pe_ix ix_seq (pv 0) pe_int (fun _ _ => rfl))) pe_int) (pg_sub (pv 0) pe_int set_list))
      (pss_one (ps_ret (pe_op op_modX (pe_op op_fdivX (pe_op op_modX (pe_op op_add (pe_op op_mulW (pe_ix ix_seq (pv 0) pe_int (fun _ _ => rfl)) pe_int) (pe_op op_fdivX (pe_ix ix_seq (pv 0) pe_int (fun _ _ => rfl)) pe_int)) pe_int) pe_int) (pv 1))))))))), rd__law_pull hB h0 h1 q⟩
theorem ok__law_part (T : TX K mg) : FnOk Pg w K mg base CX0 3 T.a__law_part T.d__law_part ["_law_bag_here"] (spB K P_part) :=
  okB T.F__law_part sc__law_part ln__law_part (fun s ds r s' h ok cdv A outer sh H E hr => ⟨t__law_part K, (pss_one (ps_ret (pe_call (ok__law_frac T) (hr.mono (by decide)) (by rfl) T.g__law_frac T.F__law_frac.kp T.b__law_frac .nil pass0 (pa_cons (pe_op op_sub (pe_call (ok__law_pull T) (hr.mono (by decide)) (by rfl) T.g__law_pull T.F__law_pull.kp T.b__law_pull .nil pass0 (pa_cons (pv 0) (pa_cons pe_int pa_nil))) pe_int) (pa_cons (pe_ix ix_seq (pe_lst (pa_cons pe_int (pa_cons pe_int (pa_cons pe_int (pa_cons pe_int pa_nil))))) (pe_call (ok__law_pull T) (hr.mono (by decide)) (by rfl) T.g__law_pull T.F__law_pull.kp T.b__law_pull .nil pass0 (pa_cons (pv 0) (pa_cons pe_int pa_nil))) (fun _ _ => rfl)) pa_nil))))), rd__law_part h ok⟩)
theorem ok__law_whole_part (T : TX K mg) : FnOk Pg w K mg base CX0 2 T.a__law_whole_part T.d__law_whole_part ["_law_bag_here"] (spB K P_wholePart) :=
  okB T.F__law_whole_part sc__law_whole_part ln__law_whole_part (fun s ds r s' h ok cdv A outer sh H E hr => ⟨t__law_whole_part K, (pss_one (ps_ret (pe_tup (pa_cons (pe_op op_sub (pe_call (ok__law_pull T) (hr.mono (by decide)) (by rfl) T.g__law_pull T.F__law_pull.kp T.b__law_pull .nil pass0 (pa_cons (pv 0) (pa_cons pe_int pa_nil))) pe_int) (pa_cons pe_int pa_nil))))), rd__law_whole_part h ok⟩)
theorem ok__law_entry (T : TX K mg) : FnOk Pg w K mg base CX0 4 T.a__law_entry T.d__law_entry ["_law_bag_here"] (spB K P_entry) :=
  okB T.F__law_entry sc__law_entry ln__law_entry (fun s ds r s' h ok cdv A outer sh H E hr => ⟨t__law_entry K, (pss_one (ps_ret (pe_ifExp (pt_cmpR op_eq (pe_call (ok__law_pull T) (hr.mono (by decide)) (by rfl) T.g__law_pull T.F__law_pull.kp T.b__law_pull .nil pass0 (pa_cons (pv 0) (pa_cons pe_int pa_nil))) pe_int (nomark _)) (pe_call (ok__law_part T) (hr.mono (by decide)) (by rfl) T.g__law_part T.F__law_part.kp T.b__law_part .nil pass0 (pa_cons (pv 0) pa_nil)) (pe_call (ok__law_whole_part T) (hr.mono (by decide)) (by rfl) T.g__law_whole_part T.F__law_whole_part.kp T.b__law_whole_part .nil pass0 (pa_cons (pv 0) pa_nil))))), rd__law_entry h ok⟩)
theorem ok__law_map (T : TX K mg) : FnOk Pg w K mg base CX0 5 T.a__law_map T.d__law_map ["_law_bag_here", "_law_start", "_law_goal"] (spB K P_map) :=
  okB T.F__law_map sc__law_map ln__law_map (fun s ds r s' h ok cdv A outer sh H E hr => ⟨t__law_map K, (pss_one (ps_ret (pe_callTy c_tuple (by rfl) T.n_tuple (by decide +kernel) (pa_cons (pe_lc (own := [("_law_row", 3)]) (g := (gName 3)) (tt := tYes) rfl sc__law_map.nd (pi_range1 (by rfl) T.n_range (pa_cons (pv 2) pa_nil)) (blkOk_by (own := [("_law_row", 3)]) (N := ["_law_bag_here", "_law_start", "_law_goal", "_law_row", "_law_at"]) (sc := defScope s__law_map) (by decide +kernel)) (fun _ _ _ _ _ => (pg_name (i := 3) sc__law_map.nd rfl (by first | exact Or.inl rfl | exact Or.inr rfl))) (fun _ _ _ _ _ => pts_nil) (fun _ _ _ _ _ => (pe_callTy c_tuple (by rfl) T.n_tuple (by decide +kernel) (pa_cons (pe_lc (own := [("_law_at", 4)]) (g := (gName 4)) (tt := tYes) rfl sc__law_map.nd (pi_range1 (by rfl) T.n_range (pa_cons (pe_op op_add (pv 1) pe_int) pa_nil)) (blkOk_by (own := [("_law_at", 4)]) (N := ["_law_bag_here", "_law_start", "_law_goal", "_law_row", "_law_at"]) (sc := ({ kind := PySem.ScopeKind.function, names := [ (PySem.Str.ofString ".0", PySem.NameKind.local), (PySem.Str.ofString "_law_row", PySem.NameKind.local), (PySem.Str.ofString "tuple", PySem.NameKind.globalImplicit), (PySem.Str.ofString "range", PySem.NameKind.globalImplicit), (PySem.Str.ofString "_law_bag_here", PySem.NameKind.cell), (PySem.Str.ofString "_law_start", PySem.NameKind.cell)], isGenerator := false, isCoroutine := false, more := [] : PySem.Scope })) (by decide +kernel)) (fun _ _ _ _ _ => (pg_name (i := 4) sc__law_map.nd rfl (by first | exact Or.inl rfl | exact Or.inr rfl))) (fun _ _ _ _ _ => pts_nil) (fun _ _ _ _ _ => (pe_call (ok__law_entry T) (hr.mono (by decide)) (by rfl) T.g__law_entry T.F__law_entry.kp T.b__law_entry .nil pass0 (pa_cons (pv 0) pa_nil)))) pa_nil)))) pa_nil)))), rd__law_map h ok⟩)
theorem ok__law_add (T : TX K mg) : FnOk Pg w K mg base CX0 3 T.a__law_add T.d__law_add ["_law_one", "_law_other"] (spP K P_add) :=
  okP T.F__law_add sc__law_add ln__law_add (fun ds r h cdv A outer sh H E hr => ⟨t__law_add K, (pss_one (ps_ret (pe_call (ok__law_frac T) (hr.mono (by decide)) (by rfl) T.g__law_frac T.F__law_frac.kp T.b__law_frac .nil pass0 (pa_cons (pe_op op_add (pe_op op_mulW (pe_ix ix_seq (pv 0) pe_int (fun _ _ => rfl)) (pe_ix ix_seq (pv 1) pe_int (fun _ _ => rfl))) (pe_op op_mulW (pe_ix ix_seq (pv 1) pe_int (fun _ _ => rfl)) (pe_ix ix_seq (pv 0) pe_int (fun _ _ => rfl)))) (pa_cons (pe_op op_mulW (pe_ix ix_seq (pv 0) pe_int (fun _ _ => rfl)) (pe_ix ix_seq (pv 1) pe_int (fun _ _ => rfl))) pa_nil))))), rd__law_add h⟩)
theorem ok__law_mul (T : TX K mg) : FnOk Pg w K mg base CX0 3 T.a__law_mul T.d__law_mul ["_law_one", "_law_other"] (spP K P_lmul) :=
  okP T.F__law_mul sc__law_mul ln__law_mul (fun ds r h cdv A outer sh H E hr => ⟨t__law_mul K, (pss_one (ps_ret (pe_call (ok__law_frac T) (hr.mono (by decide)) (by rfl) T.g__law_frac T.F__law_frac.kp T.b__law_frac .nil pass0 (pa_cons (pe_op op_mulW (pe_ix ix_seq (pv 0) pe_int (fun _ _ => rfl)) (pe_ix ix_seq (pv 1) pe_int (fun _ _ => rfl))) (pa_cons (pe_op op_mulW (pe_ix ix_seq (pv 0) pe_int (fun _ _ => rfl)) (pe_ix ix_seq (pv 1) pe_int (fun _ _ => rfl))) pa_nil))))), rd__law_mul h⟩)
theorem ok__law_led (T : TX K mg) : FnOk Pg w K mg base CX0 4 T.a__law_led T.d__law_led ["_law_kind", "_law_spot"] (spW0 K P_lled) :=
  okW T.cs T.F__law_led sc__law_led ln__law_led (fun ds A h cdv Ar outer sh H E hr => ⟨t__law_led K, (pss_cons (ps_set (i := 2) sc__law_led.nd rfl (by first | exact Or.inl rfl | exact Or.inr rfl) (pe_lst pa_nil))
      (pss_cons (ps_for PassesOwn.never rfl (pi_tup (pv 0)) (pg_name (i := 3) sc__law_led.nd rfl (by first | exact Or.inl rfl | exact Or.inr rfl)) (pss_cons (ps_set (i := 4) sc__law_led.nd rfl (by first | exact Or.inl rfl | exact Or.inr rfl) (pe_ix ix_seq (pv 3) (pe_un un_negI pe_int) (fun _ _ => rfl)))
      (pss_cons (ps_for PassesOwn.never rfl (pi_range1 (by rfl) T.n_range (pa_cons (pe_callB c_len (by rfl) T.n_len PySem.boot_len (pa_cons (pv 1) pa_nil)) pa_nil)) (pg_name (i := 5) sc__law_led.nd rfl (by first | exact Or.inl rfl | exact Or.inr rfl)) (pss_one (ps_set (i := 4) sc__law_led.nd rfl (by first | exact Or.inl rfl | exact Or.inr rfl) (pe_call (ok__law_add T) (hr.mono (by decide)) (by rfl) T.g__law_add T.F__law_add.kp T.b__law_add .nil pass0 (pa_cons (pv 4) (pa_cons (pe_call (ok__law_mul T) (hr.mono (by decide)) (by rfl) T.g__law_mul T.F__law_mul.kp T.b__law_mul .nil pass0 (pa_cons (pe_ix ix_seq (pv 3) (pv 5) (fun _ _ => rfl)) (pa_cons (pe_ix ix_seq (pv 1) (pv 5) (fun _ _ => rfl)) pa_nil))) pa_nil))))))
      (pss_one (ps_expr (pe_bm PySem.F.plainAttrs_list PySem.F.slot_list_append PySem.F.type_list_append mt_append (pv 2) (pa_cons (pv 4) pa_nil)))))))
      (pss_one (ps_ret (pe_callTy c_tuple (by rfl) T.n_tuple (by decide +kernel) (pa_cons (pv 2) pa_nil)))))), rd__law_led h⟩)
theorem ok__law_sub (T : TX K mg) : FnOk Pg w K mg base CX0 3 T.a__law_sub T.d__law_sub ["_law_one", "_law_other"] (spP K P_lsub) :=
  okP T.F__law_sub sc__law_sub ln__law_sub (fun ds r h cdv A outer sh H E hr => ⟨t__law_sub K, (pss_one (ps_ret (pe_call (ok__law_frac T) (hr.mono (by decide)) (by rfl) T.g__law_frac T.F__law_frac.kp T.b__law_frac .nil pass0 (pa_cons (pe_op op_sub (pe_op op_mulW (pe_ix ix_seq (pv 0) pe_int (fun _ _ => rfl)) (pe_ix ix_seq (pv 1) pe_int (fun _ _ => rfl))) (pe_op op_mulW (pe_ix ix_seq (pv 1) pe_int (fun _ _ => rfl)) (pe_ix ix_seq (pv 0) pe_int (fun _ _ => rfl)))) (pa_cons (pe_op op_mulW (pe_ix ix_seq (pv 0) pe_int (fun _ _ => rfl)) (pe_ix ix_seq (pv 1) pe_int (fun _ _ => rfl))) pa_nil))))), rd__law_sub h⟩)
theorem ok__law_ends (T : TX K mg) : FnOk Pg w K mg base CX0 5 T.a__law_ends T.d__law_ends ["_law_first", "_law_then", "_law_start"] (spW0 K P_lends) :=
  okW T.cs T.F__law_ends sc__law_ends ln__law_ends (fun ds A h cdv Ar outer sh H E hr => ⟨t__law_ends K, (pss_cons (ps_set (i := 3) sc__law_ends.nd rfl (by first | exact Or.inl rfl | exact Or.inr rfl) (pe_callTy c_tuple (by rfl) T.n_tuple (by decide +kernel) (pa_cons (pe_lc (own := [("_law_at", 6)]) (g := (gName 6)) (tt := tYes) rfl sc__law_ends.nd (pi_range1 (by rfl) T.n_range (pa_cons (pv 2) pa_nil)) (blkOk_by (own := [("_law_at", 6)]) (N := ["_law_first", "_law_then", "_law_start", "_law_none", "_law_last", "_law_found", "_law_at", "_law_unit", "_law_there", "_law_row"]) (sc := defScope s__law_ends) (by decide +kernel)) (fun _ _ _ _ _ => (pg_name (i := 6) sc__law_ends.nd rfl (by first | exact Or.inl rfl | exact Or.inr rfl))) (fun _ _ _ _ _ => pts_nil) (fun _ _ _ _ _ => (pe_tup (pa_cons pe_int (pa_cons pe_int pa_nil))))) pa_nil)))
      (pss_cons (ps_set (i := 4) sc__law_ends.nd rfl (by first | exact Or.inl rfl | exact Or.inr rfl) (pe_call (ok__law_led T) (hr.mono (by decide)) (by rfl) T.g__law_led T.F__law_led.kp T.b__law_led .nil pass0 (pa_cons (pv 1) (pa_cons (pe_call (ok__law_led T) (hr.mono (by decide)) (by rfl) T.g__law_led T.F__law_led.kp T.b__law_led .nil pass0 (pa_cons (pv 0) (pa_cons (pv 3) pa_nil))) pa_nil))))
      (pss_cons (ps_set (i := 5) sc__law_ends.nd rfl (by first | exact Or.inl rfl | exact Or.inr rfl) (pe_lc (own := [("_law_row", 9)]) (g := (gName 9)) (tt := tYes) rfl sc__law_ends.nd (pi_tup (pv 1)) (blkOk_by (own := [("_law_row", 9)]) (N := ["_law_first", "_law_then", "_law_start", "_law_none", "_law_last", "_law_found", "_law_at", "_law_unit", "_law_there", "_law_row"]) (sc := defScope s__law_ends) (by decide +kernel)) (fun _ _ _ _ _ => (pg_name (i := 9) sc__law_ends.nd rfl (by first | exact Or.inl rfl | exact Or.inr rfl))) (fun _ _ _ _ _ => pts_nil) (fun _ _ _ _ _ => (pe_lst pa_nil))))
      (pss_cons (ps_for PassesOwn.never rfl (pi_range1 (by rfl) T.n_range (pa_cons (pv 2) pa_nil)) (pg_name (i := 6) sc__law_ends.nd rfl (by first | exact Or.inl rfl | exact Or.inr rfl)) (pss_cons (ps_set (i := 7) sc__law_ends.nd rfl (by first | exact Or.inl rfl | exact Or.inr rfl) (pe_op op_catA (pe_op op_catA (pe_slice sl_tupA (pv 3) po_none (po_some (pv 6))) (pe_tup (pa_cons (pe_tup (pa_cons pe_int (pa_cons pe_int pa_nil))) pa_nil))) (pe_slice sl_tupA (pv 3) (po_some (pe_op op_addI (pv 6) pe_int)) po_none)))
      (pss_cons (ps_set (i := 8) sc__law_ends.nd rfl (by first | exact Or.inl rfl | exact Or.inr rfl) (pe_call (ok__law_led T) (hr.mono (by decide)) (by rfl) T.g__law_led T.F__law_led.kp T.b__law_led .nil pass0 (pa_cons (pv 1) (pa_cons (pe_call (ok__law_led T) (hr.mono (by decide)) (by rfl) T.g__law_led T.F__law_led.kp T.b__law_led .nil pass0 (pa_cons (pv 0) (pa_cons (pv 7) pa_nil))) pa_nil))))
      (pss_one (ps_for PassesOwn.never rfl (pi_range1 (by rfl) T.n_range (pa_cons (pe_callB c_len (by rfl) T.n_len PySem.boot_len (pa_cons (pv 1) pa_nil)) pa_nil)) (pg_name (i := 9) sc__law_ends.nd rfl (by first | exact Or.inl rfl | exact Or.inr rfl)) (pss_one (ps_expr (pe_bm PySem.F.plainAttrs_list PySem.F.slot_list_append PySem.F.type_list_append mt_append (pe_ix ix_seq (pv 5) (pv 9) (fun _ _ => rfl)) (pa_cons (pe_call (ok__law_sub T) (hr.mono (by decide)) (by rfl) T.g__law_sub T.F__law_sub.kp T.b__law_sub .nil pass0 (pa_cons (pe_ix ix_seq (pv 8) (pv 9) (fun _ _ => rfl)) (pa_cons (pe_ix ix_seq (pv 4) (pv 9) (fun _ _ => rfl)) pa_nil))) pa_nil)))))))))
      (pss_one (ps_ret (pe_callTy c_tuple (by rfl) T.n_tuple (by decide +kernel) (pa_cons (pe_lc (own := [("_law_row", 9)]) (g := (gName 9)) (tt := tYes) rfl sc__law_ends.nd (pi_range1 (by rfl) T.n_range (pa_cons (pe_callB c_len (by rfl) T.n_len PySem.boot_len (pa_cons (pv 1) pa_nil)) pa_nil)) (blkOk_by (own := [("_law_row", 9)]) (N := ["_law_first", "_law_then", "_law_start", "_law_none", "_law_last", "_law_found", "_law_at", "_law_unit", "_law_there", "_law_row"]) (sc := defScope s__law_ends) (by decide +kernel)) (fun _ _ _ _ _ => (pg_name (i := 9) sc__law_ends.nd rfl (by first | exact Or.inl rfl | exact Or.inr rfl))) (fun _ _ _ _ _ => pts_nil) (fun _ _ _ _ _ => (pe_callTy c_tuple (by rfl) T.n_tuple (by decide +kernel) (pa_cons (pe_op op_catL (pe_ix ix_seq (pv 5) (pv 9) (fun _ _ => rfl)) (pe_lst (pa_cons (pe_ix ix_seq (pv 4) (pv 9) (fun _ _ => rfl)) pa_nil))) pa_nil)))) pa_nil)))))))), rd__law_ends h⟩)
theorem ok__law_like (T : TX K mg) : ∀ n, FnOk Pg w K mg base CX0 n T.a__law_like T.d__law_like ["_law_found", "_law_due"] (spP K (P_like n))
  | 0 => fnok_false
  | n + 1 => okP T.F__law_like sc__law_like ln__law_like (fun ds r h cdv A outer sh H E hr => ⟨t__law_like K n, (pss_cons (ps_if (pt_val (pe_callB call_isiT (by rfl) T.n_isinstance (by decide +kernel) (pa_cons (pv 1) (pa_cons (pe_tup (pa_cons (pe_bltn (v := .ty "tuple") (by rfl) T.n_tuple (by decide +kernel) rfl) (pa_cons (pe_bltn (v := .ty "list") (by rfl) T.n_list (by decide +kernel) rfl) pa_nil))) pa_nil)))) (pss_cons (ps_if (pt_cmpR op_ne (pe_callB call_isi (by rfl) T.n_isinstance (by decide +kernel) (pa_cons (pv 0) (pa_cons (pe_bltn (v := .ty "tuple") (by rfl) T.n_tuple (by decide +kernel) rfl) pa_nil))) (pe_callB call_isi (by rfl) T.n_isinstance (by decide +kernel) (pa_cons (pv 1) (pa_cons (pe_bltn (v := .ty "tuple") (by rfl) T.n_tuple (by decide +kernel) rfl) pa_nil))) (nomark _)) (pss_one (ps_ret pe_bl)) pss_nil)
      (pss_cons (ps_if (PW.pt (pw_or (pt_not (pt_val (pe_callB call_isiT (by rfl) T.n_isinstance (by decide +kernel) (pa_cons (pv 0) (pa_cons (pe_tup (pa_cons (pe_bltn (v := .ty "tuple") (by rfl) T.n_tuple (by decide +kernel) rfl) (pa_cons (pe_bltn (v := .ty "list") (by rfl) T.n_list (by decide +kernel) rfl) pa_nil))) pa_nil))))) (pw_or1 (pt_cmpR op_ne (pe_callB c_len (by rfl) T.n_len PySem.boot_len (pa_cons (pv 0) pa_nil)) (pe_callB c_len (by rfl) T.n_len PySem.boot_len (pa_cons (pv 1) pa_nil)) (nomark _))))) (pss_one (ps_ret pe_bl)) pss_nil)
      (pss_one (ps_ret (pe_callB (cr_all rfl) (by rfl) T.n_all (by decide +kernel) (pa_cons (pe_lc (own := [("_law_at", 2)]) (g := (gName 2)) (tt := tYes) rfl sc__law_like.nd (pi_range1 (by rfl) T.n_range (pa_cons (pe_callB c_len (by rfl) T.n_len PySem.boot_len (pa_cons (pv 1) pa_nil)) pa_nil)) (blkOk_by (own := [("_law_at", 2)]) (N := ["_law_found", "_law_due", "_law_at"]) (sc := defScope s__law_like) (by decide +kernel)) (fun _ _ _ _ _ => (pg_name (i := 2) sc__law_like.nd rfl (by first | exact Or.inl rfl | exact Or.inr rfl))) (fun _ _ _ _ _ => pts_nil) (fun _ _ _ _ _ => (pe_call (ok__law_like T n) hr (by rfl) T.g__law_like T.F__law_like.kp T.b__law_like .nil pass0 (pa_cons (pe_ix ix_seq (pv 0) (pv 2) (fun _ _ => rfl)) (pa_cons (pe_ix ix_seq (pv 1) (pv 2) (fun _ _ => rfl)) pa_nil))))) pa_nil)))))) pss_nil)
      (pss_cons (ps_if (pt_val (pe_callB call_isi (by rfl) T.n_isinstance (by decide +kernel) (pa_cons (pv 1) (pa_cons (pe_bltn (v := .ty "bool") (by rfl) T.n_bool (by decide +kernel) rfl) pa_nil)))) (pss_one (ps_ret (pe_and (pe_callB call_isi (by rfl) T.n_isinstance (by decide +kernel) (pa_cons (pv 0) (pa_cons (pe_bltn (v := .ty "bool") (by rfl) T.n_bool (by decide +kernel) rfl) pa_nil))) (pe_one (pe_cmpR op_eq (pv 0) (pv 1) (nomark _)))))) pss_nil)
      (pss_cons (ps_if (pt_val (pe_callB call_isi (by rfl) T.n_isinstance (by decide +kernel) (pa_cons (pv 1) (pa_cons (pe_bltn (v := .ty "int") (by rfl) T.n_int (by decide +kernel) rfl) pa_nil)))) (pss_one (ps_ret (pe_and (pe_callB call_isi (by rfl) T.n_isinstance (by decide +kernel) (pa_cons (pv 0) (pa_cons (pe_bltn (v := .ty "int") (by rfl) T.n_int (by decide +kernel) rfl) pa_nil))) (pe_and (pe_not (pe_callB call_isi (by rfl) T.n_isinstance (by decide +kernel) (pa_cons (pv 0) (pa_cons (pe_bltn (v := .ty "bool") (by rfl) T.n_bool (by decide +kernel) rfl) pa_nil)))) (pe_one (pe_cmpR op_eq (pv 0) (pv 1) (nomark _))))))) pss_nil)
      (pss_cons (ps_if (pt_val (pe_callB call_isi (by rfl) T.n_isinstance (by decide +kernel) (pa_cons (pv 1) (pa_cons (pe_bltn (v := .ty "str") (by rfl) T.n_str (by decide +kernel) rfl) pa_nil)))) (pss_one (ps_ret (pe_and (pe_callB call_isi (by rfl) T.n_isinstance (by decide +kernel) (pa_cons (pv 0) (pa_cons (pe_bltn (v := .ty "str") (by rfl) T.n_str (by decide +kernel) rfl) pa_nil))) (pe_one (pe_cmpR op_eq (pv 0) (pv 1) (nomark _)))))) pss_nil)
      (pss_one (ps_ret (pe_and (pe_cmpR o_isN (pv 1) pe_non (nomark _)) (pe_one (pe_cmpR o_isN (pv 0) pe_non (nomark _)))))))))), rd__law_like h⟩)
theorem ok_room_from (T : TX K mg) : FnOk Pg w K mg base CX0 1 T.a_room_from T.d_room_from ["way"] (spW0 K P_roomFrom) :=
  okW T.cs T.F_room_from sc_room_from ln_room_from (fun ds A h cdv Ar outer sh H E hr => ⟨t_room_from K, (pss_one (ps_ret (pe_op op_subI (pe_callB c_len (by rfl) T.n_len PySem.boot_len (pa_cons (pe_ix ix_seq (pv 0) pe_int (fun _ _ => rfl)) pa_nil)) pe_int))), rd_room_from h⟩)
theorem ok_shared (T : TX K mg) : FnOk Pg w K mg base CX0 1 T.a_shared T.d_shared ["one", "other"] (spP K P_gcd) :=
  okP T.F_shared sc_shared ln_shared (fun ds r h cdv A outer sh H E hr => ⟨t_shared K, (pss_cons (ps_par (i := 0) (j := 1) (by rfl) sc_shared.nd rfl rfl (by decide) rfl rfl (pa_cons (pe_callB c_abs (by rfl) T.n_abs (by decide +kernel) (pa_cons (pv 0) pa_nil)) (pa_cons (pe_callB c_abs (by rfl) T.n_abs (by decide +kernel) (pa_cons (pv 1) pa_nil)) pa_nil)) (by rfl))
      (pss_cons (ps_while PassesOwn.never (pt_cmpR op_gt (pv 1) pe_int (nomark _)) (pss_one (ps_par (i := 0) (j := 1) (by rfl) sc_shared.nd rfl rfl (by decide) rfl rfl (pa_cons (pv 1) (pa_cons (pe_op op_modX (pv 0) (pv 1)) pa_nil)) (by rfl))))
      (pss_one (ps_ret (pe_callB (c_max2 rfl) (by rfl) T.n_max (by decide +kernel) (pa_cons (pv 0) (pa_cons pe_int pa_nil))))))), rd_shared h⟩)
theorem ok_part (T : TX K mg) : FnOk Pg w K mg base (L2.CX Pg w) 3 T.a_part T.d_part ["above", "below"] (spX K T.cs P_partX) :=
  okXD T.F_part sc_part ln_part (fun ds r h cdv A outer sh H E hr => ⟨t_part K T.cs (WD E), (pss_cons (ps_if (pt_cmpR op_eq (pv 1) pe_int (nomark _)) (pss_one (ps_raise rfl (takes_of rfl rfl rfl rfl) (pmk_ox0 T.ox_Flat T.kC_Flat T.i_Flat T.ti_Flat (ok_Flat T) (hr.mono (by decide)) T.bi_Flat .nil pass0 (by rfl) T.g_Flat))) pss_nil)
      (pss_cons (ps_if (pt_cmpR op_lt (pv 1) pe_int (nomark _)) (pss_one (ps_par (i := 0) (j := 1) (by rfl) sc_part.nd rfl rfl (by decide) rfl rfl (pa_cons (pe_un un_neg (pv 0)) (pa_cons (pe_un un_neg (pv 1)) pa_nil)) (by rfl))) pss_nil)
      (pss_cons (ps_set (i := 2) sc_part.nd rfl (by first | exact Or.inl rfl | exact Or.inr rfl) (pe_call (ok_shared T) (hr.mono (by decide)) (by rfl) T.g_shared T.F_shared.kp T.b_shared .nil pass0 (pa_cons (pv 0) (pa_cons (pv 1) pa_nil))))
      (pss_one (ps_ret (pe_tup (pa_cons (pe_op op_fdivX (pv 0) (pv 2)) (pa_cons (pe_op op_fdivX (pv 1) (pv 2)) pa_nil)))))))), rd_part T.cf_Flat h (WD E)⟩)
theorem ok_plus (T : TX K mg) : FnOk Pg w K mg base CX0 4 T.a_plus T.d_plus ["one", "other"] (spP K P_plus) :=
  okP T.F_plus sc_plus ln_plus (fun ds r h cdv A outer sh H E hr => ⟨t_plus K T.cs, (pss_one (ps_ret (pe_callSD (ok_part T) (hr.mono (by decide)) (by rfl) T.g_part T.F_part.kp T.b_part .nil (fun σ => passAt takes0 σ) (pa_cons (pe_op op_add (pe_op op_mulW (pe_ix ix_seq (pv 0) pe_int (fun _ _ => rfl)) (pe_ix ix_seq (pv 1) pe_int (fun _ _ => rfl))) (pe_op op_mulW (pe_ix ix_seq (pv 1) pe_int (fun _ _ => rfl)) (pe_ix ix_seq (pv 0) pe_int (fun _ _ => rfl)))) (pa_cons (pe_op op_mulW (pe_ix ix_seq (pv 0) pe_int (fun _ _ => rfl)) (pe_ix ix_seq (pv 1) pe_int (fun _ _ => rfl))) pa_nil))))), rd_plus h⟩)
theorem ok_times (T : TX K mg) : FnOk Pg w K mg base CX0 4 T.a_times T.d_times ["one", "other"] (spP K P_times) :=
  okP T.F_times sc_times ln_times (fun ds r h cdv A outer sh H E hr => ⟨t_times K T.cs, (pss_one (ps_ret (pe_callSD (ok_part T) (hr.mono (by decide)) (by rfl) T.g_part T.F_part.kp T.b_part .nil (fun σ => passAt takes0 σ) (pa_cons (pe_op op_mulW (pe_ix ix_seq (pv 0) pe_int (fun _ _ => rfl)) (pe_ix ix_seq (pv 1) pe_int (fun _ _ => rfl))) (pa_cons (pe_op op_mulW (pe_ix ix_seq (pv 0) pe_int (fun _ _ => rfl)) (pe_ix ix_seq (pv 1) pe_int (fun _ _ => rfl))) pa_nil))))), rd_times h⟩)
theorem ok_behind (T : TX K mg) : FnOk Pg w K mg base (L2.CX Pg w) 5 T.a_behind T.d_behind ["first", "then"] (spW K T.cs P_behind) :=
  okWX T.F_behind sc_behind ln_behind (fun ds A h cdv Ar outer sh H E hr => ⟨t_behind K T.cs T.gs (WD E), (pss_cons (ps_if (pt_cmpR op_ne (pe_call (ok_room_from T) (hr.mono (by decide)) (by rfl) T.g_room_from T.F_room_from.kp T.b_room_from .nil pass0 (pa_cons (pv 1) pa_nil)) (pe_callB c_len (by rfl) T.n_len PySem.boot_len (pa_cons (pv 0) pa_nil)) (nomark _)) (pss_one (ps_raise rfl (takes_of rfl rfl rfl rfl) (pmk_ox0 T.ox_OtherRoom T.kC_OtherRoom T.i_OtherRoom T.ti_OtherRoom (ok_OtherRoom T) (hr.mono (by decide)) T.bi_OtherRoom .nil pass0 (by rfl) T.g_OtherRoom))) pss_nil)
      (pss_cons (ps_set (i := 2) sc_behind.nd rfl (by first | exact Or.inl rfl | exact Or.inr rfl) (pe_lst pa_nil))
      (pss_cons (ps_for (passes_of rfl) rfl (pi_tup (pv 1)) (pg_name (i := 3) sc_behind.nd rfl (by first | exact Or.inl rfl | exact Or.inr rfl)) (pss_cons (ps_asg (pv 3) (pg_star rfl (pgs_cons (pg_name (i := 8) sc_behind.nd rfl (by first | exact Or.inl rfl | exact Or.inr rfl)) (pgs_cons (pg_name (i := 5) sc_behind.nd rfl (by first | exact Or.inl rfl | exact Or.inr rfl)) pgs_nil))))
      (pss_cons (ps_setLc (i := 4) (own := [("one", 9)]) (g := (gName 9)) (tt := tYes) rfl sc_behind.nd rfl rfl (sw_true rfl rfl rfl (by decide +kernel)) (pi_tup (pe_ix ix_seq (pv 0) pe_int (fun _ _ => rfl))) (blkOk_by (own := [("one", 9)]) (N := ["first", "then", "found", "row", "made", "last", "step", "inner", "steps", "one", "other"]) (sc := defScope s_behind) (by decide +kernel)) (fun _ _ _ _ _ => (pg_name (i := 9) sc_behind.nd rfl (by first | exact Or.inl rfl | exact Or.inr rfl))) (fun _ _ _ _ _ => pts_nil) (fun _ _ _ _ _ => (pe_glob (v := T.gs "NONE") (by rfl) T.c_NONE T.r_NONE)))
      (pss_cons (ps_for (passes_of rfl) rfl (pi_zipM (by rfl) T.n_zip (pa_cons (pv 8) (pa_cons (pv 0) pa_nil))) (pg_tup rfl (pgs_cons (pg_name (i := 6) sc_behind.nd rfl (by first | exact Or.inl rfl | exact Or.inr rfl)) (pgs_cons (pg_name (i := 7) sc_behind.nd rfl (by first | exact Or.inl rfl | exact Or.inr rfl)) pgs_nil))) (pss_one (ps_setLc (i := 4) (own := [("one", 9), ("other", 10)]) (g := (gTup K 2 (gCons (gName 9) (gCons (gName 10) gNil)))) (tt := tYes) rfl sc_behind.nd rfl rfl (sw_true rfl rfl rfl (by decide +kernel)) (pi_zipM (by rfl) T.n_zip (pa_cons (pv 4) (pa_cons (pv 7) pa_nil))) (blkOk_by (own := [("one", 9), ("other", 10)]) (N := ["first", "then", "found", "row", "made", "last", "step", "inner", "steps", "one", "other"]) (sc := defScope s_behind) (by decide +kernel)) (fun _ _ _ _ _ => (pg_tup rfl (pgs_cons (pg_name (i := 9) sc_behind.nd rfl (by first | exact Or.inl rfl | exact Or.inr rfl)) (pgs_cons (pg_name (i := 10) sc_behind.nd rfl (by first | exact Or.inl rfl | exact Or.inr rfl)) pgs_nil)))) (fun _ _ _ _ _ => pts_nil) (fun _ _ _ _ _ => (pe_call (ok_plus T) (hr.mono (by decide)) (by rfl) T.g_plus T.F_plus.kp T.b_plus .nil pass0 (pa_cons (pv 9) (pa_cons (pe_call (ok_times T) (hr.mono (by decide)) (by rfl) T.g_times T.F_times.kp T.b_times .nil pass0 (pa_cons (pv 6) (pa_cons (pv 10) pa_nil))) pa_nil)))))))
      (pss_cons (ps_asg (pe_call (ok_plus T) (hr.mono (by decide)) (by rfl) T.g_plus T.F_plus.kp T.b_plus .nil pass0 (pa_cons (pe_ix ix_seq (pv 4) (pe_un un_negI pe_int) (fun _ _ => rfl)) (pa_cons (pv 5) pa_nil))) (pg_sub (pv 4) (pe_un un_negI pe_int) set_list))
      (pss_one (ps_expr (pe_bm PySem.F.plainAttrs_list PySem.F.slot_list_append PySem.F.type_list_append mt_append (pv 2) (pa_cons (pe_callTy c_tuple (by rfl) T.n_tuple (by decide +kernel) (pa_cons (pv 4) pa_nil)) pa_nil)))))))))
      (pss_one (ps_ret (pe_callTy c_tuple (by rfl) T.n_tuple (by decide +kernel) (pa_cons (pv 2) pa_nil))))))), rd_behind T.cf_OtherRoom T.gd_NONE h (WD E)⟩)
theorem ok__law_told (T : TX K mg) : FnOk Pg w K mg base CX0 6 T.a__law_told T.d__law_told ["_law_first", "_law_then"] (spW0 K P_told17) :=
  okW T.cs T.F__law_told sc__law_told ln_told17 (fun ds A h cdv Ar outer sh H E hr => ⟨t_told17 K T.cs, (pss_one (ps_try_as (i := 2) (tb := fun W => (tRet (tCallSD (spW K T.cs P_behind) [] (WE W) (tCons (tVar 0) (tCons (tVar 1) tNil))))) (ts := fun a cls d => (tRet (tLst (tCons (tXf a cls d (T.cs "OtherRoom") "word" (tVar 2)) tNil)))) (Wout := fun _ _ _ _ => False) rfl rfl sc__law_told.nd rfl rfl ⟨rfl, by decide, Or.inl T.g_OtherRoom⟩ takes0 (fun W pn xe tk _ => (pss_one (ps_ret (pe_callSD (ok_behind T) (hr.mono (by decide)) (by rfl) T.g_behind T.F_behind.kp T.b_behind .nil (fun σ => passAt tk σ) (pa_cons (pv 0) (pa_cons (pv 1) pa_nil)))))) (fun a oe cls d pn hz hf => (pss_one (ps_ret (pe_lst (pa_cons (pe_xf T.xf_OtherRoom T.nw_OtherRoom_word hz hf (pv 2)) pa_nil))))))), rd_told17 T.em_OtherRoom_OtherRoom h⟩)
def t_law (K : Fg) : TS := (tSeq (tFor (iRng1 (tCons (tC (V.int 4)) tNil)) (gName 2) (tSeq (tAsg (tOp rAddI (tC (V.int 1)) (tCall (spB K P_pull) [] E0 (tCons (tVar 1) (tCons (tC (V.int 2)) tNil)))) (gName 3))
  (tSeq (tAsg (tOp rAddI (tC (V.int 1)) (tCall (spB K P_pull) [] E0 (tCons (tVar 1) (tCons (tC (V.int 2)) tNil)))) (gName 4))
  (tSeq (tAsg (tCall (spB K P_map) [] E0 (tCons (tVar 1) (tCons (tVar 3) (tCons (tVar 4) tNil)))) (gName 5))
  (tSeq (tAsg (tIf (tTest (tOp rGtI (tCall (spB K P_pull) [] E0 (tCons (tVar 1) (tCons (tC (V.int 5)) tNil))) (tC (V.int 0)))) (tVar 4) (tOp rSubI (tC (V.int 3)) (tVar 4))) (gName 6))
  (tSeq (tAsg (tCall (spB K P_map) [] E0 (tCons (tVar 1) (tCons (tVar 6) (tCons (tOp rAddI (tC (V.int 1)) (tCall (spB K P_pull) [] E0 (tCons (tVar 1) (tCons (tC (V.int 2)) tNil)))) tNil)))) (gName 7))
  (tSeq (tAsg (tIf (tTest (tOp rEq (tVar 6) (tVar 4))) (tCall (spW0 K P_lends) [] E0 (tCons (tVar 5) (tCons (tVar 7) (tCons (tVar 3) tNil)))) (tLst (tCons (tC (V.str "OtherRoom")) tNil))) (gName 8))
  (tIfS (tNot (tB (tCall (spP K (P_like 10)) [] E0 (tCons (tCall (spW0 K P_told17) [] E0 (tCons (tVar 5) (tCons (tVar 7) tNil))) (tCons (tVar 8) tNil))))) (tRet (tC (V.bl false))) tNext))))))))
  (tRet (tC (V.bl true))))
-- slots of law: 0 _law_script, 1 _law_bag_here, 2 _law_turn, 3 _law_start, 4 _law_middle_room, 5 _law_first, 6 _law_then_room, 7 _law_then, 8 _law_due
theorem rd_law (ns : List Int) (hl : ns.length ≤ 63) : SW K cs W0 (t_law K) (.d (.list (ns.map PyData.int)) :: .bag :: List.replicate (9 - 2) .un) (fun o => o = .rt (.bool true)) := by
  unfold t_law
  walk_at "w"
  refine forN (fun i G => ∃ e2 e3 e4 e5 e6 e7 e8, G = [.d (.list (ns.map PyData.int)), .bag, e2, e3, e4, e5, e6, e7, e8]) ⟨_, _, _, _, _, _, _, rfl⟩ ?_ ?_
  · rintro i _ hi ⟨e2, e3, e4, e5, e6, e7, e8, rfl⟩
    walk_at "w"
    rename_i v1 a1 b1 v2 a2 b2 m M u a3 b3
    obtain ⟨st, est, hst⟩ : ∃ n : Nat, (1 : Int) + v1 = n ∧ (n = 1 ∨ n = 2) := ⟨(1 + v1).toNat, by omega, by omega⟩
    obtain ⟨n, en, hn⟩ : ∃ n : Nat, (1 : Int) + v2 = n ∧ (n = 1 ∨ n = 2) := ⟨(1 + v2).toNat, by omega, by omega⟩
    rw [est, en, Int.toNat_natCast, Int.toNat_natCast] at M
    rw [est, en]
    refine cnd_b (fun _ => ?_) (fun _ => ?_)
    · walk_at "w"
      rename_i v3 a4 b4 k N
      obtain ⟨n2, en2, hn2⟩ : ∃ n : Nat, (1 : Int) + v3 = n ∧ (n = 1 ∨ n = 2) := ⟨(1 + v3).toNat, by omega, by omega⟩
      rw [en2, Int.toNat_natCast, Int.toNat_natCast] at N
      have C := beh_mp M N
      have mC : n * (10 + 10 + 1) ≤ 2 * 21 := Nat.mul_le_mul_right _ (by omega)
      have okm : okD 9 (mp (behF st m k)) = true := okD_tup (n := 8) (by rw [List.length_map, C.len]; omega) fun x hx => by
        obtain ⟨r, hr, rfl⟩ := List.mem_map.mp hx
        exact okD_frs (n := 6) (by rw [(C.row r hr).1]; omega)
      refine cnd_T (by simp) ?_
      walk_at "w"
      refine ⟨10, 10, n, st, n2, m, k, rfl, M, N, hn, hst, hn2, by omega, by omega, ?_⟩
      walk_at "w"
      refine ⟨10, 10, n, st, n2, n, m, k, rfl, M, N, by omega, by omega, by omega, by omega, by omega, by omega, fun z => absurd rfl z, fun _ => ⟨by omega, ?_⟩⟩
      walk_at "w"
      refine c_like rfl okm ?_
      walk_at "w"
      exact ⟨_, _, _, _, _, _, _, rfl⟩
    · walk_at "w"
      rename_i v3 a4 b4 k N
      obtain ⟨n2, en2, hn2⟩ : ∃ n : Nat, (1 : Int) + v3 = n ∧ (n = 1 ∨ n = 2) := ⟨(1 + v3).toNat, by omega, by omega⟩
      rw [en2, Int.toNat_natCast] at N
      refine cnd_F (by simp; omega) ?_
      walk_at "w"
      refine ⟨10, 10, n, st, n2, (3 - (n : Int)).toNat, m, k, rfl, M, N, by omega, by omega, by omega, by omega, by omega, by omega, fun _ => ?_, fun z => absurd z (by omega)⟩
      walk_at "w"
      refine c_like rfl rfl ?_
      walk_at "w"
      exact ⟨_, _, _, _, _, _, _, rfl⟩
  · rintro _ ⟨e2, e3, e4, e5, e6, e7, e8, rfl⟩
    walk_at "w"
    rfl
theorem ok_law (T : TX K mg) {f : Addr} {fd : FuncData} (F : Fun K "law" "law" s_law f fd) : FnOk Pg w K mg base CX0 11 f fd ["_law_script"] (spP K PLaw) :=
  okLawW T.cs F sc_law rfl (by decide) (fun ns hl cdv A outer sh H E hr => ⟨t_law K, (pss_cons (ps_set (i := 1) sc_law.nd rfl (by first | exact Or.inl rfl | exact Or.inr rfl) (pe_call (ok__law_bag T) (hr.mono (by decide)) (by rfl) T.g__law_bag T.F__law_bag.kp T.b__law_bag .nil pass0 (pa_cons (pv 0) pa_nil)))
      (pss_cons (ps_for PassesOwn.never rfl (pi_range1 (by rfl) T.n_range (pa_cons pe_int pa_nil)) (pg_name (i := 2) sc_law.nd rfl (by first | exact Or.inl rfl | exact Or.inr rfl)) (pss_cons (ps_set (i := 3) sc_law.nd rfl (by first | exact Or.inl rfl | exact Or.inr rfl) (pe_op op_addI pe_int (pe_call (ok__law_pull T) (hr.mono (by decide)) (by rfl) T.g__law_pull T.F__law_pull.kp T.b__law_pull .nil pass0 (pa_cons (pv 1) (pa_cons pe_int pa_nil)))))
      (pss_cons (ps_set (i := 4) sc_law.nd rfl (by first | exact Or.inl rfl | exact Or.inr rfl) (pe_op op_addI pe_int (pe_call (ok__law_pull T) (hr.mono (by decide)) (by rfl) T.g__law_pull T.F__law_pull.kp T.b__law_pull .nil pass0 (pa_cons (pv 1) (pa_cons pe_int pa_nil)))))
      (pss_cons (ps_set (i := 5) sc_law.nd rfl (by first | exact Or.inl rfl | exact Or.inr rfl) (pe_call (ok__law_map T) (hr.mono (by decide)) (by rfl) T.g__law_map T.F__law_map.kp T.b__law_map .nil pass0 (pa_cons (pv 1) (pa_cons (pv 3) (pa_cons (pv 4) pa_nil)))))
      (pss_cons (ps_set (i := 6) sc_law.nd rfl (by first | exact Or.inl rfl | exact Or.inr rfl) (pe_ifExp (pt_cmpR op_gtI (pe_call (ok__law_pull T) (hr.mono (by decide)) (by rfl) T.g__law_pull T.F__law_pull.kp T.b__law_pull .nil pass0 (pa_cons (pv 1) (pa_cons pe_int pa_nil))) pe_int (nomark _)) (pv 4) (pe_op op_subI pe_int (pv 4))))
      (pss_cons (ps_set (i := 7) sc_law.nd rfl (by first | exact Or.inl rfl | exact Or.inr rfl) (pe_call (ok__law_map T) (hr.mono (by decide)) (by rfl) T.g__law_map T.F__law_map.kp T.b__law_map .nil pass0 (pa_cons (pv 1) (pa_cons (pv 6) (pa_cons (pe_op op_addI pe_int (pe_call (ok__law_pull T) (hr.mono (by decide)) (by rfl) T.g__law_pull T.F__law_pull.kp T.b__law_pull .nil pass0 (pa_cons (pv 1) (pa_cons pe_int pa_nil)))) pa_nil)))))
      (pss_cons (ps_set (i := 8) sc_law.nd rfl (by first | exact Or.inl rfl | exact Or.inr rfl) (pe_ifExp (pt_cmpR op_eq (pv 6) (pv 4) (nomark _)) (pe_call (ok__law_ends T) (hr.mono (by decide)) (by rfl) T.g__law_ends T.F__law_ends.kp T.b__law_ends .nil pass0 (pa_cons (pv 5) (pa_cons (pv 7) (pa_cons (pv 3) pa_nil)))) (pe_lst (pa_cons pe_str pa_nil))))
      (pss_one (ps_if (pt_not (pt_val (pe_call (ok__law_like T 10) (hr.mono (by decide)) (by rfl) T.g__law_like T.F__law_like.kp T.b__law_like .nil pass0 (pa_cons (pe_call (ok__law_told T) (hr.mono (by decide)) (by rfl) T.g__law_told T.F__law_told.kp T.b__law_told .nil pass0 (pa_cons (pv 5) (pa_cons (pv 7) pa_nil))) (pa_cons (pv 8) pa_nil))))) (pss_one (ps_ret pe_bl)) pss_nil)))))))))
      (pss_one (ps_ret pe_bl)))), rd_law ns hl⟩)
end
theorem all_mk {l : PySem.W.OpenLaw} {w : World} {K : PySem.W.Frag} {h : Heap} {mg : Str → Option Value} {fa f0 f1 f2 f3 f4 f5 f6 f7 f8 f9 f10 f11 f12 f13 f14 f15 f16 f17 f18 f19 f20 f21 : Addr} (X : K.In h) (G : h.Ns mainGlobals mg) (hfa : mg "law" = some (.ref fa))
    {od0 an0 : Option Addr} {sl0 : Array (Option Value)} {oc0 kV0 dc0 pm0 cd0 ct0 : Value}
    {od1 an1 : Option Addr} {sl1 : Array (Option Value)} {oc1 kV1 dc1 pm1 cd1 ct1 : Value}
    {od2 an2 : Option Addr} {sl2 : Array (Option Value)} {oc2 kV2 dc2 pm2 cd2 ct2 : Value}
    {od3 an3 : Option Addr} {sl3 : Array (Option Value)} {oc3 kV3 dc3 pm3 cd3 ct3 : Value}
    {od4 an4 : Option Addr} {sl4 : Array (Option Value)} {oc4 kV4 dc4 pm4 cd4 ct4 : Value}
    {od5 an5 : Option Addr} {sl5 : Array (Option Value)} {oc5 kV5 dc5 pm5 cd5 ct5 : Value}
    {od6 an6 : Option Addr} {sl6 : Array (Option Value)} {oc6 kV6 dc6 pm6 cd6 ct6 : Value}
    {od7 an7 : Option Addr} {sl7 : Array (Option Value)} {oc7 kV7 dc7 pm7 cd7 ct7 : Value}
    {od8 an8 : Option Addr} {sl8 : Array (Option Value)} {oc8 kV8 dc8 pm8 cd8 ct8 : Value}
    {od9 an9 : Option Addr} {sl9 : Array (Option Value)} {oc9 kV9 dc9 pm9 cd9 ct9 : Value}
    {od10 an10 : Option Addr} {sl10 : Array (Option Value)} {oc10 kV10 dc10 pm10 cd10 ct10 : Value}
    {od11 an11 : Option Addr} {sl11 : Array (Option Value)} {oc11 kV11 dc11 pm11 cd11 ct11 : Value}
    {od12 an12 : Option Addr} {sl12 : Array (Option Value)} {oc12 kV12 dc12 pm12 cd12 ct12 : Value}
    {od13 an13 : Option Addr} {sl13 : Array (Option Value)} {oc13 kV13 dc13 pm13 cd13 ct13 : Value}
    {od14 an14 : Option Addr} {sl14 : Array (Option Value)} {oc14 kV14 dc14 pm14 cd14 ct14 : Value}
    {od15 an15 : Option Addr} {sl15 : Array (Option Value)} {oc15 kV15 dc15 pm15 cd15 ct15 : Value}
    {od16 an16 : Option Addr} {sl16 : Array (Option Value)} {oc16 kV16 dc16 pm16 cd16 ct16 : Value}
    {dT16 : Addr} {ot16 : Value} {odt16 : Option Addr} {nt16 : Nat} {slt16 : Array (Option Value)} {tk16_0 : Tok}
    {od17 an17 : Option Addr} {sl17 : Array (Option Value)} {oc17 kV17 dc17 pm17 cd17 ct17 : Value}
    {od18 an18 : Option Addr} {sl18 : Array (Option Value)} {oc18 kV18 dc18 pm18 cd18 ct18 : Value}
    {od19 an19 : Option Addr} {sl19 : Array (Option Value)} {oc19 kV19 dc19 pm19 cd19 ct19 : Value}
    {od20 an20 : Option Addr} {sl20 : Array (Option Value)} {oc20 kV20 dc20 pm20 cd20 ct20 : Value}
    {od21 an21 : Option Addr} {sl21 : Array (Option Value)} {oc21 kV21 dc21 pm21 cd21 ct21 : Value}
    {ca0 ci0 : Addr} {cod0 can0 : Option Addr} {csl0 : Array (Option Value)} {coc0 ckV0 cdc0 cpm0 ccd0 cct0 : Value}
    {cT0 : Addr} {cot0 : Value} {codt0 : Option Addr} {cnt0 : Nat} {cslt0 : Array (Option Value)} {ctk0_0 : Tok}
    {ca1 ci1 : Addr} {cod1 can1 : Option Addr} {csl1 : Array (Option Value)} {coc1 ckV1 cdc1 cpm1 ccd1 cct1 : Value}
    {ca2 ci2 : Addr} {cod2 can2 : Option Addr} {csl2 : Array (Option Value)} {coc2 ckV2 cdc2 cpm2 ccd2 cct2 : Value}
    {kca0 : Addr} {kod0 : Option Addr} {kn0 : Nat} {ksl0 : Array (Option Value)} {kt0_0 kt0_1 : Tok}
    (a0 : PySem.W.nsIn K mainGlobals "_law_bag" = some (some (.ref f0))) (l0 : K.lookup f0 = some ⟨oc0, od0, .func (PySem.W.fnOf "_law_bag" "_law_bag" (defArgs s__law_bag) (defBody s__law_bag) (defScope s__law_bag) .none kV0 dc0 pm0 an0 cd0 ct0), sl0⟩) (c0 : PySem.W.codeIn K cd0 "_law_bag" = true) (k0 : PySem.W.keepIn K (.ref f0) = true)
    (a1 : PySem.W.nsIn K mainGlobals "_law_gcd" = some (some (.ref f1))) (l1 : K.lookup f1 = some ⟨oc1, od1, .func (PySem.W.fnOf "_law_gcd" "_law_gcd" (defArgs s__law_gcd) (defBody s__law_gcd) (defScope s__law_gcd) .none kV1 dc1 pm1 an1 cd1 ct1), sl1⟩) (c1 : PySem.W.codeIn K cd1 "_law_gcd" = true) (k1 : PySem.W.keepIn K (.ref f1) = true)
    (a2 : PySem.W.nsIn K mainGlobals "_law_frac" = some (some (.ref f2))) (l2 : K.lookup f2 = some ⟨oc2, od2, .func (PySem.W.fnOf "_law_frac" "_law_frac" (defArgs s__law_frac) (defBody s__law_frac) (defScope s__law_frac) .none kV2 dc2 pm2 an2 cd2 ct2), sl2⟩) (c2 : PySem.W.codeIn K cd2 "_law_frac" = true) (k2 : PySem.W.keepIn K (.ref f2) = true)
    (a3 : PySem.W.nsIn K mainGlobals "_law_pull" = some (some (.ref f3))) (l3 : K.lookup f3 = some ⟨oc3, od3, .func (PySem.W.fnOf "_law_pull" "_law_pull" (defArgs s__law_pull) (defBody s__law_pull) (defScope s__law_pull) .none kV3 dc3 pm3 an3 cd3 ct3), sl3⟩) (c3 : PySem.W.codeIn K cd3 "_law_pull" = true) (k3 : PySem.W.keepIn K (.ref f3) = true)
    (a4 : PySem.W.nsIn K mainGlobals "_law_part" = some (some (.ref f4))) (l4 : K.lookup f4 = some ⟨oc4, od4, .func (PySem.W.fnOf "_law_part" "_law_part" (defArgs s__law_part) (defBody s__law_part) (defScope s__law_part) .none kV4 dc4 pm4 an4 cd4 ct4), sl4⟩) (c4 : PySem.W.codeIn K cd4 "_law_part" = true) (k4 : PySem.W.keepIn K (.ref f4) = true)
    (a5 : PySem.W.nsIn K mainGlobals "_law_whole_part" = some (some (.ref f5))) (l5 : K.lookup f5 = some ⟨oc5, od5, .func (PySem.W.fnOf "_law_whole_part" "_law_whole_part" (defArgs s__law_whole_part) (defBody s__law_whole_part) (defScope s__law_whole_part) .none kV5 dc5 pm5 an5 cd5 ct5), sl5⟩) (c5 : PySem.W.codeIn K cd5 "_law_whole_part" = true) (k5 : PySem.W.keepIn K (.ref f5) = true)
    (a6 : PySem.W.nsIn K mainGlobals "_law_entry" = some (some (.ref f6))) (l6 : K.lookup f6 = some ⟨oc6, od6, .func (PySem.W.fnOf "_law_entry" "_law_entry" (defArgs s__law_entry) (defBody s__law_entry) (defScope s__law_entry) .none kV6 dc6 pm6 an6 cd6 ct6), sl6⟩) (c6 : PySem.W.codeIn K cd6 "_law_entry" = true) (k6 : PySem.W.keepIn K (.ref f6) = true)
    (a7 : PySem.W.nsIn K mainGlobals "_law_map" = some (some (.ref f7))) (l7 : K.lookup f7 = some ⟨oc7, od7, .func (PySem.W.fnOf "_law_map" "_law_map" (defArgs s__law_map) (defBody s__law_map) (defScope s__law_map) .none kV7 dc7 pm7 an7 cd7 ct7), sl7⟩) (c7 : PySem.W.codeIn K cd7 "_law_map" = true) (k7 : PySem.W.keepIn K (.ref f7) = true)
    (a8 : PySem.W.nsIn K mainGlobals "_law_add" = some (some (.ref f8))) (l8 : K.lookup f8 = some ⟨oc8, od8, .func (PySem.W.fnOf "_law_add" "_law_add" (defArgs s__law_add) (defBody s__law_add) (defScope s__law_add) .none kV8 dc8 pm8 an8 cd8 ct8), sl8⟩) (c8 : PySem.W.codeIn K cd8 "_law_add" = true) (k8 : PySem.W.keepIn K (.ref f8) = true)
    (a9 : PySem.W.nsIn K mainGlobals "_law_mul" = some (some (.ref f9))) (l9 : K.lookup f9 = some ⟨oc9, od9, .func (PySem.W.fnOf "_law_mul" "_law_mul" (defArgs s__law_mul) (defBody s__law_mul) (defScope s__law_mul) .none kV9 dc9 pm9 an9 cd9 ct9), sl9⟩) (c9 : PySem.W.codeIn K cd9 "_law_mul" = true) (k9 : PySem.W.keepIn K (.ref f9) = true)
    (a10 : PySem.W.nsIn K mainGlobals "_law_led" = some (some (.ref f10))) (l10 : K.lookup f10 = some ⟨oc10, od10, .func (PySem.W.fnOf "_law_led" "_law_led" (defArgs s__law_led) (defBody s__law_led) (defScope s__law_led) .none kV10 dc10 pm10 an10 cd10 ct10), sl10⟩) (c10 : PySem.W.codeIn K cd10 "_law_led" = true) (k10 : PySem.W.keepIn K (.ref f10) = true)
    (a11 : PySem.W.nsIn K mainGlobals "_law_sub" = some (some (.ref f11))) (l11 : K.lookup f11 = some ⟨oc11, od11, .func (PySem.W.fnOf "_law_sub" "_law_sub" (defArgs s__law_sub) (defBody s__law_sub) (defScope s__law_sub) .none kV11 dc11 pm11 an11 cd11 ct11), sl11⟩) (c11 : PySem.W.codeIn K cd11 "_law_sub" = true) (k11 : PySem.W.keepIn K (.ref f11) = true)
    (a12 : PySem.W.nsIn K mainGlobals "_law_ends" = some (some (.ref f12))) (l12 : K.lookup f12 = some ⟨oc12, od12, .func (PySem.W.fnOf "_law_ends" "_law_ends" (defArgs s__law_ends) (defBody s__law_ends) (defScope s__law_ends) .none kV12 dc12 pm12 an12 cd12 ct12), sl12⟩) (c12 : PySem.W.codeIn K cd12 "_law_ends" = true) (k12 : PySem.W.keepIn K (.ref f12) = true)
    (a13 : PySem.W.nsIn K mainGlobals "_law_like" = some (some (.ref f13))) (l13 : K.lookup f13 = some ⟨oc13, od13, .func (PySem.W.fnOf "_law_like" "_law_like" (defArgs s__law_like) (defBody s__law_like) (defScope s__law_like) .none kV13 dc13 pm13 an13 cd13 ct13), sl13⟩) (c13 : PySem.W.codeIn K cd13 "_law_like" = true) (k13 : PySem.W.keepIn K (.ref f13) = true)
    (a14 : PySem.W.nsIn K mainGlobals "room_from" = some (some (.ref f14))) (l14 : K.lookup f14 = some ⟨oc14, od14, .func (PySem.W.fnOf "room_from" "room_from" (defArgs s_room_from) (defBody s_room_from) (defScope s_room_from) .none kV14 dc14 pm14 an14 cd14 ct14), sl14⟩) (c14 : PySem.W.codeIn K cd14 "room_from" = true) (k14 : PySem.W.keepIn K (.ref f14) = true)
    (a15 : PySem.W.nsIn K mainGlobals "shared" = some (some (.ref f15))) (l15 : K.lookup f15 = some ⟨oc15, od15, .func (PySem.W.fnOf "shared" "shared" (defArgs s_shared) (defBody s_shared) (defScope s_shared) .none kV15 dc15 pm15 an15 cd15 ct15), sl15⟩) (c15 : PySem.W.codeIn K cd15 "shared" = true) (k15 : PySem.W.keepIn K (.ref f15) = true)
    (a16 : PySem.W.nsIn K mainGlobals "part" = some (some (.ref f16))) (l16 : K.lookup f16 = some ⟨oc16, od16, .func (PySem.W.fnOf "part" "part" (defArgs s_part) (defBody s_part) (defScope s_part) (.ref dT16) kV16 dc16 pm16 an16 cd16 ct16), sl16⟩) (c16 : PySem.W.codeIn K cd16 "part" = true) (k16 : PySem.W.keepIn K (.ref f16) = true)
    (t16 : K.lookup dT16 = some ⟨ot16, odt16, .seq [Value.int 1 tk16_0].toArray nt16, slt16⟩)
    (a17 : PySem.W.nsIn K mainGlobals "plus" = some (some (.ref f17))) (l17 : K.lookup f17 = some ⟨oc17, od17, .func (PySem.W.fnOf "plus" "plus" (defArgs s_plus) (defBody s_plus) (defScope s_plus) .none kV17 dc17 pm17 an17 cd17 ct17), sl17⟩) (c17 : PySem.W.codeIn K cd17 "plus" = true) (k17 : PySem.W.keepIn K (.ref f17) = true)
    (a18 : PySem.W.nsIn K mainGlobals "times" = some (some (.ref f18))) (l18 : K.lookup f18 = some ⟨oc18, od18, .func (PySem.W.fnOf "times" "times" (defArgs s_times) (defBody s_times) (defScope s_times) .none kV18 dc18 pm18 an18 cd18 ct18), sl18⟩) (c18 : PySem.W.codeIn K cd18 "times" = true) (k18 : PySem.W.keepIn K (.ref f18) = true)
    (a19 : PySem.W.nsIn K mainGlobals "behind" = some (some (.ref f19))) (l19 : K.lookup f19 = some ⟨oc19, od19, .func (PySem.W.fnOf "behind" "behind" (defArgs s_behind) (defBody s_behind) (defScope s_behind) .none kV19 dc19 pm19 an19 cd19 ct19), sl19⟩) (c19 : PySem.W.codeIn K cd19 "behind" = true) (k19 : PySem.W.keepIn K (.ref f19) = true)
    (a20 : PySem.W.nsIn K mainGlobals "_law_told" = some (some (.ref f20))) (l20 : K.lookup f20 = some ⟨oc20, od20, .func (PySem.W.fnOf "_law_told" "_law_told" (defArgs s__law_told) (defBody s__law_told) (defScope s__law_told) .none kV20 dc20 pm20 an20 cd20 ct20), sl20⟩) (c20 : PySem.W.codeIn K cd20 "_law_told" = true) (k20 : PySem.W.keepIn K (.ref f20) = true)
    (a21 : PySem.W.nsIn K mainGlobals "law" = some (some (.ref f21))) (l21 : K.lookup f21 = some ⟨oc21, od21, .func (PySem.W.fnOf "law" "law" (defArgs s_law) (defBody s_law) (defScope s_law) .none kV21 dc21 pm21 an21 cd21 ct21), sl21⟩) (c21 : PySem.W.codeIn K cd21 "law" = true) (k21 : PySem.W.keepIn K (.ref f21) = true)
    (y0g : PySem.W.nsIn K mainGlobals "Unfit" = some (some (.ref ca0)))
    (y0o : PySem.W.excOver K ca0 [.type "ValueError", .type "Exception", .type "BaseException", .type "object"] = true)
    (y0m : PySem.W.excInitIn K ca0 [.type "ValueError", .type "Exception", .type "BaseException", .type "object"] "ValueError.__new__" = true)
    (y0h : PySem.W.hasDictIn K ca0 = true)
    (y0s : PySem.W.findIn K (.ref ca0) "__setattr__" = some (some (.builtin "object.__setattr__")))
    (y0x : PySem.W.subIn K (.ref ca0) (.type "BaseException") = some true)
    (y0t : PySem.W.typeIn K (.ref ca0) = some (.type "type"))
    (y0k : PySem.W.keepIn K (.ref ca0) = true)
    (y0i : PySem.W.findIn K (.ref ca0) "__init__" = some (some (.ref ci0)))
    (y0f : PySem.W.typeIn K (.ref ci0) = some (.type "function"))
    (y0l : K.lookup ci0 = some ⟨coc0, cod0, .func (PySem.W.fnOf "__init__" "Unfit.__init__" (defArgs si_Unfit) (defBody si_Unfit) (defScope si_Unfit) (.ref cT0) ckV0 cdc0 cpm0 can0 ccd0 cct0), csl0⟩)
    (y0c : PySem.W.codeIn K ccd0 "Unfit.__init__" = true)
    (y0p : PySem.W.keepIn K (.ref ci0) = true)
    (y0a : PySem.W.findIn K (.ref ca0) "__getattribute__" = some (some (.builtin "BaseException.__getattribute__")))
    (y0b : PySem.W.findIn K (.ref ca0) "__getattr__" = some none)
    (y0n_word : PySem.W.findIn K (.ref ca0) "word" = some none)
    (y0r : PySem.W.readsIn K ca0 (.type "type") = true)
    (y0q : PySem.W.specialIn K (.ref ca0) "__getattribute__" = some (some (.builtin "type.__getattribute__")))
    (y0v : PySem.W.findCls K (.ref ca0) (.type "type") "__init__" = some (.val (.ref ci0)))
    (y0d : K.lookup cT0 = some ⟨cot0, codt0, .seq [Value.str "Unfit" ctk0_0].toArray cnt0, cslt0⟩)
    (y1g : PySem.W.nsIn K mainGlobals "OtherRoom" = some (some (.ref ca1)))
    (y1o : PySem.W.excOver K ca1 [.type "ValueError", .type "Exception", .type "BaseException", .type "object"] = true)
    (y1m : PySem.W.excInitIn K ca1 [.type "ValueError", .type "Exception", .type "BaseException", .type "object"] "ValueError.__new__" = true)
    (y1h : PySem.W.hasDictIn K ca1 = true)
    (y1s : PySem.W.findIn K (.ref ca1) "__setattr__" = some (some (.builtin "object.__setattr__")))
    (y1x : PySem.W.subIn K (.ref ca1) (.type "BaseException") = some true)
    (y1t : PySem.W.typeIn K (.ref ca1) = some (.type "type"))
    (y1k : PySem.W.keepIn K (.ref ca1) = true)
    (y1i : PySem.W.findIn K (.ref ca1) "__init__" = some (some (.ref ci1)))
    (y1f : PySem.W.typeIn K (.ref ci1) = some (.type "function"))
    (y1l : K.lookup ci1 = some ⟨coc1, cod1, .func (PySem.W.fnOf "__init__" "OtherRoom.__init__" (defArgs si_OtherRoom) (defBody si_OtherRoom) (defScope si_OtherRoom) .none ckV1 cdc1 cpm1 can1 ccd1 cct1), csl1⟩)
    (y1c : PySem.W.codeIn K ccd1 "OtherRoom.__init__" = true)
    (y1p : PySem.W.keepIn K (.ref ci1) = true)
    (y1a : PySem.W.findIn K (.ref ca1) "__getattribute__" = some (some (.builtin "BaseException.__getattribute__")))
    (y1b : PySem.W.findIn K (.ref ca1) "__getattr__" = some none)
    (y1n_word : PySem.W.findIn K (.ref ca1) "word" = some none)
    (y2g : PySem.W.nsIn K mainGlobals "Flat" = some (some (.ref ca2)))
    (y2o : PySem.W.excOver K ca2 [.type "ZeroDivisionError", .type "ArithmeticError", .type "Exception", .type "BaseException", .type "object"] = true)
    (y2m : PySem.W.excInitIn K ca2 [.type "ZeroDivisionError", .type "ArithmeticError", .type "Exception", .type "BaseException", .type "object"] "ZeroDivisionError.__new__" = true)
    (y2h : PySem.W.hasDictIn K ca2 = true)
    (y2s : PySem.W.findIn K (.ref ca2) "__setattr__" = some (some (.builtin "object.__setattr__")))
    (y2x : PySem.W.subIn K (.ref ca2) (.type "BaseException") = some true)
    (y2t : PySem.W.typeIn K (.ref ca2) = some (.type "type"))
    (y2k : PySem.W.keepIn K (.ref ca2) = true)
    (y2i : PySem.W.findIn K (.ref ca2) "__init__" = some (some (.ref ci2)))
    (y2f : PySem.W.typeIn K (.ref ci2) = some (.type "function"))
    (y2l : K.lookup ci2 = some ⟨coc2, cod2, .func (PySem.W.fnOf "__init__" "Flat.__init__" (defArgs si_Flat) (defBody si_Flat) (defScope si_Flat) .none ckV2 cdc2 cpm2 can2 ccd2 cct2), csl2⟩)
    (y2c : PySem.W.codeIn K ccd2 "Flat.__init__" = true)
    (y2p : PySem.W.keepIn K (.ref ci2) = true)
    (y2a : PySem.W.findIn K (.ref ca2) "__getattribute__" = some (some (.builtin "BaseException.__getattribute__")))
    (y2b : PySem.W.findIn K (.ref ca2) "__getattr__" = some none)
    (y2n_word : PySem.W.findIn K (.ref ca2) "word" = some none)
    (e0 : PySem.W.subIn K (.ref ca1) (.ref ca1) = some true)
    (z0 : PySem.W.nsIn K mainGlobals "abs" = some none)
    (z1 : PySem.W.nsIn K mainGlobals "all" = some none)
    (z2 : PySem.W.nsIn K mainGlobals "bool" = some none)
    (z3 : PySem.W.nsIn K mainGlobals "int" = some none)
    (z4 : PySem.W.nsIn K mainGlobals "isinstance" = some none)
    (z5 : PySem.W.nsIn K mainGlobals "len" = some none)
    (z6 : PySem.W.nsIn K mainGlobals "list" = some none)
    (z7 : PySem.W.nsIn K mainGlobals "max" = some none)
    (z8 : PySem.W.nsIn K mainGlobals "range" = some none)
    (z9 : PySem.W.nsIn K mainGlobals "str" = some none)
    (z10 : PySem.W.nsIn K mainGlobals "tuple" = some none)
    (z11 : PySem.W.nsIn K mainGlobals "zip" = some none)
    (kc0 : PySem.W.nsIn K mainGlobals "NONE" = some (some (.ref kca0)))
    (kl0 : K.lookup kca0 = some ⟨.type "tuple", kod0, .seq [Value.int 0 kt0_0, Value.int 1 kt0_1].toArray kn0, ksl0⟩)
    : ∃ fd : FuncData, (∀ (s : Shared) (v : Value), BindsTo s fd ⟨[v], []⟩ [("_law_script", v)]) ∧ ∀ base : Heap, K.In base → base.Ns mainGlobals mg → FnOk l.prog w K mg base CX0 11 fa fd ["_law_script"] (spP K PLaw) := by
  have e := hfa.symm.trans (PySem.W.mg_of X G a21)
  cases e
  obtain ⟨cs, hc0, hc1, hc2⟩ : ∃ cs : Cs, cs "Unfit" = ca0 ∧ cs "OtherRoom" = ca1 ∧ cs "Flat" = ca2 := ⟨fun x => if x = "Unfit" then ca0 else if x = "OtherRoom" then ca1 else if x = "Flat" then ca2 else 0, by dsimp only; rw [if_pos rfl], by dsimp only; rw [if_neg (by decide), if_pos rfl], by dsimp only; rw [if_neg (by decide), if_neg (by decide), if_pos rfl]⟩
  subst hc0
  subst hc1
  subst hc2
  have FI0 := fund_mk (st := si_Unfit) (dvs := [V.str "Unfit"]) y0l y0c y0p y0d (.cons ⟨_, rfl⟩ .nil) (by simp)
  have ox0 : OxK K (cs "Unfit") := ⟨⟨_, _, _, _, PySem.F.excBase_ValueError, PySem.F.store_ValueError, y0o, y0m, y0h, y0s, y0x, y0t, y0k⟩⟩
  have bi0 := binds_all (ps := ["self", "word"]) FI0 (by simp) fun _ _ _ _ _ _ _ us its hl hl2 => match us, its, hl, hl2 with | [_, _], [_], _, _ => ⟨_, rfl, rfl⟩
  have cf0 : ClsF K cs "Unfit" ["word"] := ⟨ox0, fun n hn => by rw [List.mem_singleton.mp hn]; exact y0n_word⟩
  have FI1 := fun_mk (st := si_OtherRoom) y1l y1c y1p
  have ox1 : OxK K (cs "OtherRoom") := ⟨⟨_, _, _, _, PySem.F.excBase_ValueError, PySem.F.store_ValueError, y1o, y1m, y1h, y1s, y1x, y1t, y1k⟩⟩
  have bi1 := FI1.binds (ps := ["self"]) fun _ _ _ _ _ _ us hl => match us, hl with | [_], _ => rfl
  have cf1 : ClsF K cs "OtherRoom" ["word"] := ⟨ox1, fun n hn => by rw [List.mem_singleton.mp hn]; exact y1n_word⟩
  have FI2 := fun_mk (st := si_Flat) y2l y2c y2p
  have ox2 : OxK K (cs "Flat") := ⟨⟨_, _, _, _, PySem.F.excBase_ZeroDivisionError, PySem.F.store_ZeroDivisionError, y2o, y2m, y2h, y2s, y2x, y2t, y2k⟩⟩
  have bi2 := FI2.binds (ps := ["self"]) fun _ _ _ _ _ _ us hl => match us, hl with | [_], _ => rfl
  have cf2 : ClsF K cs "Flat" ["word"] := ⟨ox2, fun n hn => by rw [List.mem_singleton.mp hn]; exact y2n_word⟩
  have F0 := fun_mk (st := s__law_bag) l0 c0 k0
  have b0 := F0.binds (ps := ["_law_script"]) fun _ _ _ _ _ _ us hl => match us, hl with | [_], _ => rfl
  have F1 := fun_mk (st := s__law_gcd) l1 c1 k1
  have b1 := F1.binds (ps := ["_law_one", "_law_other"]) fun _ _ _ _ _ _ us hl => match us, hl with | [_, _], _ => rfl
  have F2 := fun_mk (st := s__law_frac) l2 c2 k2
  have b2 := F2.binds (ps := ["_law_above", "_law_below"]) fun _ _ _ _ _ _ us hl => match us, hl with | [_, _], _ => rfl
  have F3 := fun_mk (st := s__law_pull) l3 c3 k3
  have b3 := F3.binds (ps := ["_law_bag_here", "_law_size"]) fun _ _ _ _ _ _ us hl => match us, hl with | [_, _], _ => rfl
  have F4 := fun_mk (st := s__law_part) l4 c4 k4
  have b4 := F4.binds (ps := ["_law_bag_here"]) fun _ _ _ _ _ _ us hl => match us, hl with | [_], _ => rfl
  have F5 := fun_mk (st := s__law_whole_part) l5 c5 k5
  have b5 := F5.binds (ps := ["_law_bag_here"]) fun _ _ _ _ _ _ us hl => match us, hl with | [_], _ => rfl
  have F6 := fun_mk (st := s__law_entry) l6 c6 k6
  have b6 := F6.binds (ps := ["_law_bag_here"]) fun _ _ _ _ _ _ us hl => match us, hl with | [_], _ => rfl
  have F7 := fun_mk (st := s__law_map) l7 c7 k7
  have b7 := F7.binds (ps := ["_law_bag_here", "_law_start", "_law_goal"]) fun _ _ _ _ _ _ us hl => match us, hl with | [_, _, _], _ => rfl
  have F8 := fun_mk (st := s__law_add) l8 c8 k8
  have b8 := F8.binds (ps := ["_law_one", "_law_other"]) fun _ _ _ _ _ _ us hl => match us, hl with | [_, _], _ => rfl
  have F9 := fun_mk (st := s__law_mul) l9 c9 k9
  have b9 := F9.binds (ps := ["_law_one", "_law_other"]) fun _ _ _ _ _ _ us hl => match us, hl with | [_, _], _ => rfl
  have F10 := fun_mk (st := s__law_led) l10 c10 k10
  have b10 := F10.binds (ps := ["_law_kind", "_law_spot"]) fun _ _ _ _ _ _ us hl => match us, hl with | [_, _], _ => rfl
  have F11 := fun_mk (st := s__law_sub) l11 c11 k11
  have b11 := F11.binds (ps := ["_law_one", "_law_other"]) fun _ _ _ _ _ _ us hl => match us, hl with | [_, _], _ => rfl
  have F12 := fun_mk (st := s__law_ends) l12 c12 k12
  have b12 := F12.binds (ps := ["_law_first", "_law_then", "_law_start"]) fun _ _ _ _ _ _ us hl => match us, hl with | [_, _, _], _ => rfl
  have F13 := fun_mk (st := s__law_like) l13 c13 k13
  have b13 := F13.binds (ps := ["_law_found", "_law_due"]) fun _ _ _ _ _ _ us hl => match us, hl with | [_, _], _ => rfl
  have F14 := fun_mk (st := s_room_from) l14 c14 k14
  have b14 := F14.binds (ps := ["way"]) fun _ _ _ _ _ _ us hl => match us, hl with | [_], _ => rfl
  have F15 := fun_mk (st := s_shared) l15 c15 k15
  have b15 := F15.binds (ps := ["one", "other"]) fun _ _ _ _ _ _ us hl => match us, hl with | [_, _], _ => rfl
  have F16 := fund_mk (st := s_part) (dvs := [V.int 1]) l16 c16 k16 t16 (.cons ⟨_, rfl⟩ .nil) (by simp)
  have b16 := binds_all (ps := ["above", "below"]) F16 (by simp) fun _ _ _ _ _ _ _ us its hl hl2 => match us, its, hl, hl2 with | [_, _], [_], _, _ => ⟨_, rfl, rfl⟩
  obtain ⟨q16_1, w16_1, u16_1⟩ := F16.binds1 (ps := ["above", "below"]) 1 0 (by simp) rfl fun _ _ _ _ _ _ _ us its hl hl2 => match us, its, hl, hl2 with | [_], [_], _, _ => ⟨_, rfl, rfl⟩
  have F17 := fun_mk (st := s_plus) l17 c17 k17
  have b17 := F17.binds (ps := ["one", "other"]) fun _ _ _ _ _ _ us hl => match us, hl with | [_, _], _ => rfl
  have F18 := fun_mk (st := s_times) l18 c18 k18
  have b18 := F18.binds (ps := ["one", "other"]) fun _ _ _ _ _ _ us hl => match us, hl with | [_, _], _ => rfl
  have F19 := fun_mk (st := s_behind) l19 c19 k19
  have b19 := F19.binds (ps := ["first", "then"]) fun _ _ _ _ _ _ us hl => match us, hl with | [_, _], _ => rfl
  have F20 := fun_mk (st := s__law_told) l20 c20 k20
  have b20 := F20.binds (ps := ["_law_first", "_law_then"]) fun _ _ _ _ _ _ us hl => match us, hl with | [_, _], _ => rfl
  have F21 := fun_mk (st := s_law) l21 c21 k21
  obtain ⟨gs, hg0⟩ : ∃ gs : Gs, gs "NONE" = V.ref kca0 := ⟨fun x => if x = "NONE" then V.ref kca0 else V.non, by dsimp only; rw [if_pos rfl]⟩
  have gr0 : RelV (gs "NONE") (.ref kca0) := by rw [hg0]; rfl
  have gd0 : ∀ H, Dp K H (gs "NONE") (fr (0, 1)) := fun H => by rw [hg0]; exact .tup (xs := [V.int 0, V.int 1]) (.inr ⟨_, _, _, kl0, rfl, rfl, by show 2 ≤ sizeLine; decide, (.cons ⟨_, rfl⟩ (.cons ⟨_, rfl⟩ .nil))⟩) (.cons (.int _) (.cons (.int _) .nil))
  have T : TX K mg := { cs := cs, ox_Unfit := ox0, kC_Unfit := y0k, fI_Unfit := _, dI_Unfit := _, FI_Unfit := FI0, i_Unfit := y0i, ti_Unfit := y0f, bi_Unfit := bi0, g_Unfit := PySem.W.mg_of X G y0g, xf_Unfit := ⟨y0a, y0b, y0x, y0h⟩, nw_Unfit_word := y0n_word, cf_Unfit := cf0, rd_Unfit := y0r, ga_Unfit := y0q, fc_Unfit := y0v, ox_OtherRoom := ox1, kC_OtherRoom := y1k, fI_OtherRoom := _, dI_OtherRoom := _, FI_OtherRoom := FI1, i_OtherRoom := y1i, ti_OtherRoom := y1f, bi_OtherRoom := bi1, g_OtherRoom := PySem.W.mg_of X G y1g, xf_OtherRoom := ⟨y1a, y1b, y1x, y1h⟩, nw_OtherRoom_word := y1n_word, cf_OtherRoom := cf1, ox_Flat := ox2, kC_Flat := y2k, fI_Flat := _, dI_Flat := _, FI_Flat := FI2, i_Flat := y2i, ti_Flat := y2f, bi_Flat := bi2, g_Flat := PySem.W.mg_of X G y2g, xf_Flat := ⟨y2a, y2b, y2x, y2h⟩, nw_Flat_word := y2n_word, cf_Flat := cf2, em_OtherRoom_OtherRoom := em_of y1x y1h y1t e0, a__law_bag := f0, d__law_bag := _, F__law_bag := F0, g__law_bag := PySem.W.mg_of X G a0, b__law_bag := b0, a__law_gcd := f1, d__law_gcd := _, F__law_gcd := F1, g__law_gcd := PySem.W.mg_of X G a1, b__law_gcd := b1, a__law_frac := f2, d__law_frac := _, F__law_frac := F2, g__law_frac := PySem.W.mg_of X G a2, b__law_frac := b2, a__law_pull := f3, d__law_pull := _, F__law_pull := F3, g__law_pull := PySem.W.mg_of X G a3, b__law_pull := b3, a__law_part := f4, d__law_part := _, F__law_part := F4, g__law_part := PySem.W.mg_of X G a4, b__law_part := b4, a__law_whole_part := f5, d__law_whole_part := _, F__law_whole_part := F5, g__law_whole_part := PySem.W.mg_of X G a5, b__law_whole_part := b5, a__law_entry := f6, d__law_entry := _, F__law_entry := F6, g__law_entry := PySem.W.mg_of X G a6, b__law_entry := b6, a__law_map := f7, d__law_map := _, F__law_map := F7, g__law_map := PySem.W.mg_of X G a7, b__law_map := b7, a__law_add := f8, d__law_add := _, F__law_add := F8, g__law_add := PySem.W.mg_of X G a8, b__law_add := b8, a__law_mul := f9, d__law_mul := _, F__law_mul := F9, g__law_mul := PySem.W.mg_of X G a9, b__law_mul := b9, a__law_led := f10, d__law_led := _, F__law_led := F10, g__law_led := PySem.W.mg_of X G a10, b__law_led := b10, a__law_sub := f11, d__law_sub := _, F__law_sub := F11, g__law_sub := PySem.W.mg_of X G a11, b__law_sub := b11, a__law_ends := f12, d__law_ends := _, F__law_ends := F12, g__law_ends := PySem.W.mg_of X G a12, b__law_ends := b12, a__law_like := f13, d__law_like := _, F__law_like := F13, g__law_like := PySem.W.mg_of X G a13, b__law_like := b13, a_room_from := f14, d_room_from := _, F_room_from := F14, g_room_from := PySem.W.mg_of X G a14, b_room_from := b14, a_shared := f15, d_shared := _, F_shared := F15, g_shared := PySem.W.mg_of X G a15, b_shared := b15, a_part := f16, d_part := _, F_part := F16, g_part := PySem.W.mg_of X G a16, b_part := b16, e1_part := q16_1, v1_part := w16_1, b1_part := u16_1, a_plus := f17, d_plus := _, F_plus := F17, g_plus := PySem.W.mg_of X G a17, b_plus := b17, a_times := f18, d_times := _, F_times := F18, g_times := PySem.W.mg_of X G a18, b_times := b18, a_behind := f19, d_behind := _, F_behind := F19, g_behind := PySem.W.mg_of X G a19, b_behind := b19, a__law_told := f20, d__law_told := _, F__law_told := F20, g__law_told := PySem.W.mg_of X G a20, b__law_told := b20, gs := gs, u_NONE := _, c_NONE := PySem.W.mg_of X G kc0, r_NONE := gr0, gd_NONE := gd0, n_abs := PySem.W.mg_none_of X G z0, n_all := PySem.W.mg_none_of X G z1, n_bool := PySem.W.mg_none_of X G z2, n_int := PySem.W.mg_none_of X G z3, n_isinstance := PySem.W.mg_none_of X G z4, n_len := PySem.W.mg_none_of X G z5, n_list := PySem.W.mg_none_of X G z6, n_max := PySem.W.mg_none_of X G z7, n_range := PySem.W.mg_none_of X G z8, n_str := PySem.W.mg_none_of X G z9, n_tuple := PySem.W.mg_none_of X G z10, n_zip := PySem.W.mg_none_of X G z11 }
  exact ⟨_, fun s v => .of_eq rfl, fun base _ _ => ok_law T F21⟩
end Law
end U.N
open PySem PySem.W PyProof.Rows
set_option maxHeartbeats 0 in
theorem PySem.Challenge.cw_umbrage_k17_maps_behind_maps_holds : PySem.Challenge.rw_umbrage_k17_maps_behind_maps.Holds := by
  refine U.head_top ?_
  k_fill
  refine L2.walk_of (l := PySem.Challenge.rw_umbrage_k17_maps_behind_maps) (n := 63) (k := 11) (x := "_law_script") (CX := fun _ => L2.CX0) (sp := fun w => U.spP _ U.PLaw) rfl (by decide) rfl ⟨rfl, by decide, by decide⟩ (fun w h Y => PySem.W.kIn_of Y) ?F (fun _ _ a ns hl _ hS => ⟨fun _ => False, [.list (ns.map PyData.int)], .bool true, fun _ z => z.elim, .cons (.lst (U.less_none hS) (U.dpa_of_ints _)) .nil, ⟨ns, rfl, hl, rfl⟩, fun v H' _ d => by cases d; rfl⟩) (fun _ _ _ _ _ h => h)
  case F =>
    intro w mg fa h KX G hmg
    refine' U.N.Law.all_mk KX G hmg ?a0 ?l0 ?c0 ?k0 ?a1 ?l1 ?c1 ?k1 ?a2 ?l2 ?c2 ?k2 ?a3 ?l3 ?c3 ?k3 ?a4 ?l4 ?c4 ?k4 ?a5 ?l5 ?c5 ?k5 ?a6 ?l6 ?c6 ?k6 ?a7 ?l7 ?c7 ?k7 ?a8 ?l8 ?c8 ?k8 ?a9 ?l9 ?c9 ?k9 ?a10 ?l10 ?c10 ?k10 ?a11 ?l11 ?c11 ?k11 ?a12 ?l12 ?c12 ?k12 ?a13 ?l13 ?c13 ?k13 ?a14 ?l14 ?c14 ?k14 ?a15 ?l15 ?c15 ?k15 ?a16 ?l16 ?c16 ?k16 ?t16 ?a17 ?l17 ?c17 ?k17 ?a18 ?l18 ?c18 ?k18 ?a19 ?l19 ?c19 ?k19 ?a20 ?l20 ?c20 ?k20 ?a21 ?l21 ?c21 ?k21 ?y0g ?y0o ?y0m ?y0h ?y0s ?y0x ?y0t ?y0k ?y0i ?y0f ?y0l ?y0c ?y0p ?y0a ?y0b ?y0n_word ?y0r ?y0q ?y0v ?y0d ?y1g ?y1o ?y1m ?y1h ?y1s ?y1x ?y1t ?y1k ?y1i ?y1f ?y1l ?y1c ?y1p ?y1a ?y1b ?y1n_word ?y2g ?y2o ?y2m ?y2h ?y2s ?y2x ?y2t ?y2k ?y2i ?y2f ?y2l ?y2c ?y2p ?y2a ?y2b ?y2n_word ?e0 ?z0 ?z1 ?z2 ?z3 ?z4 ?z5 ?z6 ?z7 ?z8 ?z9 ?z10 ?z11 ?kc0 ?kl0
    (case a0 => k_is); (case l0 => k_is); (case c0 => k_is); (case k0 => k_is); (case a1 => k_is); (case l1 => k_is); (case c1 => k_is); (case k1 => k_is); (case a2 => k_is); (case l2 => k_is); (case c2 => k_is); (case k2 => k_is); (case a3 => k_is); (case l3 => k_is); (case c3 => k_is); (case k3 => k_is); (case a4 => k_is); (case l4 => k_is); (case c4 => k_is); (case k4 => k_is); (case a5 => k_is); (case l5 => k_is); (case c5 => k_is); (case k5 => k_is); (case a6 => k_is); (case l6 => k_is); (case c6 => k_is); (case k6 => k_is); (case a7 => k_is); (case l7 => k_is); (case c7 => k_is); (case k7 => k_is); (case a8 => k_is); (case l8 => k_is); (case c8 => k_is); (case k8 => k_is); (case a9 => k_is); (case l9 => k_is); (case c9 => k_is); (case k9 => k_is); (case a10 => k_is); (case l10 => k_is); (case c10 => k_is); (case k10 => k_is); (case a11 => k_is); (case l11 => k_is); (case c11 => k_is); (case k11 => k_is); (case a12 => k_is); (case l12 => k_is); (case c12 => k_is); (case k12 => k_is); (case a13 => k_is); (case l13 => k_is); (case c13 => k_is); (case k13 => k_is); (case a14 => k_is); (case l14 => k_is); (case c14 => k_is); (case k14 => k_is); (case a15 => k_is); (case l15 => k_is); (case c15 => k_is); (case k15 => k_is); (case a16 => k_is); (case l16 => k_is); (case c16 => k_is); (case k16 => k_is); (case t16 => k_is); (case a17 => k_is); (case l17 => k_is); (case c17 => k_is); (case k17 => k_is); (case a18 => k_is); (case l18 => k_is); (case c18 => k_is); (case k18 => k_is); (case a19 => k_is); (case l19 => k_is); (case c19 => k_is); (case k19 => k_is); (case a20 => k_is); (case l20 => k_is); (case c20 => k_is); (case k20 => k_is); (case a21 => k_is); (case l21 => k_is); (case c21 => k_is); (case k21 => k_is); (case y0g => k_is); (case y0o => kx_is); (case y0m => kx_is); (case y0h => k_is); (case y0s => k_is); (case y0x => k_is); (case y0t => k_is); (case y0k => k_is); (case y0i => k_is); (case y0f => k_is); (case y0l => k_is); (case y0c => k_is); (case y0p => k_is); (case y0a => k_is); (case y0b => k_is); (case y0n_word => k_is); (case y0r => k_is); (case y0q => k_is); (case y0v => k_is); (case y0d => k_is); (case y1g => k_is); (case y1o => kx_is); (case y1m => kx_is); (case y1h => k_is); (case y1s => k_is); (case y1x => k_is); (case y1t => k_is); (case y1k => k_is); (case y1i => k_is); (case y1f => k_is); (case y1l => k_is); (case y1c => k_is); (case y1p => k_is); (case y1a => k_is); (case y1b => k_is); (case y1n_word => k_is); (case y2g => k_is); (case y2o => kx_is); (case y2m => kx_is); (case y2h => k_is); (case y2s => k_is); (case y2x => k_is); (case y2t => k_is); (case y2k => k_is); (case y2i => k_is); (case y2f => k_is); (case y2l => k_is); (case y2c => k_is); (case y2p => k_is); (case y2a => k_is); (case y2b => k_is); (case y2n_word => k_is); (case e0 => k_is); (case z0 => k_is); (case z1 => k_is); (case z2 => k_is); (case z3 => k_is); (case z4 => k_is); (case z5 => k_is); (case z6 => k_is); (case z7 => k_is); (case z8 => k_is); (case z9 => k_is); (case z10 => k_is); (case z11 => k_is); (case kc0 => k_is); (case kl0 => k_is)
