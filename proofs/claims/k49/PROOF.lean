import PyProof.Rows.All
import Wide.All
import OpenK.AllK
import Wide.FinOn
import HandS.ForMost
import HandS.ForExc
import HandS.Wide
import HandS.IsInst
import HandS.Evl
import HandS.Defaults
import HandS.TupAny
import HandS.Zip
import HandS.Style
import HandS.ExcInit
import HandS.ExcField
import KE.KExcInit
import HandS.CallSlots
import HandS.ExcIs
import KE.KExcLine
import KE.KUnpackStar
import HandS.SortKw
import KE.KDictKeyed
import KE.KDictWalk
import HandS.DictComp
import KE.SortData
import KE.KDictSum
import HandS.Conv
import PyProof.Transfer
import HandS.Deep
import KE.GoesEnum
import KE.KExcIs
import KE.KIsAll
import KE.KUnpack
import HandS.IterVal
import HandS.TupSets
import HandS.More
import PySem.Challenge.RW_umbrage_k49_marked_lines_turn
def Qt (p : Prop) : Prop := p
theorem qt_eq (p : Prop) (h : p) : Qt p = True := eq_true h
theorem qt_of {p : Prop} (h : Qt p) : p := h
set_option Elab.async false
set_option linter.all false
set_option maxRecDepth 100000
set_option maxHeartbeats 4000000
namespace U
open PySem PySem.W PyProof.Rows
set_option maxHeartbeats 0 in
open_top head_top for PySem.Challenge.rw_umbrage_k49_marked_lines_turn
end U
section
/-! The data layer: slots hold data, lists of one's own, or the bag of draws; readings evaluate to data. -/
namespace U
open PySem L2 Evl
abbrev Fg := PySem.W.Frag
abbrev Hp := L2.Hp
abbrev St := L2.St
open Classical in
noncomputable def less (H : Hp) (Z : Addr → Prop) : Hp := fun a => if Z a then none else H a
theorem less_no {H : Hp} {Z : Addr → Prop} {a : Addr} (h : ¬ Z a) : less H Z a = H a := if_neg h
theorem less_yes {H : Hp} {Z : Addr → Prop} {a : Addr} (h : Z a) : less H Z a = none := if_pos h
theorem less_some {H : Hp} {Z : Addr → Prop} {a : Addr} {o : HO} (h : less H Z a = some o) : ¬ Z a ∧ H a = some o := by
  by_cases z : Z a
  · rw [less_yes z] at h; cases h
  · rw [less_no z] at h; exact ⟨z, h⟩
theorem less_of {H : Hp} {Z : Addr → Prop} {a : Addr} {o : HO} (z : ¬ Z a) (h : H a = some o) : less H Z a = some o := (less_no z).trans h
theorem less_ex {H : Hp} {Z : Addr → Prop} : Ex (less H Z) H := fun _ _ h => (less_some h).2
theorem less_mono {H H' : Hp} {Z : Addr → Prop} (e : Ex H H') : Ex (less H Z) (less H' Z) := fun a o h => less_of (less_some h).1 (e a o (less_some h).2)
theorem less_sub {H : Hp} {Z Z' : Addr → Prop} (e : ∀ a, Z' a → Z a) : Ex (less H Z) (less H Z') := fun a o h => less_of (fun z => (less_some h).1 (e a z)) (less_some h).2
theorem less_but {H H' : Hp} {Z : Addr → Prop} (e : ∀ a o, H a = some o → ¬ Z a → H' a = some o) : Ex (less H Z) (less H' Z) := fun a o h => less_of (less_some h).1 (e a o (less_some h).2 (less_some h).1)

mutual
theorem dp_mono {K : Fg} {H H' : Hp} (e : Ex H H') : ∀ {d : PyData} {v : V}, Dp K H v d → Dp K H' v d
  | _, _, .non => .non
  | _, _, .bl b => .bl b
  | _, _, .int i => .int i
  | _, _, .str x => .str x
  | _, _, .lst h t => .lst (ex_l e h) (dpa_mono e t)
  | _, _, .tup h t => .tup (ex_t e h) (dpa_mono e t)
theorem dpa_mono {K : Fg} {H H' : Hp} (e : Ex H H') : ∀ {ds : List PyData} {vs : List V}, DpAll K H vs ds → DpAll K H' vs ds
  | _, _, .nil => .nil
  | _, _, .cons h t => .cons (dp_mono e h) (dpa_mono e t)
end
theorem dpa_len {K : Fg} {H : Hp} : ∀ {ds : List PyData} {vs : List V}, DpAll K H vs ds → vs.length = ds.length
  | _, _, .nil => rfl
  | _, _, .cons _ t => congrArg (· + 1) (dpa_len t)
theorem dpa_get {K : Fg} {H : Hp} : ∀ {ds : List PyData} {vs : List V} {i : Nat} {d : PyData}, DpAll K H vs ds → ds[i]? = some d → ∃ v, vs[i]? = some v ∧ Dp K H v d
  | _, _, _, _, .nil, e => by simp at e
  | _, _, 0, _, .cons h _, e => by
    have e := Option.some.inj e
    subst e
    exact ⟨_, rfl, h⟩
  | _, _, i + 1, _, .cons _ t, e => dpa_get (i := i) t e
theorem dpa_at {K : Fg} {H : Hp} : ∀ {ds : List PyData} {vs : List V} {i : Nat} {v : V}, DpAll K H vs ds → vs[i]? = some v → ∃ d, ds[i]? = some d ∧ Dp K H v d
  | _, _, _, _, .nil, e => by simp at e
  | _, _, 0, _, .cons h _, e => by
    have e := Option.some.inj e
    subst e
    exact ⟨_, rfl, h⟩
  | _, _, i + 1, _, .cons _ t, e => dpa_at (i := i) t e
theorem dpa_app {K : Fg} {H : Hp} : ∀ {ds es : List PyData} {vs us : List V}, DpAll K H vs ds → DpAll K H us es → DpAll K H (vs ++ us) (ds ++ es)
  | _, _, _, _, .nil, h => h
  | _, _, _, _, .cons h t, u => .cons h (dpa_app t u)

/-- the bag of draws: its cells, how often it was drawn, its number -/
structure Bag where
  cs : List Int
  i : Int
  j : Int
def Bag.ok (s : Bag) : Prop := s.cs.length ≤ 63 ∧ 0 ≤ s.j ∧ s.j < 2147483647
def BagAt (H : Hp) (B : Option (Addr × Addr)) (s : Bag) : Prop := match B with
  | some (b, c) => H b = some (.lst [.ref c, .int s.i, .int s.j]) ∧ H c = some (.lst (s.cs.map V.int)) ∧ s.ok
  | none => True
def InB (B : Option (Addr × Addr)) (a : Addr) : Prop := ∃ b c, B = some (b, c) ∧ (a = b ∨ a = c)
inductive En where
  | un
  | d (x : PyData)
  | own (xs : List PyData)
  | bag
abbrev Gam := List En
def Zs (W : Addr → Prop) (B : Option (Addr × Addr)) (ad : Nat → Addr) (G : Gam) : Addr → Prop := fun a => W a ∨ (∃ i xs, G[i]? = some (.own xs) ∧ a = ad i) ∨ InB B a
def Slot (K : Fg) (B : Option (Addr × Addr)) (ad : Nat → Addr) (H : Hp) (Z : Addr → Prop) (i : Nat) (o : Option V) : En → Prop
  | .un => True
  | .d x => ∃ v, o = some v ∧ Dp K (less H Z) v x
  | .own xs => o = some (.ref (ad i)) ∧ ∃ vs, H (ad i) = some (.lst vs) ∧ DpAll K (less H Z) vs xs
  | .bag => ∃ b c, B = some (b, c) ∧ o = some (.ref b)
/-- the state of a def's frame: slots, heap, bag, against the heap H0 at its entry -/
structure Sta (K : Fg) (W : Addr → Prop) (B : Option (Addr × Addr)) (ad : Nat → Addr) (H0 H : Hp) (σ : St) (G : Gam) (s : Bag) : Prop where
  len : σ.length = G.length
  at_ : ∀ i e, G[i]? = some e → ∃ o, σ[i]? = some o ∧ Slot K B ad H (Zs W B ad G) i o e
  inj : ∀ i j xs ys, G[i]? = some (.own xs) → G[j]? = some (.own ys) → ad i = ad j → i = j
  sep : ∀ i xs, G[i]? = some (.own xs) → H0 (ad i) = none ∧ ¬ InB B (ad i) ∧ ¬ W (ad i)
  base : ∀ a o, H0 a = some o → ¬ InB B a → H a = some o
  bag : BagAt H B s
  wd : ∀ a, W a → ∃ o, H a = some o
def swp (ad : Nat → Addr) (i : Nat) (p : Addr) : Nat → Addr := fun j => if j = i then p else ad j
theorem swp_same {ad : Nat → Addr} {i : Nat} {p : Addr} : swp ad i p i = p := if_pos rfl
theorem swp_ne {ad : Nat → Addr} {i j : Nat} {p : Addr} (h : i ≠ j) : swp ad i p j = ad j := if_neg fun z => h z.symm
section
variable {K : Fg} {W : Addr → Prop} {B : Option (Addr × Addr)} {ad : Nat → Addr} {H0 H H2 : Hp} {σ : St} {G G' : Gam} {s s' : Bag}
theorem Slot.mono {Z Z' : Addr → Prop} {i : Nat} {o : Option V} {e : En} (h : Slot K B ad H Z i o e) (x : Ex (less H Z) (less H2 Z')) (y : ∀ xs vs, e = .own xs → H (ad i) = some (.lst vs) → H2 (ad i) = some (.lst vs)) : Slot K B ad H2 Z' i o e := by
  cases e with
  | un => trivial
  | d d => obtain ⟨v, e, h⟩ := h; exact ⟨v, e, dp_mono x h⟩
  | own xs => obtain ⟨e, vs, h1, h2⟩ := h; exact ⟨e, vs, y xs vs rfl h1, dpa_mono x h2⟩
  | bag => exact h
theorem upd_there {H : Hp} {p a : Addr} {o u : HO} (h : H a = some o) : ∃ o', upd H p u a = some o' := by
  by_cases z : a = p
  · exact ⟨u, by rw [z]; exact upd_same⟩
  · exact ⟨o, by rw [upd_ne z]; exact h⟩
/-- everything stays -/
theorem Sta.ext (S : Sta K W B ad H0 H σ G s) (e : Ex H H2) : Sta K W B ad H0 H2 σ G s where
  len := S.len
  at_ := fun i en h => by
    obtain ⟨o, h1, h2⟩ := S.at_ i en h
    exact ⟨o, h1, h2.mono (less_mono e) fun _ _ _ q => e _ _ q⟩
  inj := S.inj
  sep := S.sep
  base := fun a o h n => e _ _ (S.base a o h n)
  bag := by
    have h := S.bag
    unfold BagAt at h ⊢
    split
    · exact ⟨e _ _ h.1, e _ _ h.2.1, h.2.2⟩
    · trivial
  wd := fun a z => by
    obtain ⟨o, h⟩ := S.wd a z
    exact ⟨o, e _ _ h⟩
/-- all but the bag stays -/
theorem Sta.drawn (S : Sta K W B ad H0 H σ G s) (e : ∀ a o, H a = some o → ¬ InB B a → H2 a = some o) (b : BagAt H2 B s') : Sta K W B ad H0 H2 σ G s' where
  len := S.len
  at_ := fun i en h => by
    obtain ⟨o, h1, h2⟩ := S.at_ i en h
    refine ⟨o, h1, h2.mono (less_but fun a o q z => e a o q fun y => z (.inr (.inr y))) fun xs vs q q2 => ?_⟩
    subst q
    exact e _ _ q2 (S.sep i xs h).2.1
  inj := S.inj
  sep := S.sep
  base := fun a o h n => e a o (S.base a o h n) n
  bag := b
  wd := fun a z => by
    by_cases hb : InB B a
    · obtain ⟨b1, c1, rfl, hb⟩ := hb
      rcases hb with rfl | rfl
      · exact ⟨_, b.1⟩
      · exact ⟨_, b.2.1⟩
    · obtain ⟨o, h⟩ := S.wd a z
      exact ⟨o, e _ _ h hb⟩
theorem Zs.set_of {i : Nat} {e : En} (he : ∀ xs, e ≠ .own xs) {a : Addr} (h : Zs W B ad (G.set i e) a) : Zs W B ad G a := qt_of (by simp (disch := with_unfolding_all
  rcases h with h | ⟨j, xs, h, r⟩ | h
  · exact .inl h
  · by_cases z : i = j
    · subst z
      by_cases l : i < G.length
      · rw [List.getElem?_set_self l] at h
        exact absurd (Option.some.inj h) (he xs)
      · rw [List.getElem?_eq_none (by rw [List.length_set]; omega)] at h; cases h
    · rw [List.getElem?_set_ne z] at h
      exact .inr (.inl ⟨j, xs, h, r⟩)
  · exact .inr (.inr h)
  ) only [↓qt_eq])
theorem get_set {α : Type} {l : List α} {i j : Nat} {x y : α} (h : (l.set i x)[j]? = some y) : (i = j ∧ i < l.length ∧ x = y) ∨ (i ≠ j ∧ l[j]? = some y) := qt_of (by simp (disch := with_unfolding_all
  by_cases z : i = j
  · subst z
    by_cases q : i < l.length
    · rw [List.getElem?_set_self q] at h
      exact .inl ⟨rfl, q, Option.some.inj h⟩
    · rw [List.getElem?_eq_none (by rw [List.length_set]; omega)] at h; cases h
  · rw [List.getElem?_set_ne z] at h
    exact .inr ⟨z, h⟩
  ) only [↓qt_eq])
/-- a slot gets a thing that is no list of one's own -/
theorem Sta.set (S : Sta K W B ad H0 H σ G s) {i : Nat} {e : En} {o : Option V} (he : ∀ xs, e ≠ .own xs) (h : Slot K B ad H (Zs W B ad G) i o e) : Sta K W B ad H0 H (σ.set i o) (G.set i e) s where
  len := by rw [List.length_set, List.length_set]; exact S.len
  at_ := fun j en g => by
    rcases get_set g with ⟨rfl, l, rfl⟩ | ⟨z, g⟩
    · refine ⟨o, List.getElem?_set_self (by rw [S.len]; exact l), h.mono (less_sub fun a q => Zs.set_of he q) fun _ _ _ q => q⟩
    · obtain ⟨o', h1, h2⟩ := S.at_ j en g
      exact ⟨o', by rw [List.getElem?_set_ne z]; exact h1, h2.mono (less_sub fun a q => Zs.set_of he q) fun _ _ _ q => q⟩
  inj := fun j k xs ys g g' q => by
    rcases get_set g with ⟨rfl, l, e⟩ | ⟨z, g⟩
    · exact absurd e (he xs)
    · rcases get_set g' with ⟨rfl, l, e⟩ | ⟨z', g'⟩
      · exact absurd e (he ys)
      · exact S.inj j k xs ys g g' q
  sep := fun j xs g => by
    rcases get_set g with ⟨rfl, l, e⟩ | ⟨z, g⟩
    · exact absurd e (he xs)
    · exact S.sep j xs g
  base := S.base
  bag := S.bag
  wd := S.wd
theorem Sta.setD (S : Sta K W B ad H0 H σ G s) {i : Nat} {v : V} {x : PyData} (h : Dp K (less H (Zs W B ad G)) v x) : Sta K W B ad H0 H (σ.set i (some v)) (G.set i (.d x)) s :=
  S.set (fun _ z => by cases z) ⟨v, rfl, h⟩
theorem Sta.fresh (S : Sta K W B ad H0 H σ G s) {p : Addr} (h : H p = none) : H0 p = none ∧ ¬ InB B p := qt_of (by simp (disch := with_unfolding_all
  have hB : ¬ InB B p := by
    rintro ⟨b, c, rfl, z⟩
    have q := S.bag
    unfold BagAt at q
    rcases z with rfl | rfl
    · rw [q.1] at h; cases h
    · rw [q.2.1] at h; cases h
  refine ⟨?_, hB⟩
  cases e : H0 p with
  | none => rfl
  | some o => rw [S.base p o e hB] at h; cases h
  ) only [↓qt_eq])
/-- a thing of another's, which is new to this def, is changed -/
theorem Sta.foreign (S : Sta K W B ad H0 H σ G s) {p : Addr} {o : HO} (hw : W p) (h0 : H0 p = none) (hB : ¬ InB B p) : Sta K W B ad H0 (upd H p o) σ G s ∧ less (upd H p o) (Zs W B ad G) = less H (Zs W B ad G) := qt_of (by simp (disch := with_unfolding_all
  have el : less (upd H p o) (Zs W B ad G) = less H (Zs W B ad G) := by
    funext a
    by_cases z : Zs W B ad G a
    · rw [less_yes z, less_yes z]
    · rw [less_no z, less_no z, upd_ne (fun e => z (.inl (by rw [e]; exact hw)))]
  refine ⟨⟨S.len, fun i e h => ?_, S.inj, S.sep, fun a u q n => ?_, ?_, fun a z => (S.wd a z).elim fun o q => upd_there q⟩, el⟩
  · obtain ⟨u, g1, g2⟩ := S.at_ i e h
    refine ⟨u, g1, g2.mono (by rw [el]; exact Ex.refl _) fun xs vs q q2 => ?_⟩
    subst q
    rw [upd_ne (fun z => (S.sep i xs h).2.2 (by rw [z]; exact hw))]; exact q2
  · rw [upd_ne (fun z => by rw [z, h0] at q; cases q)]; exact S.base a u q n
  · have hg := S.bag
    rcases B with _ | ⟨b, c⟩
    · trivial
    · have h : H b = _ ∧ _ := hg
      refine ⟨?_, ?_, h.2.2⟩
      · rw [upd_ne (fun z => hB ⟨b, c, rfl, .inl z.symm⟩)]; exact h.1
      · rw [upd_ne (fun z => hB ⟨b, c, rfl, .inr z.symm⟩)]; exact h.2.1
  ) only [↓qt_eq])
/-- a new thing is for a while another's -/
theorem Sta.lend (S : Sta K W B ad H0 H σ G s) {p : Addr} {o : HO} (hp : H p = none) : Sta K (fun a => W a ∨ a = p) B ad H0 (upd H p o) σ G s ∧ less (upd H p o) (Zs (fun a => W a ∨ a = p) B ad G) = less H (Zs W B ad G) := qt_of (by simp (disch := with_unfolding_all
  have np : ¬ Zs W B ad G p := by
    rintro (z | ⟨i, xs, g, r⟩ | z)
    · obtain ⟨o, z⟩ := S.wd _ z
      rw [hp] at z; cases z
    · obtain ⟨_, _, _, vs, h1, _⟩ := S.at_ i _ g
      rw [← r, hp] at h1; cases h1
    · obtain ⟨b, c, rfl, z⟩ := z
      rcases z with rfl | rfl
      · rw [S.bag.1] at hp; cases hp
      · rw [S.bag.2.1] at hp; cases hp
  have zz : ∀ a, Zs (fun a => W a ∨ a = p) B ad G a ↔ Zs W B ad G a ∨ a = p := fun a => by
    constructor
    · rintro ((z | z) | z | z)
      · exact .inl (.inl z)
      · exact .inr z
      · exact .inl (.inr (.inl z))
      · exact .inl (.inr (.inr z))
    · rintro ((z | z | z) | z)
      · exact .inl (.inl z)
      · exact .inr (.inl z)
      · exact .inr (.inr z)
      · exact .inl (.inr z)
  have el : less (upd H p o) (Zs (fun a => W a ∨ a = p) B ad G) = less H (Zs W B ad G) := by
    funext a
    by_cases e : a = p
    · rw [less_yes ((zz a).mpr (.inr e)), e, less_no np, hp]
    · by_cases z : Zs W B ad G a
      · rw [less_yes z, less_yes ((zz a).mpr (.inl z))]
      · rw [less_no z, less_no (fun y => ((zz a).mp y).elim z e), upd_ne e]
  have ex : Ex H (upd H p o) := Ex.new hp
  have S' := S.ext ex
  refine ⟨⟨S.len, fun i e h => ?_, S.inj, fun i xs h => ⟨(S.sep i xs h).1, (S.sep i xs h).2.1, fun z => z.elim (S.sep i xs h).2.2 fun z => np (by rw [← z]; exact .inr (.inl ⟨i, xs, h, rfl⟩))⟩, S'.base, S'.bag, fun a z => z.elim (fun z => S'.wd a z) fun z => ⟨o, by rw [z]; exact upd_same⟩⟩, el⟩
  obtain ⟨u, g1, g2⟩ := S.at_ i e h
  exact ⟨u, g1, g2.mono (by rw [el]; exact Ex.refl _) fun xs vs q q2 => ex _ _ q2⟩
  ) only [↓qt_eq])
/-- .. and is given back -/
theorem Sta.back {p : Addr} (S : Sta K (fun a => W a ∨ a = p) B ad H0 H σ G s) : Sta K W B ad H0 H σ G s ∧ Ex (less H (Zs (fun a => W a ∨ a = p) B ad G)) (less H (Zs W B ad G)) := qt_of (by simp (disch := with_unfolding_all
  have ex : Ex (less H (Zs (fun a => W a ∨ a = p) B ad G)) (less H (Zs W B ad G)) := less_sub fun a z => z.elim (fun z => .inl (.inl z)) .inr
  refine ⟨⟨S.len, fun i e h => ?_, S.inj, fun i xs h => ⟨(S.sep i xs h).1, (S.sep i xs h).2.1, fun z => (S.sep i xs h).2.2 (.inl z)⟩, S.base, S.bag, fun a z => S.wd a (.inl z)⟩, ex⟩
  obtain ⟨u, g1, g2⟩ := S.at_ i e h
  exact ⟨u, g1, g2.mono ex fun _ _ _ q => q⟩
  ) only [↓qt_eq])
end
end U

end
section
namespace U
open PySem L2 Evl
/-- all but the bag stays -/
def Xb (B : Option (Addr × Addr)) (H H2 : Hp) : Prop := ∀ a o, H a = some o → ¬ InB B a → H2 a = some o
theorem Xb.refl {B : Option (Addr × Addr)} {H : Hp} : Xb B H H := fun _ _ h _ => h
theorem Xb.trans {B : Option (Addr × Addr)} {H H1 H2 : Hp} (a : Xb B H H1) (b : Xb B H1 H2) : Xb B H H2 := fun p o h n => b p o (a p o h n) n
theorem Xb.l {B : Option (Addr × Addr)} {H H2 : Hp} (a : Xb B H H2) {W : Addr → Prop} {ad : Nat → Addr} {G : Gam} : Ex (less H (Zs W B ad G)) (less H2 (Zs W B ad G)) := less_but fun p o h n => a p o h fun z => n (.inr (.inr z))
theorem Xb.of {B : Option (Addr × Addr)} {H H2 : Hp} (e : Ex H H2) : Xb B H H2 := fun p o h _ => e p o h
/-! ### what a reading evaluates to -/
def EvG (K : Fg) (te : TE) (G : Gam) (s : Bag) (x : PyData) (s' : Bag) : Prop :=
  ∀ W B ad H0 H σ, Sta K W B ad H0 H σ G s → ∀ Q : VK, (∀ v H2, Sta K W B ad H0 H2 σ G s' → Xb B H H2 → Dp K (less H2 (Zs W B ad G)) v x → Q v H2) → te σ H Q
def EvT (K : Fg) (tt : TT) (G : Gam) (s : Bag) (b : Bool) (s' : Bag) : Prop :=
  ∀ W B ad H0 H σ, Sta K W B ad H0 H σ G s → ∀ Q : Bool → Hp → Prop, (∀ H2, Sta K W B ad H0 H2 σ G s' → Xb B H H2 → Q b H2) → tt σ H Q
def EvA (K : Fg) (ta : TA) (G : Gam) (s : Bag) (xs : List PyData) (s' : Bag) : Prop :=
  ∀ W B ad H0 H σ, Sta K W B ad H0 H σ G s → ∀ Q : List V → Hp → Prop, (∀ vs H2, Sta K W B ad H0 H2 σ G s' → Xb B H H2 → DpAll K (less H2 (Zs W B ad G)) vs xs → Q vs H2) → ta σ H Q
/-- a new list as a value of its own (not yet data) is not spoken of: lists are data once made -/
inductive Out where
  | nx (G : Gam) (s : Bag)
  | rt (x : PyData) (s : Bag)
  | bk (G : Gam) (s : Bag)
  | ct (G : Gam) (s : Bag)
def Post (K : Fg) (W : Addr → Prop) (B : Option (Addr × Addr)) (H0 M : Hp) (D : Ends) : Out → Prop
  | .nx G s => ∀ ad H σ, Sta K W B ad H0 H σ G s → Ex M (less H (Zs W B ad G)) → D.nx σ H
  | .rt x s => ∀ v H, (∀ a o, H0 a = some o → ¬ InB B a → H a = some o) → BagAt H B s → Dp K (less H fun a => W a ∨ InB B a) v x → D.rt v H
  | .bk G s => ∀ ad H σ, Sta K W B ad H0 H σ G s → Ex M (less H (Zs W B ad G)) → D.bk σ H
  | .ct G s => ∀ ad H σ, Sta K W B ad H0 H σ G s → Ex M (less H (Zs W B ad G)) → D.ct σ H
def SG (K : Fg) (ts : TS) (G : Gam) (s : Bag) (o : Out) : Prop :=
  ∀ W B ad H0 H σ (D : Ends), Sta K W B ad H0 H σ G s → Post K W B H0 (less H (Zs W B ad G)) D o → ts D σ H

section
variable {K : Fg} {G G1 G2 : Gam} {s s1 s2 s3 s' : Bag} {ta tb tc te : TE} {t u : TT} {x y z : PyData}
/-! ### values -/
theorem ev_is {x'} (h : EvG K te G s x s') (e : x = x') : EvG K te G s x' s' := e ▸ h
theorem et_is {b b' : Bool} (h : EvT K t G s b s') (e : b = b') : EvT K t G s b' s' := e ▸ h
theorem ev_var {i : Nat} (h : G[i]? = some (.d x)) : EvG K (tVar i) G s x s := fun W B ad H0 H σ S Q q => by
  obtain ⟨o, h1, v, rfl, h2⟩ := S.at_ i _ h
  exact ⟨v, h1, q v H S (Xb.refl) h2⟩
theorem ev_int {i : Int} : EvG K (tC (.int i)) G s (.int i) s := fun W B ad H0 H σ S Q q => q _ H S (Xb.refl) (.int i)
/-! ### argument lists and displays -/
theorem ea_nil : EvA K tNil G s [] s := fun W B ad H0 H σ S Q q => q _ H S (Xb.refl) .nil
theorem ea_cons {tr : TA} {xs : List PyData} (h : EvG K ta G s x s1) (hr : EvA K tr G s1 xs s2) : EvA K (tCons ta tr) G s (x :: xs) s2 := fun W B ad H0 H σ S Q q =>
  h W B ad H0 H σ S _ fun v H1 S1 e1 d1 => hr W B ad H0 H1 σ S1 _ fun vs H2 S2 e2 d2 => q _ H2 S2 (e1.trans e2) (.cons (dp_mono e2.l d1) d2)
theorem new_ex {W : Addr → Prop} {B : Option (Addr × Addr)} {ad : Nat → Addr} {H0 H : Hp} {σ : St} (S : Sta K W B ad H0 H σ G s) {p : Addr} {o : HO} (h : H p = none) :
    Sta K W B ad H0 (upd H p o) σ G s ∧ Xb B H (upd H p o) ∧ less (upd H p o) (Zs W B ad G) p = some o := qt_of (by simp (disch := with_unfolding_all
  have e : Ex H (upd H p o) := Ex.new h
  refine ⟨S.ext e, .of e, less_of ?_ upd_same⟩
  rintro (z | ⟨i, xs, g, r⟩ | z)
  · obtain ⟨o, z⟩ := S.wd _ z
    rw [h] at z; cases z
  · obtain ⟨_, _, _, vs, h1, _⟩ := S.at_ i _ g
    rw [← r, h] at h1; cases h1
  · exact (S.fresh h).2 z
  ) only [↓qt_eq])
theorem sz_line {n : Nat} (h : n ≤ 16000000) : n ≤ sizeLine := Nat.le_trans h (by decide)
theorem ev_tup {ta : TA} {xs : List PyData} (h : EvA K ta G s xs s') (hl : xs.length ≤ 16000000) : EvG K (tTup ta) G s (.tuple xs) s' := fun W B ad H0 H σ S Q q =>
  h W B ad H0 H σ S _ fun vs H1 S1 e1 d1 => ⟨by rw [dpa_len d1]; exact sz_line hl, fun p hp => by
    obtain ⟨S2, e2, g⟩ := new_ex (o := .tup vs) S1 hp
    exact q _ _ S2 (e1.trans e2) (.tup (st_of g) (dpa_mono e2.l d1))⟩
theorem ev_lst {ta : TA} {xs : List PyData} (h : EvA K ta G s xs s') (hl : xs.length ≤ 16000000) : EvG K (tLst ta) G s (.list xs) s' := fun W B ad H0 H σ S Q q =>
  h W B ad H0 H σ S _ fun vs H1 S1 e1 d1 => ⟨by rw [dpa_len d1]; exact sz_line hl, fun p hp => by
    obtain ⟨S2, e2, g⟩ := new_ex (o := .lst vs) S1 hp
    exact q _ _ S2 (e1.trans e2) (.lst (sq_of g) (dpa_mono e2.l d1))⟩
/-! ### operators -/
theorem ev_I0 {g : Int → Int → V} {f : Int → Int → PyData} {i j : Int} (ha : EvG K ta G s (.int i) s1) (hb : EvG K tb G s1 (.int j) s2) (hg : ∀ H, Dp K H (g i j) (f i j)) : EvG K (tOp (rI0 g) ta tb) G s (f i j) s2 := fun W B ad H0 H σ S Q q =>
  ha W B ad H0 H σ S _ fun v H1 S1 e1 d1 => hb W B ad H0 H1 σ S1 _ fun w H2 S2 e2 d2 => by
    cases d1; cases d2
    exact ⟨i, j, rfl, rfl, q _ H2 S2 (e1.trans e2) (hg _)⟩
theorem ev_I {C : Int → Int → Prop} {g : Int → Int → V} {f : Int → Int → PyData} {i j : Int} (ha : EvG K ta G s (.int i) s1) (hb : EvG K tb G s1 (.int j) s2) (hc : C i j) (hg : ∀ H, Dp K H (g i j) (f i j)) : EvG K (tOp (rI C g) ta tb) G s (f i j) s2 := fun W B ad H0 H σ S Q q =>
  ha W B ad H0 H σ S _ fun v H1 S1 e1 d1 => hb W B ad H0 H1 σ S1 _ fun w H2 S2 e2 d2 => by
    cases d1; cases d2
    exact ⟨i, j, rfl, rfl, hc, q _ H2 S2 (e1.trans e2) (hg _)⟩
theorem ev_add {i j : Int} (ha : EvG K ta G s (.int i) s1) (hb : EvG K tb G s1 (.int j) s2) : EvG K (tOp (rI0 fun i j => .int (i + j)) ta tb) G s (.int (i + j)) s2 := ev_I0 (f := fun i j => .int (i + j)) ha hb fun _ => .int _
theorem ev_sub {i j : Int} (ha : EvG K ta G s (.int i) s1) (hb : EvG K tb G s1 (.int j) s2) : EvG K (tOp (rI0 fun i j => .int (i - j)) ta tb) G s (.int (i - j)) s2 := ev_I0 (f := fun i j => .int (i - j)) ha hb fun _ => .int _
theorem ev_mul {i j : Int} (ha : EvG K ta G s (.int i) s1) (hb : EvG K tb G s1 (.int j) s2) (hc : CMulW i j) : EvG K (tOp (rI CMulW fun i j => .int (i * j)) ta tb) G s (.int (i * j)) s2 := ev_I (f := fun i j => .int (i * j)) ha hb hc fun _ => .int _
/-- // by any divisor but 0, of less than 9000 bits -/
def CDvX (_ j : Int) : Prop := j ≠ 0 ∧ j.natAbs.log2 < 9000
theorem op_fdivX {X : Cx} : OpR X (binaryOp .FloorDiv) (rI CDvX fun i j => .int (i.fdiv j)) := opI fun i j _ _ _ _ _ hc q => PyProof.Rows.floordiv_int hc.1 q (.inl (PyProof.noPylong_of_log2 hc.2))
theorem ev_fdiv {i j : Int} (ha : EvG K ta G s (.int i) s1) (hb : EvG K tb G s1 (.int j) s2) (hc : CDvX i j) : EvG K (tOp (rI CDvX fun i j => .int (i.fdiv j)) ta tb) G s (.int (i.fdiv j)) s2 := ev_I (f := fun i j => .int (i.fdiv j)) ha hb hc fun _ => .int _
def CNz (_ j : Int) : Prop := j ≠ 0
theorem op_modX {X : Cx} : OpR X (binaryOp .Mod) (rI CNz fun i j => .int (i.fmod j)) := op_modN
theorem ev_mod {i j : Int} (ha : EvG K ta G s (.int i) s1) (hb : EvG K tb G s1 (.int j) s2) (hc : CNz i j) : EvG K (tOp (rI CNz fun i j => .int (i.fmod j)) ta tb) G s (.int (i.fmod j)) s2 := ev_I (f := fun i j => .int (i.fmod j)) ha hb hc fun _ => .int _
theorem ev_lt {i j : Int} (ha : EvG K ta G s (.int i) s1) (hb : EvG K tb G s1 (.int j) s2) : EvG K (tOp (rI0 fun i j => .bl (decide (i < j))) ta tb) G s (.bool (decide (i < j))) s2 := ev_I0 (f := fun i j => .bool (decide (i < j))) ha hb fun _ => .bl _
theorem ev_gt {i j : Int} (ha : EvG K ta G s (.int i) s1) (hb : EvG K tb G s1 (.int j) s2) : EvG K (tOp (rI0 fun i j => .bl (decide (j < i))) ta tb) G s (.bool (decide (j < i))) s2 := ev_I0 (f := fun i j => .bool (decide (j < i))) ha hb fun _ => .bl _
theorem ev_eqI {i j : Int} (ha : EvG K ta G s (.int i) s1) (hb : EvG K tb G s1 (.int j) s2) : EvG K (tOp rEq ta tb) G s (.bool (decide (i = j))) s2 := fun W B ad H0 H σ S Q q =>
  ha W B ad H0 H σ S _ fun v H1 S1 e1 d1 => hb W B ad H0 H1 σ S1 _ fun w H2 S2 e2 d2 => by
    cases d1; cases d2
    have e : decide (V.int i = V.int j) = decide (i = j) := by simp
    exact ⟨rfl, by rw [e]; exact q _ H2 S2 (e1.trans e2) (.bl _)⟩
theorem ev_neg {i : Int} (ha : EvG K ta G s (.int i) s') : EvG K (tUn (rU fun i => .int (-i)) ta) G s (.int (-i)) s' := fun W B ad H0 H σ S Q q =>
  ha W B ad H0 H σ S _ fun v H1 S1 e1 d1 => by
    cases d1
    exact ⟨i, rfl, q _ H1 S1 e1 (.int _)⟩
/-! ### items -/
theorem dpa_atI {K : Fg} {H : Hp} {ds : List PyData} {vs : List V} {i : Int} {d : PyData} (h : DpAll K H vs ds) (e : atI ds i = some d) : ∃ v, atI vs i = some v ∧ Dp K H v d := by
  unfold atI at e ⊢
  rw [dpa_len h]
  cases q : ixN ds.length i with
  | none => rw [q] at e; cases e
  | some j =>
    rw [q] at e
    exact dpa_get h e
theorem ev_ixT {xs : List PyData} {i : Int} (ha : EvG K ta G s (.tuple xs) s1) (hb : EvG K tb G s1 (.int i) s2) (he : atI xs i = some x) : EvG K (tOp (rIx K) ta tb) G s x s2 := fun W B ad H0 H σ S Q q =>
  ha W B ad H0 H σ S _ fun v H1 S1 e1 d1 => hb W B ad H0 H1 σ S1 _ fun w H2 S2 e2 d2 => by
    cases d2
    cases dp_mono e2.l d1 with
    | tup h t =>
      obtain ⟨v, g1, g2⟩ := dpa_atI t he
      exact .inr (.inl ⟨_, _, i, v, rfl, rfl, ex_t less_ex h, g1, q _ H2 S2 (e1.trans e2) g2⟩)
theorem ev_ixL {xs : List PyData} {i : Int} (ha : EvG K ta G s (.list xs) s1) (hb : EvG K tb G s1 (.int i) s2) (he : atI xs i = some x) : EvG K (tOp (rIx K) ta tb) G s x s2 := fun W B ad H0 H σ S Q q =>
  ha W B ad H0 H σ S _ fun v H1 S1 e1 d1 => hb W B ad H0 H1 σ S1 _ fun w H2 S2 e2 d2 => by
    cases d2
    cases dp_mono e2.l d1 with
    | lst h t =>
      obtain ⟨v, g1, g2⟩ := dpa_atI t he
      exact .inl ⟨_, _, i, v, rfl, rfl, ex_l less_ex h, g1, q _ H2 S2 (e1.trans e2) g2⟩
/-! ### tests -/
theorem et_test {b : Bool} (h : EvG K te G s (.bool b) s') : EvT K (tTest te) G s b s' := fun W B ad H0 H σ S Q q => h W B ad H0 H σ S _ fun v H1 S1 e1 d1 => by
  cases d1
  exact ⟨b, rfl, q H1 S1 e1⟩
/-! ### what a def promises: of data; of the bag and data -/
def spP (K : Fg) (P : List PyData → PyData → Prop) : Sp := fun vs H Q _ => ∃ (W : Addr → Prop) (ds : List PyData) (r : PyData), (∀ a, W a → ∃ o, H a = some o) ∧ DpAll K (less H W) vs ds ∧ P ds r ∧ ∀ v H', Ex H H' → Dp K (less H' W) v r → Q v H'
def spB (K : Fg) (P : Bag → List PyData → PyData → Bag → Prop) : Sp := fun vs H Q _ => ∃ (W : Addr → Prop) (b c : Addr) (us : List V) (s : Bag) (ds : List PyData) (r : PyData) (s' : Bag), (∀ a, W a → ∃ o, H a = some o) ∧ vs = .ref b :: us ∧ BagAt H (some (b, c)) s ∧
  DpAll K (less H fun a => W a ∨ InB (some (b, c)) a) us ds ∧ P s ds r s' ∧ ∀ v H', (∀ a o, H a = some o → ¬ InB (some (b, c)) a → H' a = some o) → BagAt H' (some (b, c)) s' → Dp K (less H' fun a => W a ∨ InB (some (b, c)) a) v r → Q v H'
theorem bag_there {H : Hp} {B : Option (Addr × Addr)} {a : Addr} (h : BagAt H B s) (z : InB B a) : ∃ o, H a = some o := by
  obtain ⟨b, c, rfl, z⟩ := z
  rcases z with rfl | rfl
  · exact ⟨_, h.1⟩
  · exact ⟨_, h.2.1⟩
theorem Sta.there {W : Addr → Prop} {B : Option (Addr × Addr)} {ad : Nat → Addr} {H0 H : Hp} {σ : St} (S : Sta K W B ad H0 H σ G s) (a : Addr) (z : Zs W B ad G a) : ∃ o, H a = some o := by
  by_cases hb : InB B a
  · exact bag_there S.bag hb
  rcases z with z | ⟨i, xs, g, rfl⟩ | z
  · exact S.wd _ z
  · obtain ⟨_, _, _, vs, h1, _⟩ := S.at_ i _ g
    exact ⟨_, h1⟩
  · exact absurd z hb
theorem ev_call {P : List PyData → PyData → Prop} {ta : TA} {ds : List PyData} {dvs : List V} {des : List PyData} {E : XK} (h : EvA K ta G s ds s') (hd : ∀ H, DpAll K H dvs des) (hp : P (ds ++ des) x) : EvG K (tCall (spP K P) dvs E ta) G s x s' := fun W B ad H0 H σ S Q q =>
  h W B ad H0 H σ S _ fun vs H1 S1 e1 d1 => ⟨Zs W B ad G, ds ++ des, x, S1.there, dpa_app d1 (hd _), hp, fun v H' e d => q v H' (S1.ext e) (e1.trans (.of e)) d⟩
theorem ev_callB {P : Bag → List PyData → PyData → Bag → Prop} {tr : TA} {i : Nat} {ds : List PyData} {E : XK} (hi : G[i]? = some .bag) (h : EvA K tr G s ds s1) (hp : P s1 ds x s') : EvG K (tCall (spB K P) [] E (tCons (tVar i) tr)) G s x s' := fun W B ad H0 H σ S Q q => by
  obtain ⟨o, g1, b, c, rfl, rfl⟩ := S.at_ i _ hi
  refine ⟨_, g1, h W _ ad H0 H σ S _ fun vs H1 S1 e1 d1 => ?_⟩
  have zz : ∀ a, (((fun a => W a ∨ ∃ i xs, G[i]? = some (En.own xs) ∧ a = ad i) a) ∨ InB (some (b, c)) a) ↔ Zs W (some (b, c)) ad G a := fun a => or_assoc
  have zl : ∀ H : Hp, (less H fun a => (W a ∨ ∃ i xs, G[i]? = some (En.own xs) ∧ a = ad i) ∨ InB (some (b, c)) a) = less H (Zs W (some (b, c)) ad G) := fun H => congrArg (less H) (funext fun a => propext (zz a))
  refine ⟨fun a => W a ∨ ∃ i xs, G[i]? = some (En.own xs) ∧ a = ad i, b, c, vs, s1, ds, x, s', fun a z => S1.there a ((zz a).mp (.inl z)), ?_, S1.bag, ?_, hp, fun v H' e hb d => ?_⟩
  · rw [List.append_nil]
  · rw [zl]; exact d1
  · rw [zl] at d
    exact q v H' (S1.drawn e hb) (e1.trans e) d
end
end U

end
section
namespace U
open PySem L2 Evl
/-! ### built-ins, by name -/
def rAbs : List V → Hp → VK → Prop := fun xs H Q => ∃ i, xs = [.int i] ∧ Q (.int (if i < 0 then -i else i)) H
def rMx : List V → Hp → VK → Prop := fun xs H Q => ∃ i j, xs = [.int i, .int j] ∧ Q (.int (if j > i then j else i)) H
def rInt1 : List V → Hp → VK → Prop := fun xs H Q => (∃ i, xs = [.int i] ∧ Q (.int i) H) ∨ ∃ k, xs = [.bl k] ∧ Q (.int (if k then 1 else 0)) H
def rLenQ (K : Fg) : List V → Hp → VK → Prop := fun xs H Q => ∃ p ys, xs = [.ref p] ∧ (SqL K H p ys ∨ SqT K H p ys) ∧ Q (.int ys.length) H
def rListQ (K : Fg) : List V → Hp → VK → Prop := fun xs H Q => ∃ p ys, xs = [.ref p] ∧ (SqL K H p ys ∨ SqT K H p ys) ∧ ∀ l, H l = none → Q (.ref l) (upd H l (.lst ys))
def rTupQ (K : Fg) : List V → Hp → VK → Prop := fun xs H Q => ∃ p ys, xs = [.ref p] ∧ ((SqL K H p ys ∧ ∀ l, H l = none → Q (.ref l) (upd H l (.tup ys))) ∨ (SqT K H p ys ∧ Q (.ref p) H))
section
variable {X : Cx}
theorem c_abs : CallR X (.builtin "abs") rAbs := call_abs
theorem c_max2 (hc : X.calm = true) : CallR X (.builtin "max") rMx := call_max2 hc
theorem c_int1 : CallR X (.type "int") rInt1 := call_int1
theorem c_len : CallR X (.builtin "len") (rLenQ X.K) := call_len_seq
theorem c_list : CallR X (.type "list") (rListQ X.K) := call_list_of
theorem c_tuple : CallR X (.type "tuple") (rTupQ X.K) := call_tuple_of
end
section
variable {K : Fg} {G G1 G2 : Gam} {s s1 s2 s3 s' : Bag} {ta tb tc te : TE} {t u : TT} {x y z : PyData}
/-- a call of a built-in upon data -/
theorem ev_cb {r : List V → Hp → VK → Prop} {ta : TA} {xs : List PyData} (h : EvA K ta G s xs s')
    (hr : ∀ W B ad H0 H σ vs, Sta K W B ad H0 H σ G s' → DpAll K (less H (Zs W B ad G)) vs xs → ∀ Q : VK, (∀ v H2, Sta K W B ad H0 H2 σ G s' → Xb B H H2 → Dp K (less H2 (Zs W B ad G)) v x → Q v H2) → r vs H Q) : EvG K (tCB r ta) G s x s' := fun W B ad H0 H σ S Q q =>
  h W B ad H0 H σ S _ fun vs H1 S1 e1 d1 => hr W B ad H0 H1 σ vs S1 d1 Q fun v H2 S2 e2 d2 => q v H2 S2 (e1.trans e2) d2
theorem dp1 {H : Hp} {vs : List V} {x : PyData} (h : DpAll K H vs [x]) : ∃ v, vs = [v] ∧ Dp K H v x := by
  cases h with
  | cons a b => cases b; exact ⟨_, rfl, a⟩
theorem dp2 {H : Hp} {vs : List V} {x y : PyData} (h : DpAll K H vs [x, y]) : ∃ v w, vs = [v, w] ∧ Dp K H v x ∧ Dp K H w y := by
  cases h with
  | cons a b => obtain ⟨w, rfl, c⟩ := dp1 b; exact ⟨_, w, rfl, a, c⟩
def absI (i : Int) : Int := if i < 0 then -i else i
def maxI (i j : Int) : Int := if j > i then j else i
theorem ev_abs {i : Int} (h : EvG K ta G s (.int i) s') : EvG K (tCB rAbs (tCons ta tNil)) G s (.int (absI i)) s' := ev_cb (ea_cons h ea_nil) fun W B ad H0 H σ vs S d Q q => by
  obtain ⟨v, rfl, d1⟩ := dp1 d
  cases d1
  exact ⟨i, rfl, q _ H S (Xb.refl) (.int _)⟩
theorem ev_max {i j : Int} (h : EvG K ta G s (.int i) s1) (h2 : EvG K tb G s1 (.int j) s') : EvG K (tCB rMx (tCons ta (tCons tb tNil))) G s (.int (maxI i j)) s' := ev_cb (ea_cons h (ea_cons h2 ea_nil)) fun W B ad H0 H σ vs S d Q q => by
  obtain ⟨v, w, rfl, d, d2⟩ := dp2 d
  cases d; cases d2
  exact ⟨i, j, rfl, q _ H S (Xb.refl) (.int _)⟩
theorem ev_intB {i : Bool} (h : EvG K ta G s (.bool i) s') : EvG K (tCB rInt1 (tCons ta tNil)) G s (.int (if i then 1 else 0)) s' := ev_cb (ea_cons h ea_nil) fun W B ad H0 H σ vs S d Q q => by
  obtain ⟨v, rfl, d1⟩ := dp1 d
  cases d1
  exact .inr ⟨i, rfl, q _ H S (Xb.refl) (.int _)⟩
theorem ev_lenT {xs : List PyData} (h : EvG K ta G s (.tuple xs) s') : EvG K (tCB (rLenQ K) (tCons ta tNil)) G s (.int xs.length) s' := ev_cb (ea_cons h ea_nil) fun W B ad H0 H σ vs S d Q q => by
  obtain ⟨v, rfl, d1⟩ := dp1 d
  cases d1 with
  | tup g t => exact ⟨_, _, rfl, .inr (ex_t less_ex g), by rw [dpa_len t]; exact q _ H S (Xb.refl) (.int _)⟩
theorem new_tup {W : Addr → Prop} {B : Option (Addr × Addr)} {ad : Nat → Addr} {H0 H : Hp} {σ : St} {vs : List V} {xs : List PyData} (S : Sta K W B ad H0 H σ G s) (d : DpAll K (less H (Zs W B ad G)) vs xs) {l : Addr} (hl : H l = none) {Q : VK}
    (q : ∀ v H2, Sta K W B ad H0 H2 σ G s → Xb B H H2 → Dp K (less H2 (Zs W B ad G)) v (.tuple xs) → Q v H2) : Q (.ref l) (upd H l (.tup vs)) := by
  obtain ⟨S2, e2, g⟩ := new_ex (o := .tup vs) S hl
  exact q _ _ S2 e2 (.tup (st_of g) (dpa_mono e2.l d))
theorem ev_tupL {xs : List PyData} (h : EvG K ta G s (.list xs) s') : EvG K (tCB (rTupQ K) (tCons ta tNil)) G s (.tuple xs) s' := ev_cb (ea_cons h ea_nil) fun W B ad H0 H σ vs S d Q q => by
  obtain ⟨v, rfl, d1⟩ := dp1 d
  cases d1 with
  | lst g t => exact ⟨_, _, rfl, .inl ⟨ex_l less_ex g, fun l hl => new_tup S t hl q⟩⟩
theorem dpa_bools {H : Hp} : ∀ {bs : List Bool} {vs : List V}, DpAll K H vs (bs.map PyData.bool) → vs = bs.map V.bl
  | [], _, .nil => rfl
  | b :: r, _, .cons h t => by cases h; rw [dpa_bools t]; rfl
theorem dpa_ints {H : Hp} : ∀ {bs : List Int} {vs : List V}, DpAll K H vs (bs.map PyData.int) → vs = bs.map V.int
  | [], _, .nil => rfl
  | b :: r, _, .cons h t => by cases h; rw [dpa_ints t]; rfl
theorem dpa_of_ints {H : Hp} : ∀ (bs : List Int), DpAll K H (bs.map V.int) (bs.map PyData.int)
  | [] => .nil
  | b :: r => .cons (.int b) (dpa_of_ints r)
/-! ### isinstance -/
def tyN : PyData → String
  | .none => "NoneType"
  | .bool _ => "bool"
  | .int _ => "int"
  | .str _ => "str"
  | .list _ => "list"
  | .tuple _ => "tuple"
  | .dict _ => "dict"
theorem dp_ty {H : Hp} {Z : Addr → Prop} {v : V} {x : PyData} (h : Dp K (less H Z) v x) : TyX K H v (.type (tyN x)) := qt_of (by simp (disch := with_unfolding_all
  cases h with
  | non => exact .base .non
  | bl b => exact .base (.bl b)
  | int i => exact .base (.int i)
  | str i => exact .base (.str i)
  | lst g _ =>
    rcases ex_l less_ex g with (g | ⟨o, g⟩) | ⟨o, its, n, k, c, _⟩
    · exact .base (.lst g)
    · exact .base (.frz g)
    · exact .kList k c
  | tup g _ =>
    rcases ex_t less_ex g with (g | ⟨o, g⟩) | ⟨o, its, n, k, c, _⟩
    · exact .base (.tup g)
    · exact .fTuple g
    · exact .kTuple k c
  ) only [↓qt_eq])
/-! ### slices -/
def cutD (xs : List PyData) (lo hi : Option Int) : List PyData := (xs.drop (HT.sIx xs.length 0 lo)).take (HT.sIx xs.length xs.length hi - HT.sIx xs.length 0 lo)
theorem dpa_drop {H : Hp} : ∀ (n : Nat) {ds : List PyData} {vs : List V}, DpAll K H vs ds → DpAll K H (vs.drop n) (ds.drop n)
  | 0, _, _, h => h
  | n + 1, _, _, .nil => .nil
  | n + 1, _, _, .cons _ t => dpa_drop n t
theorem dpa_take {H : Hp} : ∀ (n : Nat) {ds : List PyData} {vs : List V}, DpAll K H vs ds → DpAll K H (vs.take n) (ds.take n)
  | 0, _, _, _ => .nil
  | n + 1, _, _, .nil => .nil
  | n + 1, _, _, .cons h t => .cons h (dpa_take n t)
theorem dpa_cut {H : Hp} {ds : List PyData} {vs : List V} (h : DpAll K H vs ds) (lo hi : Option Int) : DpAll K H (cutV vs lo hi) (cutD ds lo hi) := by
  unfold cutV cutD
  rw [dpa_len h]
  exact dpa_take _ (dpa_drop _ h)
end
end U

end
section
namespace U
open PySem L2 Evl
section
variable {K : Fg} {G G1 G2 : Gam} {s s1 s2 s3 s' : Bag} {ta tb tc te : TE} {t u : TT} {x y z : PyData} {tu tw tz : TS} {o : Out}
theorem Post.mono {W : Addr → Prop} {B : Option (Addr × Addr)} {H0 M M' : Hp} {D : Ends} (e : Ex M M') (h : Post K W B H0 M D o) : Post K W B H0 M' D o := qt_of (by simp (disch := with_unfolding_all
  cases o with
  | nx G s => exact fun ad H σ S x => h ad H σ S (e.trans x)
  | rt x s => exact h
  | bk G s => exact fun ad H σ S x => h ad H σ S (e.trans x)
  | ct G s => exact fun ad H σ S x => h ad H σ S (e.trans x)
  ) only [↓qt_eq])
theorem sg_seq (h : SG K tu G s (.nx G1 s1)) (k : SG K tz G1 s1 o) : SG K (tSeq tu tz) G s o := fun W B ad H0 H σ D S p =>
  h W B ad H0 H σ { D with nx := tz D } S fun ad' H' σ' S' e => k W B ad' H0 H' σ' D S' (p.mono e)
theorem sg_seqR (h : SG K tu G s (.rt x s1)) : SG K (tSeq tu tz) G s (.rt x s1) := fun W B ad H0 H σ D S p => h W B ad H0 H σ { D with nx := tz D } S p
theorem sg_next : SG K tNext G s (.nx G s) := fun W B ad H0 H σ D S p => p ad H σ S (Ex.refl _)
theorem sg_asg {i : Nat} (h : EvG K te G s x s1) : SG K (tAsg te (gName i)) G s (.nx (G.set i (.d x)) s1) := fun W B ad H0 H σ D S p =>
  h W B ad H0 H σ S _ fun v H1 S1 e1 d1 => p ad H1 _ (S1.setD d1) (e1.l.trans (less_sub fun a q => Zs.set_of (fun _ z => by cases z) q))
theorem sg_ret (h : EvG K te G s x s1) : SG K (tRet te) G s (.rt x s1) := fun W B ad H0 H σ D S p =>
  h W B ad H0 H σ S _ fun v H1 S1 e1 d1 => p v H1 S1.base S1.bag (dp_mono (less_sub fun a q => q.elim .inl fun z => .inr (.inr z)) d1)
theorem sg_ifT (h : EvT K t G s true s1) (k : SG K tu G s1 o) : SG K (tIfS t tu tw) G s o := fun W B ad H0 H σ D S p =>
  h W B ad H0 H σ S _ fun H1 S1 e1 => iteT (k W B ad H0 H1 σ D S1 (p.mono e1.l))
theorem sg_ifF (h : EvT K t G s false s1) (k : SG K tw G s1 o) : SG K (tIfS t tu tw) G s o := fun W B ad H0 H σ D S p =>
  h W B ad H0 H σ S _ fun H1 S1 e1 => iteF (k W B ad H0 H1 σ D S1 (p.mono e1.l))
/-- if c: return .. else on -/
theorem sg_when {b : Bool} (h : EvT K t G s b s1) (k1 : b = true → SG K (tSeq tu tz) G s1 o) (k2 : b = false → SG K tz G s1 o) : SG K (tSeq (tIfS t tu tNext) tz) G s o := fun W B ad H0 H σ D S p =>
  h W B ad H0 H σ S _ fun H1 S1 e1 => by
    cases b with
    | true => exact iteT (k1 rfl W B ad H0 H1 σ D S1 (p.mono e1.l))
    | false => exact iteF (k2 rfl W B ad H0 H1 σ D S1 (p.mono e1.l))
/-- x, y = a, b -/
theorem sg_par {i j : Nat} {ta : TA} (h : EvA K ta G s [x, y] s1) : SG K (tPar i j ta) G s (.nx ((G.set i (.d x)).set j (.d y)) s1) := fun W B ad H0 H σ D S p =>
  h W B ad H0 H σ S _ fun vs H1 S1 e1 d1 => by
    obtain ⟨v, w, rfl, d, d2⟩ := dp2 d1
    have e2 : Ex (less H1 (Zs W B ad G)) (less H1 (Zs W B ad (G.set i (.d x)))) := less_sub fun a q => Zs.set_of (fun _ z => by cases z) q
    have S2 := S1.setD (i := i) d
    exact ⟨v, w, rfl, p ad H1 _ (S2.setD (i := j) (dp_mono e2 d2)) (e1.l.trans (e2.trans (less_sub fun a q => Zs.set_of (fun _ z => by cases z) q)))⟩
/-! ### targets that are tuples of names -/
/-! ### lists of one's own -/
/-- what is no longer needed is forgotten -/
inductive Wk : Gam → Gam → Prop
  | nil : Wk [] []
  | cons {e : En} {G G' : Gam} : Wk G G' → Wk (e :: G) (e :: G')
  | drop {e : En} {G G' : Gam} : Wk G G' → Wk (e :: G) (.un :: G')
theorem Wk.refl : ∀ G : Gam, Wk G G
  | [] => .nil
  | _ :: G => .cons (Wk.refl G)
theorem Wk.length : ∀ {G G' : Gam}, Wk G G' → G.length = G'.length
  | _, _, .nil => rfl
  | _, _, .cons h => congrArg (· + 1) h.length
  | _, _, .drop h => congrArg (· + 1) h.length
theorem Wk.get : ∀ {G G' : Gam} {i : Nat} {e : En}, Wk G G' → G'[i]? = some e → G[i]? = some e ∨ e = .un
  | _, _, _, _, .nil, h => by simp at h
  | _, _, 0, _, .cons _, h => .inl h
  | _, _, 0, _, .drop _, h => .inr (Option.some.inj h).symm
  | _, _, i + 1, _, .cons w, h => Wk.get (i := i) w h
  | _, _, i + 1, _, .drop w, h => Wk.get (i := i) w h
theorem Wk.own {G G' : Gam} {i : Nat} {xs : List PyData} (w : Wk G G') (h : G'[i]? = some (.own xs)) : G[i]? = some (.own xs) := (w.get h).resolve_right fun z => by cases z
theorem Wk.ex {W : Addr → Prop} {B : Option (Addr × Addr)} {ad : Nat → Addr} {H : Hp} {G G' : Gam} (w : Wk G G') : Ex (less H (Zs W B ad G)) (less H (Zs W B ad G')) := less_sub fun a q => by
  rcases q with q | ⟨i, xs, g, r⟩ | q
  · exact .inl q
  · exact .inr (.inl ⟨i, xs, w.own g, r⟩)
  · exact .inr (.inr q)
theorem Sta.wk {W : Addr → Prop} {B : Option (Addr × Addr)} {ad : Nat → Addr} {H0 H : Hp} {σ : St} {G G' : Gam} (w : Wk G G') (S : Sta K W B ad H0 H σ G s) : Sta K W B ad H0 H σ G' s where
  len := S.len.trans w.length
  at_ := fun i e h => by
    rcases w.get h with g | rfl
    · obtain ⟨o, g1, g2⟩ := S.at_ i e g
      exact ⟨o, g1, g2.mono w.ex fun _ _ _ q => q⟩
    · have il : i < σ.length := by rw [S.len, w.length]; exact (List.getElem?_eq_some_iff.mp h).1
      exact ⟨σ[i], List.getElem?_eq_getElem il, trivial⟩
  inj := fun i j xs ys g g' q => S.inj i j xs ys (w.own g) (w.own g') q
  sep := fun i xs g => S.sep i xs (w.own g)
  base := S.base
  bag := S.bag
  wd := S.wd
theorem sg_wk (h : SG K tu G s (.nx G1 s1)) (w : Wk G1 G2) : SG K tu G s (.nx G2 s1) := fun W B ad H0 H σ D S p =>
  h W B ad H0 H σ D S fun ad' H' σ' S' e => p ad' H' σ' (S'.wk w) (e.trans w.ex)
theorem sg_is {o'} (h : SG K tu G s o) (e : o = o') : SG K tu G s o' := e ▸ h
/-! ### loops -/
/-- what a turn of a loop may end with: going on -/
def Turn (K : Fg) (tb : TS) (G : Gam) (s : Bag) (G' : Gam) (s' : Bag) : Prop := SG K tb G s (.nx G' s') ∨ SG K tb G s (.ct G' s')
theorem Turn.run {tb : TS} {G' : Gam} (h : Turn K tb G s G' s') {W : Addr → Prop} {B : Option (Addr × Addr)} {ad : Nat → Addr} {H0 H : Hp} {σ : St} {D : Ends} {N : St → Hp → Prop} (S : Sta K W B ad H0 H σ G s) (hn : D.nx = N) (hc : D.ct = N)
    (q : ∀ ad' H' σ', Sta K W B ad' H0 H' σ' G' s' → Ex (less H (Zs W B ad G)) (less H' (Zs W B ad' G')) → N σ' H') : tb D σ H := by
  rcases h with h | h
  · exact h W B ad H0 H σ D S fun ad' H' σ' S' e => by rw [hn]; exact q ad' H' σ' S' e
  · exact h W B ad H0 H σ D S fun ad' H' σ' S' e => by rw [hc]; exact q ad' H' σ' S' e
/-- while, by its states one behind the other -/
theorem sg_while {tb : TS} (GG : Nat → Gam) (SS TS' : Nat → Bag) (n : Nat) (w0 : Wk G (GG 0)) (h0 : SS 0 = s) (ht : ∀ i, i < n → EvT K t (GG i) (SS i) true (TS' i)) (hs : ∀ i, i < n → Turn K tb (GG i) (TS' i) (GG (i + 1)) (SS (i + 1)))
    (he : EvT K t (GG n) (SS n) false s') : SG K (tWhile t tb) G s (.nx (GG n) s') := fun W B ad H0 H σ D S p => by
  refine ⟨fun m σ' H' => ∃ i ad', m = n - i ∧ i ≤ n ∧ Sta K W B ad' H0 H' σ' (GG i) (SS i) ∧ Ex (less H (Zs W B ad G)) (less H' (Zs W B ad' (GG i))), ⟨n, 0, ad, rfl, Nat.zero_le _, by rw [h0]; exact S.wk w0, w0.ex⟩, ?_⟩
  rintro m σ' H' ⟨i, ad', rfl, hi, S', e'⟩
  by_cases hlt : i < n
  · refine ht i hlt W B ad' H0 H' σ' S' _ fun H2 S2 e2 => iteT ⟨fun σ3 H3 => ∃ ad3, Sta K W B ad3 H0 H3 σ3 (GG (i + 1)) (SS (i + 1)) ∧ Ex (less H (Zs W B ad G)) (less H3 (Zs W B ad3 (GG (i + 1)))), ?_, ?_⟩
    · rintro σ3 H3 ⟨ad3, S3, e3⟩
      exact ⟨n - (i + 1), by omega, i + 1, ad3, rfl, hlt, S3, e3⟩
    · exact (hs i hlt).run S2 rfl rfl fun ad3 H3 σ3 S3 e3 => ⟨ad3, S3, (e'.trans e2.l).trans e3⟩
  · have en : i = n := by omega
    subst en
    exact he W B ad' H0 H' σ' S' _ fun H2 S2 e2 => iteF (p ad' H2 σ' S2 (e'.trans e2.l))
end
end U

end
section
namespace U
open PySem L2 Evl
/-! ### what is walked, and into which names -/
def ItOk (K : Fg) (J : It) (ds : List PyData) (M : Hp) : Prop := ∀ (H' : Hp) (Z : Addr → Prop), (∀ a, Z a → ∃ o, H' a = some o) → Ex M (less H' Z) → ∀ i,
  (∀ d, ds[i]? = some d → J.go i H') ∧ (ds.length ≤ i → J.stop i H') ∧ ∀ x H'', J.yld i H' x H'' → Ex H' H'' ∧ ∀ d, ds[i]? = some d → Dp K (less H'' Z) x d
def Src (K : Fg) (wi : TI) (G : Gam) (s : Bag) (ds : List PyData) (s1 : Bag) : Prop :=
  ∀ W B ad H0 H σ, Sta K W B ad H0 H σ G s → ∀ R : It → Hp → Prop, (∀ J H1, Sta K W B ad H0 H1 σ G s1 → Xb B H H1 → ItOk K J ds (less H1 (Zs W B ad G)) → R J H1) → wi σ H R
def Off (vs : List Nat) (G G' : Gam) : Prop := G.length = G'.length ∧ (∀ i, i ∉ vs → G'[i]? = G[i]?) ∧ ∀ i xs, i ∈ vs → G'[i]? ≠ some (.own xs)
def Tgt (K : Fg) (g : TG) (vs : List Nat) (G : Gam) (x : PyData) (G' : Gam) : Prop := Off vs G G' ∧ ∀ W B ad H0 H σ s v, Sta K W B ad H0 H σ G s → Dp K (less H (Zs W B ad G)) v x → ∀ Q : St → Hp → Prop,
  (∀ σ', Sta K W B ad H0 H σ' G' s → Ex (less H (Zs W B ad G)) (less H (Zs W B ad G')) → wipe σ' vs = wipe σ vs → Q σ' H) → g v σ H Q
section
variable {K : Fg} {G G' G1 G2 : Gam} {s s1 s2 s3 s' : Bag} {ta tb tc te : TE} {t u : TT} {x y z : PyData} {tu tw tz : TS} {o : Out}
def rngD (lo : Int) (n : Nat) : List PyData := (List.range n).map fun i : Nat => .int (lo + (i : Int))
theorem rngD_len (lo : Int) (n : Nat) : (rngD lo n).length = n := by simp [rngD]
theorem rngD_get {lo : Int} {n i : Nat} (h : i < n) : (rngD lo n)[i]? = some (.int (lo + (i : Int))) := by
  unfold rngD
  rw [List.getElem?_map, List.getElem?_range h]
  rfl
theorem it_rng {lo : Int} {n : Nat} {M : Hp} : ItOk K (Itr lo n) (rngD lo n) M := fun H' Z hz e i => by
  refine ⟨fun d hd => ?_, fun hl => ?_, fun x H'' hy => ?_⟩
  · have := (List.getElem?_eq_some_iff.mp hd).1
    rw [rngD_len] at this
    exact this
  · rw [rngD_len] at hl
    exact hl
  · obtain ⟨rfl, rfl⟩ := hy
    refine ⟨Ex.refl _, fun d hd => ?_⟩
    have hl := (List.getElem?_eq_some_iff.mp hd).1
    rw [rngD_len] at hl
    rw [rngD_get hl] at hd
    cases hd
    exact .int _
theorem src_rng1 {ta : TA} {n : Int} (h : EvA K ta G s [.int n] s1) (hn : -1000000 ≤ n ∧ n ≤ 1000000) : Src K (iRng1 ta) G s (rngD 0 n.toNat) s1 := fun W B ad H0 H σ S R q => h W B ad H0 H σ S _ fun vs H1 S1 e1 d1 => by
  obtain ⟨v, rfl, d⟩ := dp1 d1
  cases d
  exact ⟨n, rfl, by omega, by omega, q _ H1 S1 e1 it_rng⟩
/-! ### targets -/
theorem tgt_name {j : Nat} : Tgt K (gName j) [j] G x (G.set j (.d x)) := by
  refine ⟨⟨by rw [List.length_set], fun i hi => ?_, fun i xs hi h => ?_⟩, fun W B ad H0 H σ s v S d Q q => q _ (S.setD d) (less_sub fun a q => Zs.set_of (fun _ z => by cases z) q) ?_⟩
  · rw [List.getElem?_set_ne (fun z => hi (by rw [z]; exact List.mem_singleton.mpr rfl))]
  · rcases get_set h with ⟨rfl, l, e⟩ | ⟨z, g⟩
    · cases e
    · exact z (List.mem_singleton.mp hi).symm
  · show (List.set (List.set σ j (some v)) j none) = List.set σ j none
    rw [List.set_set]
theorem wipe_set : ∀ {vs : List Nat} {σ : St} {i : Nat} {o : Option V}, i ∈ vs → wipe (σ.set i o) vs = wipe σ vs
  | v :: vs, σ, i, o, h => by
    show (wipe (σ.set i o) vs).set v none = (wipe σ vs).set v none
    by_cases hv : i ∈ vs
    · rw [wipe_set hv]
    · have e : i = v := (List.mem_cons.mp h).resolve_right hv
      subst e
      have c : ∀ (vs : List Nat) (σ : St), i ∉ vs → wipe (σ.set i o) vs = (wipe σ vs).set i o := fun vs => by
        induction vs with
        | nil => exact fun _ _ => rfl
        | cons w vs ih =>
          intro σ hn
          show (wipe (σ.set i o) vs).set w none = ((wipe σ vs).set w none).set i o
          rw [ih σ (fun z => hn (List.mem_cons_of_mem _ z)), List.set_comm _ _ (fun z => hn (by rw [z]; exact List.mem_cons_self))]
      rw [c vs σ hv, List.set_set]
/-! ### for, over anything -/
/-! ### comprehensions -/
theorem wipe_get : ∀ {vs : List Nat} {σ : St} {i : Nat}, i ∉ vs → (wipe σ vs)[i]? = σ[i]?
  | [], _, _, _ => rfl
  | v :: vs, σ, i, h => by
    show ((wipe σ vs).set v none)[i]? = _
    rw [List.getElem?_set_ne (fun z => h (by rw [z]; exact List.mem_cons_self)), wipe_get (fun z => h (List.mem_cons_of_mem _ z))]
theorem wipe_wipe {vs : List Nat} {σ : St} : wipe (wipe σ vs) vs = wipe σ vs := qt_of (by simp (disch := with_unfolding_all
  have key : ∀ us : List Nat, (∀ i ∈ us, i ∈ vs) → wipe (wipe σ us) vs = wipe σ vs := fun us => by
    induction us with
    | nil => exact fun _ => rfl
    | cons u us ih =>
      intro h
      show wipe ((wipe σ us).set u none) vs = wipe σ vs
      rw [wipe_set (h u List.mem_cons_self), ih fun i hi => h i (List.mem_cons_of_mem _ hi)]
  exact key vs fun _ h => h
  ) only [↓qt_eq])
theorem Sta.slots {W : Addr → Prop} {B : Option (Addr × Addr)} {ad : Nat → Addr} {H0 H : Hp} {σ σ' : St} {vs : List Nat} (S : Sta K W B ad H0 H σ G s) (ho : Off vs G G') (hu : ∀ i e, i ∈ vs → G'[i]? = some e → e = .un) (hg : ∀ i xs, i ∈ vs → G[i]? ≠ some (.own xs)) (hw : wipe σ vs = wipe σ' vs) : Sta K W B ad H0 H σ' G' s := qt_of (by simp (disch := with_unfolding_all
  have hl : σ.length = σ'.length := by
    have := congrArg List.length hw
    rw [wipe_length, wipe_length] at this
    exact this
  have zz : ∀ a, Zs W B ad G' a ↔ Zs W B ad G a := fun a => by
    constructor
    · rintro (z | ⟨i, xs, g, r⟩ | z)
      · exact .inl z
      · by_cases hi : i ∈ vs
        · exact absurd (hu i _ hi g) (fun e => by cases e)
        · rw [ho.2.1 i hi] at g; exact .inr (.inl ⟨i, xs, g, r⟩)
      · exact .inr (.inr z)
    · rintro (z | ⟨i, xs, g, r⟩ | z)
      · exact .inl z
      · by_cases hi : i ∈ vs
        · exact absurd g (hg i xs hi)
        · exact .inr (.inl ⟨i, xs, by rw [ho.2.1 i hi]; exact g, r⟩)
      · exact .inr (.inr z)
  have zl : Zs W B ad G' = Zs W B ad G := funext fun a => propext (zz a)
  have own : ∀ (i : Nat) (xs : List PyData), G'[i]? = some (En.own xs) → G[i]? = some (En.own xs) := fun i xs g => by
    by_cases hi : i ∈ vs
    · exact absurd (hu i _ hi g) (fun e => by cases e)
    · rw [ho.2.1 i hi] at g; exact g
  refine ⟨hl ▸ (S.len.trans ho.1), fun i e g => ?_, fun i j xs ys g g' q => S.inj i j xs ys (own i xs g) (own j ys g') q, fun i xs g => S.sep i xs (own i xs g), S.base, S.bag, S.wd⟩
  by_cases hi : i ∈ vs
  · have e := hu i e hi g
    subst e
    have il : i < σ'.length := by rw [← hl, S.len, ho.1]; exact (List.getElem?_eq_some_iff.mp g).1
    exact ⟨σ'[i], List.getElem?_eq_getElem il, trivial⟩
  · rw [ho.2.1 i hi] at g
    obtain ⟨o, g1, g2⟩ := S.at_ i e g
    refine ⟨o, ?_, by rw [zl]; exact g2⟩
    rw [← wipe_get hi, ← hw, wipe_get hi]
    exact g1
  ) only [↓qt_eq])
theorem range_fm_succ (f : Nat → Option PyData) (i : Nat) : (List.range (i + 1)).filterMap f = (List.range i).filterMap f ++ (f i).toList := by
  rw [List.range_succ, List.filterMap_append]
  cases h : f i <;> simp [h]
/-- [elt for target in .. if ..]: f tells what each turn gives -/
theorem ev_lc {wi : TI} {g : TG} {vs : List Nat} {tt : TT} {ds : List PyData} (h : Src K wi G s ds s1) (f : Nat → Option PyData) (SS : Nat → Bag) (h0 : SS 0 = s1) (hu : ∀ i e, i ∈ vs → G[i]? = some e → e = .un) (hz : ds.length ≤ 16000000)
    (hs : ∀ i x, ds[i]? = some x → ∃ Gt s2, Tgt K g vs G x Gt ∧ EvT K tt Gt (SS i) (f i).isSome s2 ∧ (∀ y, f i = some y → EvG K te Gt s2 y (SS (i + 1))) ∧ (f i = none → s2 = SS (i + 1))) :
    EvG K (tLc wi g tt te vs) G s (.list ((List.range ds.length).filterMap f)) (SS ds.length) := fun W B ad H0 H σ S Q q =>
  h W B ad H0 H σ S _ fun J H1 S1 e1 ok Dl hD => by
    have hgu : ∀ i xs, i ∈ vs → G[i]? ≠ some (.own xs) := fun i xs hi g => by cases hu i _ hi g
    obtain ⟨L0, el0⟩ := S1.lend (o := .lst []) hD
    have fr := S1.fresh hD
    have npD : ¬ Zs W B ad G Dl := by
      rintro (z | ⟨i, xs, g, r⟩ | z)
      · obtain ⟨o, z⟩ := S1.wd _ z
        rw [hD] at z; cases z
      · obtain ⟨_, _, _, vs, h1, _⟩ := S1.at_ i _ g
        rw [← r, hD] at h1; cases h1
      · exact fr.2 z
    refine ⟨fun i m H' => m = ds.length - i ∧ i ≤ ds.length ∧ Sta K (fun a => W a ∨ a = Dl) B ad H0 H' σ G (SS i) ∧ Ex (less H1 (Zs W B ad G)) (less H' (Zs (fun a => W a ∨ a = Dl) B ad G)) ∧ Xb B H1 H' ∧
      ∃ acc, H' Dl = some (.lst acc) ∧ DpAll K (less H' (Zs (fun a => W a ∨ a = Dl) B ad G)) acc ((List.range i).filterMap f), ⟨ds.length, rfl, Nat.zero_le _, by rw [h0]; exact L0, by rw [el0]; exact Ex.refl _, .of (Ex.new hD), [], upd_same, .nil⟩, ?_⟩
    rintro i m H' ⟨rfl, hi, S', e', xb, acc, ha, hd⟩
    obtain ⟨k1, k2, k3⟩ := ok H' (Zs (fun a => W a ∨ a = Dl) B ad G) S'.there e' i
    by_cases hlt : i < ds.length
    · have hx : ds[i]? = some ds[i] := List.getElem?_eq_getElem hlt
      obtain ⟨Gt, s2, tg, ht, hy, hn⟩ := hs i _ hx
      refine .inr ⟨k1 _ hx, fun H3 => Sta K (fun a => W a ∨ a = Dl) B ad H0 H3 σ G (SS (i + 1)) ∧ Ex (less H1 (Zs W B ad G)) (less H3 (Zs (fun a => W a ∨ a = Dl) B ad G)) ∧ Xb B H1 H3 ∧
        ∃ acc, H3 Dl = some (.lst acc) ∧ DpAll K (less H3 (Zs (fun a => W a ∨ a = Dl) B ad G)) acc ((List.range (i + 1)).filterMap f), fun H3 h3 => ⟨ds.length - (i + 1), by omega, rfl, hlt, h3⟩, fun v H'' hyl => ?_⟩
      obtain ⟨ex, dx⟩ := k3 v H'' hyl
      have S2 := (S'.ext ex).slots (σ' := wipe σ vs) (G' := G) (vs := vs) ⟨rfl, fun _ _ => rfl, hgu⟩ hu hgu wipe_wipe.symm
      refine tg.2 _ B ad H0 H'' _ (SS i) v S2 (dx _ hx) _ fun σ2 S3 e3 ew => ⟨by rw [ew, wipe_wipe], ?_⟩
      have eZ : Zs (fun a => W a ∨ a = Dl) B ad Gt = Zs (fun a => W a ∨ a = Dl) B ad G := funext fun a => propext (by
        have own : ∀ (i : Nat) (xs : List PyData), Gt[i]? = some (En.own xs) ↔ G[i]? = some (En.own xs) := fun i xs => by
          by_cases hi : i ∈ vs
          · exact ⟨fun g => absurd g (tg.1.2.2 i xs hi), fun g => absurd g (hgu i xs hi)⟩
          · rw [tg.1.2.1 i hi]
        constructor
        · rintro (z | ⟨i, xs, g, r⟩ | z)
          · exact .inl z
          · exact .inr (.inl ⟨i, xs, (own i xs).mp g, r⟩)
          · exact .inr (.inr z)
        · rintro (z | ⟨i, xs, g, r⟩ | z)
          · exact .inl z
          · exact .inr (.inl ⟨i, xs, (own i xs).mpr g, r⟩)
          · exact .inr (.inr z))
      have back : ∀ {H5 : Hp} {b : Bag}, Sta K (fun a => W a ∨ a = Dl) B ad H0 H5 σ2 Gt b → Sta K (fun a => W a ∨ a = Dl) B ad H0 H5 σ G b := fun {H5 b} S5 =>
        S5.slots (G' := G) (vs := vs) ⟨tg.1.1.symm, fun i hi => (tg.1.2.1 i hi).symm, hgu⟩ hu tg.1.2.2 (by rw [ew, wipe_wipe])
      have hB : ¬ InB B Dl := fr.2
      have ha2 : H'' Dl = some (.lst acc) := ex _ _ ha
      have al : acc.length < sizeLine := by
        have h1 := dpa_len hd
        have h2 := List.length_filterMap_le f (List.range i)
        rw [List.length_range] at h2
        exact Nat.lt_of_lt_of_le (show acc.length < 16777216 by omega) (by decide)
      refine ht _ B ad H0 H'' σ2 S3 _ fun H3 S4 e4 => ?_
      have e5 : Ex (less H' (Zs (fun a => W a ∨ a = Dl) B ad G)) (less H3 (Zs (fun a => W a ∨ a = Dl) B ad G)) := (less_mono ex).trans e4.l
      cases hf : (f i) with
      | none =>
        rw [hn hf] at S4
        refine iteF ⟨back S4, e'.trans e5, (xb.trans (.of ex)).trans e4, acc, e4 _ _ ha2 hB, ?_⟩
        rw [range_fm_succ, hf]
        show DpAll K _ acc (_ ++ [])
        rw [List.append_nil]
        exact dpa_mono e5 hd
      | some y =>
        refine iteT ?_
        refine hy y hf _ B ad H0 H3 σ2 S4 _ fun w H4 S5 e6 dw => ?_
        rw [eZ] at dw
        have S6 := back S5
        have h0 : H0 Dl = none := fr.1
        obtain ⟨S7, el7⟩ := S6.foreign (o := .lst (acc ++ [w])) (p := Dl) (.inr rfl) h0 hB
        refine ⟨acc, e6 _ _ (e4 _ _ ha2 hB) hB, al, S7, ?_, ?_, acc ++ [w], upd_same, ?_⟩
        · rw [el7]
          exact e'.trans (e5.trans e6.l)
        · intro a o g n
          have na : a ≠ Dl := ne_of_none g hD
          rw [upd_ne na]
          exact ((((xb.trans (.of ex)).trans e4).trans e6) a o g n)
        · rw [el7, range_fm_succ, hf]
          exact dpa_app (dpa_mono (e5.trans e6.l) hd) (.cons dw .nil)
    · have en : i = ds.length := by omega
      subst en
      obtain ⟨S5, e5⟩ := S'.back
      refine .inl ⟨k2 (Nat.le_refl _), q _ H' S5 (e1.trans ?_) (.lst (sq_of (less_of npD ha)) (dpa_mono e5 hd))⟩
      exact fun a o g n => xb a o g n
end
end U

end
section
namespace U
open PySem PyProof.Rows L2 Evl
section
variable {K : Fg} {G G' G1 G2 : Gam} {s s1 s2 s3 s' : Bag} {ta tb tc te : TE} {t u : TT} {x y z : PyData} {tu tw tz : TS} {o : Out}
theorem range_fm_map {ds : List PyData} (F : PyData → PyData) : (List.range ds.length).filterMap (fun i => (ds[i]?).map F) = ds.map F := qt_of (by simp (disch := with_unfolding_all
  have key : ∀ (l : List PyData), (List.range l.length).filterMap (fun i => l[i]?) = l := fun l => by
    induction l with
    | nil => rfl
    | cons a l ih =>
      rw [List.length_cons, List.range_succ_eq_map, List.filterMap_cons]
      simp only [List.getElem?_cons_zero, List.filterMap_map]
      refine congrArg (a :: ·) ?_
      exact ih
  have h : (fun i : Nat => (ds[i]?).map F) = fun i : Nat => (ds.map F)[i]? := by
    funext i
    rw [List.getElem?_map]
  rw [h]
  have e := key (ds.map F)
  rw [List.length_map] at e
  exact e
  ) only [↓qt_eq])
theorem et_yes : EvT K tYes G s true s := fun W B ad H0 H σ S Q q => q H S Xb.refl
/-! ### deep equality -/
end
/-! ### defs -/
section
variable {Pg : Program} {w : World} {K : Fg} {mg : Str → Option Value} {base : Heap}
def frame (n : Nat) (ds : List PyData) : Gam := ds.map .d ++ List.replicate (n - ds.length) .un
theorem frame_get {n i : Nat} {ds : List PyData} {e : En} (h : (frame n ds)[i]? = some e) : (∃ d, ds[i]? = some d ∧ e = .d d) ∨ (ds.length ≤ i ∧ e = .un) := qt_of (by simp (disch := with_unfolding_all
  unfold frame at h
  by_cases hi : i < ds.length
  · rw [List.getElem?_append_left (by rw [List.length_map]; exact hi), List.getElem?_map, List.getElem?_eq_getElem hi] at h
    exact .inl ⟨ds[i], List.getElem?_eq_getElem hi, (Option.some.inj h).symm⟩
  · have hi : ds.length ≤ i := by omega
    rw [List.getElem?_append_right (by rw [List.length_map]; exact hi)] at h
    exact .inr ⟨hi, (List.mem_replicate.mp (List.mem_of_getElem? h)).2⟩
  ) only [↓qt_eq])
theorem start_get {N : List Str} {vs : List V} {i : Nat} {v : V} (h : vs[i]? = some v) : (L2.start N vs)[i]? = some (some v) := by
  unfold L2.start
  have hi := (List.getElem?_eq_some_iff.mp h).1
  rw [List.getElem?_append_left (by rw [List.length_map]; exact hi), List.getElem?_map, h]
  rfl
theorem start_len {N : List Str} {vs : List V} : (L2.start N vs).length = vs.length + (N.length - vs.length) := by
  unfold L2.start
  rw [List.length_append, List.length_map, List.length_replicate]
/-- the state at a def's entry -/
theorem sta0 {N : List Str} {W : Addr → Prop} {H : Hp} {vs : List V} {ds : List PyData} (hW : ∀ a, W a → ∃ o, H a = some o) (hd : DpAll K (less H W) vs ds) (b : Bag) : Sta K W none (fun _ => 0) H H (L2.start N vs) (frame N.length ds) b := qt_of (by simp (disch := with_unfolding_all
  have no : ∀ (i : Nat) (xs : List PyData), (frame N.length ds)[i]? ≠ some (En.own xs) := fun i xs h => by
    rcases frame_get h with ⟨d, _, e⟩ | ⟨_, e⟩ <;> cases e
  have zz : ∀ a, Zs W none (fun _ => 0) (frame N.length ds) a → W a := by
    rintro a (z | ⟨i, xs, g, _⟩ | ⟨b, c, z, _⟩)
    · exact z
    · exact absurd g (no i xs)
    · cases z
  refine ⟨?_, fun i e h => ?_, fun i j xs ys g => absurd g (no i xs), fun i xs g => absurd g (no i xs), fun a o h _ => h, trivial, hW⟩
  · rw [start_len, dpa_len hd]
    unfold frame
    rw [List.length_append, List.length_map, List.length_replicate]
  · rcases frame_get h with ⟨d, hi, rfl⟩ | ⟨hi, rfl⟩
    · obtain ⟨v, hv, dv⟩ := dpa_get hd hi
      exact ⟨some v, start_get hv, v, rfl, dp_mono (less_sub zz) dv⟩
    · have il : i < (L2.start N vs).length := by
        rw [start_len, dpa_len hd]
        have := (List.getElem?_eq_some_iff.mp h).1
        unfold frame at this
        rw [List.length_append, List.length_map, List.length_replicate] at this
        exact this
      exact ⟨(L2.start N vs)[i], List.getElem?_eq_getElem il, trivial⟩
  ) only [↓qt_eq])
/-- a def of data -/
theorem okP {x qual : Str} {st : Stmt} {f : Addr} {fd : FuncData} {N ps : List Str} {k : Nat} {P : List PyData → PyData → Prop} (F : Fun K x qual st f fd) (S : FnScope N ps (defScope st)) (hl : ∀ ds r, P ds r → ds.length = ps.length)
    (hb : ∀ ds r, P ds r → ∀ (cdv : Value) (A : Around) (outer : List Env) (sh : Shared) (H : Hp) (E : XK), Room k (A.deeper (envOfC qual (defScope st) sh.heap.objs.size f cdv)) →
      ∃ t, PSs (cxOf CX0 Pg w K mg base N qual (defScope st) f cdv A outer sh H E).nox (defBody st) t ∧ ∀ b, SG K t (frame N.length ds) b (.rt r b)) : FnOk Pg w K mg base CX0 (k + 1) f fd ps (spP K P) := qt_of (by simp (disch := with_unfolding_all
  refine F.ok S (fun vs H Q E h => ?_) (fun cdv A outer sh H vs Q E hr h => ?_)
  · obtain ⟨W, ds, r, _, hd, hp, _⟩ := h
    rw [dpa_len hd]
    exact hl ds r hp
  · obtain ⟨W, ds, r, hW, hd, hp, q⟩ := h
    obtain ⟨t, ht, g⟩ := hb ds r hp cdv A outer sh H E hr
    refine ⟨t, ht, g ⟨[], 0, 0⟩ W none (fun _ => 0) H H _ _ (sta0 hW hd _) fun v H' e _ d => q v H' (fun a o h => e a o h (fun ⟨_, _, z, _⟩ => by cases z)) (dp_mono (less_sub fun a z => .inl z) d)⟩
  ) only [↓qt_eq])
theorem staB {N : List Str} {W : Addr → Prop} {H : Hp} {b c : Addr} {vs : List V} {ds : List PyData} {s : Bag} (hW : ∀ a, W a → ∃ o, H a = some o) (hB : BagAt H (some (b, c)) s) (hd : DpAll K (less H fun a => W a ∨ InB (some (b, c)) a) vs ds) :
    Sta K W (some (b, c)) (fun _ => 0) H H (L2.start N (.ref b :: vs)) (.bag :: frame (N.length - 1) ds) s := qt_of (by simp (disch := with_unfolding_all
  have no : ∀ (i : Nat) (xs : List PyData), (En.bag :: frame (N.length - 1) ds)[i]? ≠ some (En.own xs) := fun i xs h => by
    cases i with
    | zero => cases h
    | succ i => rcases frame_get h with ⟨d, _, e⟩ | ⟨_, e⟩ <;> cases e
  have zz : ∀ a, Zs W (some (b, c)) (fun _ => 0) (En.bag :: frame (N.length - 1) ds) a → W a ∨ InB (some (b, c)) a := by
    rintro a (z | ⟨i, xs, g, _⟩ | z)
    · exact .inl z
    · exact absurd g (no i xs)
    · exact .inr z
  have ln : (L2.start N (.ref b :: vs)).length = (En.bag :: frame (N.length - 1) ds).length := by
    rw [start_len, List.length_cons, List.length_cons, dpa_len hd]
    unfold frame
    rw [List.length_append, List.length_map, List.length_replicate]
    omega
  refine ⟨ln, fun i e h => ?_, fun i j xs ys g => absurd g (no i xs), fun i xs g => absurd g (no i xs), fun a o h _ => h, hB, hW⟩
  cases i with
  | zero =>
    cases h
    exact ⟨some (.ref b), rfl, b, c, rfl, rfl⟩
  | succ i =>
    rcases frame_get h with ⟨d, hi, rfl⟩ | ⟨hi, rfl⟩
    · obtain ⟨v, hv, dv⟩ := dpa_get hd hi
      exact ⟨some v, start_get (show (V.ref b :: vs)[i + 1]? = some v from hv), v, rfl, dp_mono (less_sub zz) dv⟩
    · have il : i + 1 < (L2.start N (.ref b :: vs)).length := by
        rw [ln]; exact (List.getElem?_eq_some_iff.mp h).1
      exact ⟨_, List.getElem?_eq_getElem il, trivial⟩
  ) only [↓qt_eq])
/-- a def that draws -/
theorem okB {x qual : Str} {st : Stmt} {f : Addr} {fd : FuncData} {N ps : List Str} {k : Nat} {P : Bag → List PyData → PyData → Bag → Prop} (F : Fun K x qual st f fd) (S : FnScope N ps (defScope st)) (hl : ∀ s ds r s', P s ds r s' → ds.length + 1 = ps.length)
    (hb : ∀ s ds r s', P s ds r s' → s.ok → ∀ (cdv : Value) (A : Around) (outer : List Env) (sh : Shared) (H : Hp) (E : XK), Room k (A.deeper (envOfC qual (defScope st) sh.heap.objs.size f cdv)) →
      ∃ t, PSs (cxOf CX0 Pg w K mg base N qual (defScope st) f cdv A outer sh H E).nox (defBody st) t ∧ SG K t (.bag :: frame (N.length - 1) ds) s (.rt r s')) : FnOk Pg w K mg base CX0 (k + 1) f fd ps (spB K P) := qt_of (by simp (disch := with_unfolding_all
  refine F.ok S (fun vs H Q E h => ?_) (fun cdv A outer sh H vs Q E hr h => ?_)
  · obtain ⟨W, b, c, us, s, ds, r, s', _, rfl, _, hd, hp, _⟩ := h
    rw [List.length_cons, dpa_len hd]
    exact hl s ds r s' hp
  · obtain ⟨W, b, c, us, s, ds, r, s', hW, rfl, hB, hd, hp, q⟩ := h
    obtain ⟨t, ht, g⟩ := hb s ds r s' hp hB.2.2 cdv A outer sh H E hr
    exact ⟨t, ht, g W (some (b, c)) (fun _ => 0) H H _ _ (staB hW hB hd) fun v H' e hb d => q v H' e hb d⟩
  ) only [↓qt_eq])
/-! ### the law itself: the script, the bag made of it, the rest -/
def bag0 (ns : List Int) : Bag := ⟨ns, 0, 20011⟩
def spBag (K : Fg) : Sp := fun vs H Q _ => ∃ (W : Addr → Prop) (ns : List Int), (∀ a, W a → ∃ o, H a = some o) ∧ DpAll K (less H W) vs [.list (ns.map PyData.int)] ∧ ns.length ≤ 63 ∧
  ∀ b c H', Ex H H' → H b = none → H c = none → BagAt H' (some (b, c)) (bag0 ns) → Q (.ref b) H'
def PLaw : List PyData → PyData → Prop := fun ds r => ∃ ns : List Int, ds = [.list (ns.map PyData.int)] ∧ ns.length ≤ 63 ∧ r = .bool true
end
end U

end
section
namespace U
open PySem PyProof.Rows L2 Evl
/-! ### the mathematics of fractions -/
abbrev Fr := Int × Int
abbrev fr (p : Fr) : PyData := .tuple [.int p.1, .int p.2]
def gN (a b : Int) : Nat := max (Nat.gcd a.natAbs b.natAbs) 1
def gI (a b : Int) : Int := (gN a b : Int)
theorem gI_pos (a b : Int) : 0 < gI a b := by
  unfold gI gN
  have : 1 ≤ max (Nat.gcd a.natAbs b.natAbs) 1 := Nat.le_max_right _ _
  omega
/-- the states of Euclid's loop -/
def eu (x y : Nat) : Nat → Nat × Nat
  | 0 => (x, y)
  | i + 1 => ((eu x y i).2, (eu x y i).1 % (eu x y i).2)
theorem eu_shift (x y : Nat) : ∀ i, eu x y (i + 1) = eu y (x % y) i
  | 0 => rfl
  | i + 1 => by
    show ((eu x y (i + 1)).2, (eu x y (i + 1)).1 % (eu x y (i + 1)).2) = _
    rw [eu_shift x y i]
    rfl
theorem eu_end : ∀ (y x : Nat), ∃ n, eu x y n = (Nat.gcd x y, 0) ∧ ∀ i, i < n → 0 < (eu x y i).2 := fun y => by
  induction y using Nat.strongRecOn with
  | ind y ih =>
    intro x
    by_cases hy : y = 0
    · subst hy
      exact ⟨0, by show (x, 0) = _; rw [Nat.gcd_zero_right], fun i hi => absurd hi (Nat.not_lt_zero _)⟩
    · obtain ⟨n, h1, h2⟩ := ih (x % y) (Nat.mod_lt _ (Nat.pos_of_ne_zero hy)) y
      refine ⟨n + 1, ?_, fun i hi => ?_⟩
      · rw [eu_shift, h1, Nat.gcd_comm x y, Nat.gcd_rec y x]
        rw [Nat.gcd_comm]
      · cases i with
        | zero => exact Nat.pos_of_ne_zero hy
        | succ i =>
          rw [eu_shift]
          exact h2 i (by omega)
theorem fmod_nat (a b : Nat) : Int.fmod (a : Int) (b : Int) = ((a % b : Nat) : Int) := by
  rw [Int.fmod_eq_emod_of_nonneg _ (Int.natCast_nonneg b)]
  rfl
theorem absI_nat (a : Int) : absI a = (a.natAbs : Int) := by
  unfold absI
  split <;> omega
def Bd (n : Nat) (a : Int) : Prop := a.natAbs < 2 ^ n
def Sz (n : Nat) (p : Fr) : Prop := Bd n p.1 ∧ Bd n p.2
theorem Bd.mono {n m : Nat} {a : Int} (h : Bd n a) (l : n ≤ m) : Bd m a := Nat.lt_of_lt_of_le h (Nat.pow_le_pow_right (by decide) l)
theorem Sz.mono {n m : Nat} {p : Fr} (h : Sz n p) (l : n ≤ m) : Sz m p := ⟨h.1.mono l, h.2.mono l⟩
theorem Bd.mul {n m : Nat} {a b : Int} (ha : Bd n a) (hb : Bd m b) : Bd (n + m) (a * b) := wide_lt ha hb
theorem Bd.cm {n m : Nat} {a b : Int} (ha : Bd n a) (hb : Bd m b) (h : n + m + 2 ≤ 1000000) : CMulW a b :=
  wide_mul (ha.mono (Nat.le_succ n)) (hb.mono (Nat.le_succ m)) (Nat.succ_pos _) (Nat.succ_pos _) (by omega)
theorem Bd.add {n : Nat} {a b : Int} (ha : Bd n a) (hb : Bd n b) : Bd (n + 1) (a + b) := by
  unfold Bd at *
  rw [Nat.pow_succ]
  omega
theorem Bd.sub {n : Nat} {a b : Int} (ha : Bd n a) (hb : Bd n b) : Bd (n + 1) (a - b) := by
  unfold Bd at *
  rw [Nat.pow_succ]
  omega
theorem Bd.neg {n : Nat} {a : Int} (ha : Bd n a) : Bd n (-a) := by
  unfold Bd at *
  omega
theorem Bd.fdiv {n : Nat} {a : Int} (b : Int) (ha : Bd n a) : Bd n (a.fdiv b) := Nat.lt_of_le_of_lt (Int.natAbs_fdiv_le_natAbs a b) ha
theorem gN_le {n : Nat} {a b : Int} (ha : Bd n a) (hb : Bd n b) : gN a b ≤ 2 ^ n := qt_of (by simp (disch := with_unfolding_all
  unfold gN
  have h1 : 1 ≤ 2 ^ n := Nat.one_le_two_pow
  refine Nat.max_le.mpr ⟨?_, h1⟩
  by_cases h0 : a.natAbs = 0
  · rw [h0, Nat.gcd_zero_left]
    exact Nat.le_of_lt hb
  · exact Nat.le_trans (Nat.gcd_le_left _ (Nat.pos_of_ne_zero h0)) (Nat.le_of_lt ha)
  ) only [↓qt_eq])
theorem Bd.g {n : Nat} {a b : Int} (ha : Bd n a) (hb : Bd n b) : Bd (n + 1) (gI a b) := by
  have h := gN_le ha hb
  have h1 : 1 ≤ 2 ^ n := Nat.one_le_two_pow
  unfold Bd gI
  rw [Nat.pow_succ, Int.natAbs_natCast]
  omega
theorem Bd.dv {n : Nat} {i j : Int} (h0 : j ≠ 0) (h : Bd n j) (hn : n ≤ 8000) : CDvX i j := by
  refine ⟨h0, ?_⟩
  have h2 : j.natAbs < 2 ^ (n + 1) := h.mono (Nat.le_succ n)
  have := PySem.Flt.log2_lt_of (Nat.succ_pos n) h2
  omega
/-! ### gcd, the law's own and the program's -/
theorem max_gN (a b : Int) : maxI 1 (Nat.gcd a.natAbs b.natAbs : Nat) = gI a b := by
  unfold maxI gI gN
  rw [Nat.max_def]
  split <;> split <;> omega
theorem gN_max (a b : Int) : maxI (Nat.gcd a.natAbs b.natAbs : Nat) 1 = gI a b := by
  unfold maxI gI gN
  rw [Nat.max_def]
  split <;> split <;> omega
def P_gcd : List PyData → PyData → Prop := fun ds r => ∃ a b : Int, ds = [.int a, .int b] ∧ r = .int (gI a b)
/-- above / below as the law makes it -/
def fracF (a b : Int) : Fr := (a.fdiv (if b < 0 then -gI a b else gI a b), b.fdiv (if b < 0 then -gI a b else gI a b))
def P_frac : List PyData → PyData → Prop := fun ds r => ∃ a b : Int, ds = [.int a, .int b] ∧ Bd 7990 a ∧ Bd 7990 b ∧ r = fr (fracF a b)
theorem Sz.frac {n : Nat} {a b : Int} (ha : Bd n a) (hb : Bd n b) : Sz n (fracF a b) := ⟨ha.fdiv _, hb.fdiv _⟩
def addF (p q : Fr) : Fr := fracF (p.1 * q.2 + q.1 * p.2) (p.2 * q.2)
theorem Sz.add {n m : Nat} {p q : Fr} (hp : Sz n p) (hq : Sz m q) : Sz (n + m + 1) (addF p q) :=
  Sz.frac (Bd.add (hp.1.mul hq.2) (by rw [Nat.add_comm n m]; exact hq.1.mul hp.2)) ((hp.2.mul hq.2).mono (Nat.le_succ _))
def P_add : List PyData → PyData → Prop := fun ds r => ∃ (n m : Nat) (p q : Fr), ds = [fr p, fr q] ∧ Sz n p ∧ Sz m q ∧ n + m ≤ 7800 ∧ r = fr (addF p q)
def sgn (i : Int) : Int := (if decide (0 < i) then 1 else 0) - (if decide (i < 0) then 1 else 0)
def P_sign : List PyData → PyData → Prop := fun ds r => ∃ a : Int, ds = [.int a] ∧ r = .int (sgn a)
section
variable {K : Fg} {G G' G1 G2 : Gam} {s s1 s2 s3 s' : Bag} {ta tb tc te : TE} {t u : TT} {x y z : PyData} {E : XK}
theorem ev_fst {p : Fr} (h : EvG K te G s (fr p) s') : EvG K (tOp (rIx K) te (tC (.int 0))) G s (.int p.1) s' := ev_ixT h ev_int rfl
theorem ev_snd {p : Fr} (h : EvG K te G s (fr p) s') : EvG K (tOp (rIx K) te (tC (.int 1))) G s (.int p.2) s' := ev_ixT h ev_int rfl
theorem ev_gcd {a b : Int} (h1 : EvG K ta G s (.int a) s1) (h2 : EvG K tb G s1 (.int b) s2) : EvG K (tCall (spP K P_gcd) [] E (tCons ta (tCons tb tNil))) G s (.int (gI a b)) s2 :=
  ev_call (ea_cons h1 (ea_cons h2 ea_nil)) (fun _ => .nil) ⟨a, b, rfl, rfl⟩
theorem ev_frac {a b : Int} (h1 : EvG K ta G s (.int a) s1) (h2 : EvG K tb G s1 (.int b) s2) (ha : Bd 4000 a) (hb : Bd 4000 b) : EvG K (tCall (spP K P_frac) [] E (tCons ta (tCons tb tNil))) G s (fr (fracF a b)) s2 :=
  ev_call (ea_cons h1 (ea_cons h2 ea_nil)) (fun _ => .nil) ⟨a, b, rfl, ha.mono (by decide), hb.mono (by decide), rfl⟩
theorem ev_fracN {a b : Int} (h1 : EvG K ta G s (.int a) s1) (h2 : EvG K tb G s1 (.int b) s2) (ha : Bd 7990 a) (hb : Bd 7990 b) : EvG K (tCall (spP K P_frac) [] E (tCons ta (tCons tb tNil))) G s (fr (fracF a b)) s2 :=
  ev_call (ea_cons h1 (ea_cons h2 ea_nil)) (fun _ => .nil) ⟨a, b, rfl, ha, hb, rfl⟩
theorem ev_fadd {p q : Fr} (h1 : EvG K ta G s (fr p) s1) (h2 : EvG K tb G s1 (fr q) s2) (ha : Sz 1900 p) (hb : Sz 1900 q) : EvG K (tCall (spP K P_add) [] E (tCons ta (tCons tb tNil))) G s (fr (addF p q)) s2 :=
  ev_call (ea_cons h1 (ea_cons h2 ea_nil)) (fun _ => .nil) ⟨1900, 1900, p, q, rfl, ha, hb, by decide, rfl⟩
end
theorem less_none {K : Fg} {H : Hp} {a : Addr} {xs : List V} (h : SqL K H a xs) : SqL K (less H fun _ => False) a xs := ex_l (fun a o h => less_of (fun z => z) h) h
theorem ev_ixDisp {K : Fg} {G : Gam} {s s1 s2 : Bag} {ta : TA} {tb : TE} {xs : List PyData} {x : PyData} {i : Int} (h : EvA K ta G s xs s1) (hl : xs.length ≤ 16000000) (hb : EvG K tb G s1 (.int i) s2) (he : atI xs i = some x) : EvG K (tOp (rIx K) (tLst ta) tb) G s x s2 := ev_ixL (ev_lst h hl) hb he
/-! ### draws -/
def cellOf (s : Bag) : Int := if s.cs.length = 0 then 0 else s.cs.getD (s.i.fmod s.cs.length).toNat 0
def pull (s : Bag) (n : Int) : Int × Bag :=
  if 0 < s.cs.length ∧ 1000000000000000000 ≤ absI (cellOf s) then ((cellOf s).fmod n, ⟨s.cs.set (s.i.fmod s.cs.length).toNat ((cellOf s).fdiv n), s.i, s.j⟩)
  else
    let j := (s.j * 48271 + (cellOf s).fmod 1000003 + (s.i + 1)).fmod 2147483647
    ((((j * 69621 + j.fdiv 65536).fmod 2147483629).fdiv 32).fmod n, ⟨s.cs, s.i + 1, j⟩)
def pullV (s : Bag) (n : Int) : Int := (pull s n).1
def pullS (s : Bag) (n : Int) : Bag := (pull s n).2
theorem fmod_range (a : Int) {n : Int} (h : 0 < n) : 0 ≤ a.fmod n ∧ a.fmod n < n := by
  rw [Int.fmod_eq_emod_of_nonneg _ (Int.le_of_lt h)]
  exact ⟨Int.emod_nonneg _ (by omega), Int.emod_lt_of_pos _ h⟩
theorem pullV_range (s : Bag) {n : Int} (h : 0 < n) : 0 ≤ pullV s n ∧ pullV s n < n := by
  unfold pullV pull
  split
  · exact fmod_range _ h
  · exact fmod_range _ h
theorem pullS_ok {s : Bag} (n : Int) (h : s.ok) : (pullS s n).ok := qt_of (by simp (disch := with_unfolding_all
  obtain ⟨h1, h2, h3⟩ := h
  unfold pullS pull
  split
  · exact ⟨by show (List.set _ _ _).length ≤ 63; rw [List.length_set]; exact h1, h2, h3⟩
  · have := fmod_range (s.j * 48271 + (cellOf s).fmod 1000003 + (s.i + 1)) (n := 2147483647) (by decide)
    exact ⟨h1, this.1, this.2⟩
  ) only [↓qt_eq])
def P_pull : Bag → List PyData → PyData → Bag → Prop := fun s ds r s' => ∃ n : Int, ds = [.int n] ∧ 0 < n ∧ n < 1000000000000 ∧ r = .int (pullV s n) ∧ s' = pullS s n
section
variable {K : Fg} {G G' G1 G2 : Gam} {s s1 s2 s3 s' : Bag} {ta tb tc te : TE} {t u : TT} {x y z : PyData} {E : XK}
theorem ev_pull {i : Nat} {n : Int} (hi : G[i]? = some .bag) (h : EvG K ta G s (.int n) s1) (h0 : 0 < n) (h1 : n < 1000000000000) : EvG K (tCall (spB K P_pull) [] E (tCons (tVar i) (tCons ta tNil))) G s (.int (pullV s1 n)) (pullS s1 n) :=
  ev_callB hi (ea_cons h ea_nil) ⟨n, rfl, h0, h1, rfl, rfl⟩
end
/-! ### drawn numbers -/
def menu (l : List Int) (i : Int) : Int := l.getD i.toNat 0
theorem menu_at {l : List Int} {i : Int} (h0 : 0 ≤ i) (h1 : i < l.length) : atI (l.map PyData.int) i = some (.int (menu l i)) := qt_of (by simp (disch := with_unfolding_all
  obtain ⟨j, rfl⟩ : ∃ j : Nat, i = (j : Int) := ⟨i.toNat, by omega⟩
  have hj : j < l.length := by omega
  refine atI_nat ?_
  unfold menu
  rw [List.getElem?_map, List.getElem?_eq_getElem hj, Int.toNat_natCast, List.getD_eq_getElem?_getD, List.getElem?_eq_getElem hj]
  rfl
  ) only [↓qt_eq])
theorem menu_mem {l : List Int} {i : Int} (h0 : 0 ≤ i) (h1 : i < l.length) : menu l i ∈ l := qt_of (by simp (disch := with_unfolding_all
  obtain ⟨j, rfl⟩ : ∃ j : Nat, i = (j : Int) := ⟨i.toNat, by omega⟩
  have hj : j < l.length := by omega
  unfold menu
  rw [Int.toNat_natCast, List.getD_eq_getElem?_getD, List.getElem?_eq_getElem hj]
  exact List.getElem_mem hj
  ) only [↓qt_eq])
def partOf (s : Bag) : Fr := fracF (pullV s 13 - 6) (menu [1, 1, 2, 3] (pullV (pullS s 13) 4))
def partS (s : Bag) : Bag := pullS (pullS s 13) 4
def P_part : Bag → List PyData → PyData → Bag → Prop := fun s ds r s' => ds = [] ∧ r = fr (partOf s) ∧ s' = partS s
theorem ev_b0 {K : Fg} {G : Gam} {s s' : Bag} {x : PyData} {E : XK} {i : Nat} {P : Bag → List PyData → PyData → Bag → Prop} (hi : G[i]? = some .bag) (hp : P s [] x s') : EvG K (tCall (spB K P) [] E (tCons (tVar i) tNil)) G s x s' := ev_callB hi ea_nil hp
theorem ev_part {K : Fg} {G : Gam} {s : Bag} {E : XK} {i : Nat} (hi : G[i]? = some .bag) : EvG K (tCall (spB K P_part) [] E (tCons (tVar i) tNil)) G s (fr (partOf s)) (partS s) := ev_b0 hi ⟨rfl, rfl, rfl⟩
theorem partOf_sz (s : Bag) : Sz 10 (partOf s) := qt_of (by simp (disch := with_unfolding_all
  obtain ⟨z1, z2⟩ := pullV_range s (n := 13) (by decide)
  obtain ⟨y1, y2⟩ := pullV_range (pullS s 13) (n := 4) (by decide)
  have hm := menu_mem (l := [1, 1, 2, 3]) y1 y2
  unfold partOf
  generalize menu _ _ = m at hm
  generalize pullV s 13 = y at *
  simp only [List.mem_cons, List.mem_singleton, List.not_mem_nil, or_false] at hm
  refine Sz.frac ?_ ?_
  · unfold Bd; omega
  · unfold Bd; omega
  ) only [↓qt_eq])
theorem partS_ok {s : Bag} (h : s.ok) : (partS s).ok := pullS_ok _ (pullS_ok _ h)
/-! ### alike: what is asked of a thing and itself -/
mutual
def okD : Nat → PyData → Bool
  | _, .none => true
  | _, .bool _ => true
  | _, .int _ => true
  | _, .str _ => true
  | 0, .list _ => false
  | 0, .tuple _ => false
  | n + 1, .list xs => decide (xs.length ≤ 1000000) && okAll n xs
  | n + 1, .tuple xs => decide (xs.length ≤ 1000000) && okAll n xs
  | _, .dict _ => false
def okAll : Nat → List PyData → Bool
  | _, [] => true
  | n, x :: xs => okD n x && okAll n xs
end
section
variable {K : Fg} {G G' G1 G2 : Gam} {s s1 s2 s3 s' : Bag} {ta tb tc te : TE} {t u : TT} {x y z : PyData} {E : XK}
end
end U

end
section
namespace U
open PySem PyProof.Rows L2 Evl
/-! what plain data are -/
theorem okD_sh (n : Nat) : ∀ x : PyData, okD n x = true → x.depth ≤ n ∧ PyData.eqv x x = true := qt_of (by simp (disch := with_unfolding_all
  induction n with
  | zero =>
    intro x h
    cases x with
    | none => exact ⟨Nat.le_refl _, rfl⟩
    | bool b => exact ⟨Nat.le_refl _, by show (b == b) = true; simp⟩
    | int i => exact ⟨Nat.le_refl _, by show (i == i) = true; simp⟩
    | str s => exact ⟨Nat.le_refl _, by show (s == s) = true; simp⟩
    | list xs => cases h
    | tuple xs => cases h
    | dict xs => cases h
  | succ n ih =>
    have all : ∀ xs : List PyData, okAll n xs = true → PyData.depthAll xs ≤ n ∧ PyData.eqvAll xs xs = true := fun xs => by
      induction xs with
      | nil => exact fun _ => ⟨Nat.zero_le _, rfl⟩
      | cons a l ih2 =>
        intro h
        unfold okAll at h
        obtain ⟨h1, h2⟩ := Bool.and_eq_true_iff.mp h
        obtain ⟨a2, a3⟩ := ih a h1
        obtain ⟨b2, b3⟩ := ih2 h2
        refine ⟨?_, ?_⟩
        · show max a.depth (PyData.depthAll l) ≤ n
          exact Nat.max_le.mpr ⟨a2, b2⟩
        · show (PyData.eqv a a && PyData.eqvAll l l) = true
          rw [a3, b3]; rfl
    intro x h
    cases x with
    | none => exact ⟨Nat.zero_le _, rfl⟩
    | bool b => exact ⟨Nat.zero_le _, by show (b == b) = true; simp⟩
    | int i => exact ⟨Nat.zero_le _, by show (i == i) = true; simp⟩
    | str s => exact ⟨Nat.zero_le _, by show (s == s) = true; simp⟩
    | list xs =>
      unfold okD at h
      obtain ⟨h1, h2⟩ := Bool.and_eq_true_iff.mp h
      obtain ⟨b2, b3⟩ := all xs h2
      exact ⟨Nat.succ_le_succ b2, b3⟩
    | tuple xs =>
      unfold okD at h
      obtain ⟨h1, h2⟩ := Bool.and_eq_true_iff.mp h
      obtain ⟨b2, b3⟩ := all xs h2
      exact ⟨Nat.succ_le_succ b2, b3⟩
    | dict xs => cases h
  ) only [↓qt_eq])
theorem canAll_of : ∀ {xs : List PyData}, (∀ x ∈ xs, x.canLay0 = true) → PyData.canLayAll0 xs = true
  | [], _ => rfl
  | x :: xs, h => by
    show (x.canLay0 && PyData.canLayAll0 xs) = true
    rw [h x (List.mem_cons_self ..), canAll_of fun y hy => h y (List.mem_cons_of_mem _ hy)]
    rfl
theorem can_list {xs : List PyData} (h : ∀ x ∈ xs, x.canLay0 = true) : (PyData.list xs).canLay0 = true := canAll_of h
theorem can_tup {xs : List PyData} (h : ∀ x ∈ xs, x.canLay0 = true) : (PyData.tuple xs).canLay0 = true := canAll_of h
theorem can_fr (p : Fr) : (fr p).canLay0 = true := rfl
theorem can_frs (ps : List Fr) : (PyData.tuple (ps.map fr)).canLay0 = true := can_tup fun x hx => by
  obtain ⟨p, _, rfl⟩ := List.mem_map.mp hx
  exact can_fr p
theorem shaped_ok {n : Nat} {x : PyData} (h1 : x.canLay0 = true) (h : okD n x = true) (hn : n ≤ 60) : SeqAt.shaped x = true := by
  obtain ⟨h2, _⟩ := okD_sh n x h
  unfold SeqAt.shaped
  rw [h1, decide_eq_true (show x.depth ≤ 64 by omega)]
  rfl
theorem eqv_self {n : Nat} {x : PyData} (h : okD n x = true) : PyData.eqv x x = true := (okD_sh n x h).2
theorem okAll_of {n : Nat} : ∀ {xs : List PyData}, (∀ x ∈ xs, okD n x = true) → okAll n xs = true
  | [], _ => rfl
  | x :: xs, h => by
    unfold okAll
    rw [h x (List.mem_cons_self ..), okAll_of fun y hy => h y (List.mem_cons_of_mem _ hy)]
    rfl
theorem okD_list {n : Nat} {xs : List PyData} (hl : xs.length ≤ 1000000) (h : ∀ x ∈ xs, okD n x = true) : okD (n + 1) (.list xs) = true := by
  unfold okD
  rw [decide_eq_true hl, okAll_of h]
  rfl
theorem okD_tup {n : Nat} {xs : List PyData} (hl : xs.length ≤ 1000000) (h : ∀ x ∈ xs, okD n x = true) : okD (n + 1) (.tuple xs) = true := by
  unfold okD
  rw [decide_eq_true hl, okAll_of h]
  rfl
theorem okD_fr (n : Nat) (p : Fr) : okD (n + 1) (fr p) = true := by cases n <;> rfl
theorem okD_frs {n : Nat} {ps : List Fr} (hl : ps.length ≤ 1000000) : okD (n + 2) (.tuple (ps.map fr)) = true := okD_tup (by rw [List.length_map]; exact hl) fun x hx => by
  obtain ⟨p, _, rfl⟩ := List.mem_map.mp hx
  exact okD_fr n p
end U

end
section
namespace U
open PySem PyProof.Rows L2 Evl
/-- list + list, both of them only read -/
def rCatL (K : Fg) : R2 := fun x y H Q => ∃ a b xs ys, x = .ref a ∧ y = .ref b ∧ SqL K H a xs ∧ SqL K H b ys ∧ xs.length + ys.length ≤ sizeLine ∧ ∀ p, H p = none → Q (.ref p) (upd H p (.lst (xs ++ ys)))
section
variable {X : Cx}
theorem op_catL : OpR X (binaryOp .Add) (rCatL X.K) := by
  intro pins s σ H x y v u Q I rx ry h
  obtain ⟨l, b, xs, zs, rfl, rfl, hH, hB, hz, q⟩ := h
  cases rx
  cases ry
  obtain ⟨its, r, pl, hl⟩ := I.list hH
  obtain ⟨its2, r2, pl2, hl2⟩ := I.list hB
  have h1 := r.length
  have h2 := r2.length
  obtain ⟨⟨cls, dd, data, sl⟩, n, ho, hc, _, hd⟩ := pl
  obtain ⟨⟨cls2, dd2, data2, sl2⟩, n2, ho2, hc2, _, hd2⟩ := pl2
  simp only at hc hd hc2 hd2
  subst hc hd hc2 hd2
  refine concat_meets ⟨_, ho, rfl⟩ ⟨_, ho2, rfl⟩ noFill_list_add seq_list_add F.slot_list_add F.entry_list_add (F.args_list_add_2 _ _) (list_addW l b its.toArray its2.toArray n n2 dd dd2 sl sl2 (by rw [List.size_toArray, List.size_toArray]; omega)) ⟨ho, ho2, ?_⟩
  have ea : its.toArray ++ its2.toArray = (its ++ its2).toArray := by simp
  rw [ea]
  exact ⟨.ref _, _, I.lnew (t' := s.toks) (r.append r2) (by rw [List.length_append]; omega), rfl, q _ I.fresh⟩
end
section
variable {K : Fg} {G G1 G2 : Gam} {s s1 s2 s3 s' : Bag} {ta tb tc te : TE} {t u : TT} {x y z : PyData}
theorem cutD_whole {xs : List PyData} {lo hi : Option Int} (h : HT.sIx xs.length 0 lo = 0 ∧ HT.sIx xs.length xs.length hi = xs.length) : cutD xs lo hi = xs := by
  unfold cutD
  rw [h.1, h.2, List.drop_zero, Nat.sub_zero, List.take_length]
end
end U

end
section
namespace U
open PySem PyProof.Rows L2 Evl
section
variable {K : Fg} {G G1 G2 : Gam} {s s1 s2 s3 s' : Bag} {ta tb tc te : TE} {t u : TT} {x y z : PyData}
/-! ### in, not in: whole numbers -/
/-! ### zip -/
/-! ### a comprehension that draws -/
def itB (N : Bag → Bag) : Nat → Bag → Bag
  | 0, s => s
  | n + 1, s => N (itB N n s)
def drawn (F : Bag → PyData) (N : Bag → Bag) (n : Nat) (s : Bag) : List PyData := (List.range n).map fun i => F (itB N i s)
theorem ev_lcDraw {wi : TI} {g : TG} {vs : List Nat} {ds : List PyData} (h : Src K wi G s ds s1) (F : Bag → PyData) (N : Bag → Bag) (hu : ∀ i e, i ∈ vs → G[i]? = some e → e = .un) (hz : ds.length ≤ 16000000)
    (hs : ∀ x s, x ∈ ds → ∃ Gt, Tgt K g vs G x Gt ∧ EvG K te Gt s (F s) (N s)) : EvG K (tLc wi g tYes te vs) G s (.list (drawn F N ds.length s1)) (itB N ds.length s1) := qt_of (by simp (disch := with_unfolding_all
  have k := ev_lc (K := K) (te := te) (tt := tYes) h (fun i => some (F (itB N i s1))) (fun i => itB N i s1) rfl hu hz fun i x hx => by
    obtain ⟨Gt, a, b⟩ := hs x (itB N i s1) (List.mem_of_getElem? hx)
    exact ⟨Gt, _, a, et_yes, fun y hy => by cases hy; exact b, fun hn => by cases hn⟩
  have e : (List.range ds.length).filterMap (fun i => some (F (itB N i s1))) = drawn F N ds.length s1 := by
    unfold drawn
    exact congrFun List.filterMap_eq_map' _
  rw [e] at k
  exact k
  ) only [↓qt_eq])
end
end U

end
section
namespace U
open PySem PyProof.Rows L2 Evl
local macro_rules | `(tactic| walk_at "ev1") => `(tactic| first
  | exact ev_int | exact ev_bl | exact ev_str | exact ev_non | exact ev_var rfl | exact ea_nil | exact eo_none
  | with_reducible apply ev_ixDisp | with_reducible apply ev_fst | with_reducible apply ev_snd
  | with_reducible apply ev_add | with_reducible apply ev_sub | with_reducible apply ev_mul | with_reducible apply ev_fdiv | with_reducible apply ev_mod | with_reducible apply ev_pow
  | with_reducible apply ev_lt | with_reducible apply ev_le | with_reducible apply ev_gt | with_reducible apply ev_ge
  | with_reducible apply ev_eqI | with_reducible apply ev_neI
  | with_reducible apply ev_neg | with_reducible apply ev_subB | with_reducible apply ev_isNo | with_reducible apply ev_noNo
  | with_reducible apply ev_not | with_reducible apply et_test | with_reducible apply et_B | with_reducible apply et_not
  | with_reducible apply ev_abs | with_reducible apply ev_max | with_reducible apply ev_min | with_reducible apply ev_intB
  | with_reducible apply ev_gcd | with_reducible apply ev_frac | with_reducible apply ev_fadd | with_reducible apply ev_sign | with_reducible apply ev_cmpF
  | with_reducible apply ev_pull rfl
  | with_reducible apply ev_like
  | with_reducible apply ev_tup | with_reducible apply ev_lst | with_reducible apply ea_cons | with_reducible apply eo_some
  | with_reducible apply ev_order | exact ev_part rfl | exact ev_far rfl | exact ev_farPart rfl
  | (with_reducible show List.length _ ≤ 16000000; (simp; done)) | (with_reducible show (0 : Int) < _; decide) | (with_reducible show (_ : Int) < 1000000000000; decide) | (with_reducible show CPow _ _; (unfold CPow; decide)) | (with_reducible show CNz _ _; (unfold CNz; decide))
  | with_reducible apply sg_ret | with_reducible apply sg_asg | with_reducible apply sg_next)
local macro_rules | `(tactic| walk_at "ln") => `(tactic| first | walk_at "ev1" | with_reducible apply sg_seq)

section
variable {K : Fg}
-- slots of order: 0 one, 1 other, 2 gap
def t__law_gcd (K : Fg) : TS := (tSeq (tAsg (tCB rAbs (tCons (tVar 0) tNil)) (gName 0))
  (tSeq (tAsg (tCB rAbs (tCons (tVar 1) tNil)) (gName 1))
  (tSeq (tWhile (tTest (tOp (rI0 fun i j => V.bl (decide (j < i))) (tVar 1) (tC (V.int 0)))) (tSeq (tAsg (tVar 1) (gName 2))
  (tSeq (tAsg (tOp (rI CNz fun i j => V.int (i.fmod j)) (tVar 0) (tVar 1)) (gName 1))
  (tAsg (tVar 2) (gName 0)))))
  (tRet (tCB rMx (tCons (tC (V.int 1)) (tCons (tVar 0) tNil)))))))
-- slots of _law_gcd: 0 _law_one, 1 _law_other, 2 _law_kept
theorem ln__law_gcd : ∀ ds r, P_gcd ds r → ds.length = 2 := fun ds r h => by obtain ⟨p, q, rfl, _⟩ := h; rfl
theorem rd__law_gcd {ds r} (h : P_gcd ds r) (b : Bag) : SG K (t__law_gcd K) (frame 3 ds) b (.rt r b) := qt_of (by simp (disch := with_unfolding_all
  obtain ⟨x, y, rfl, rfl⟩ := h
  unfold t__law_gcd
  obtain ⟨n, h1, h2⟩ := eu_end y.natAbs x.natAbs
  apply sg_is
  apply sg_seq
  (repeat' walk_at "ev1")
  apply sg_seq
  (repeat' walk_at "ev1")
  apply sg_seq
  · refine sg_while (s' := b) (fun i => [.d (.int (eu x.natAbs y.natAbs i).1), .d (.int (eu x.natAbs y.natAbs i).2), .un]) (fun _ => b) (fun _ => b) n ?_ rfl (fun i hi => ?_) (fun i hi => .inl ?_) ?_
    · show Wk [.d (.int (absI x)), .d (.int (absI y)), .un] _
      rw [absI_nat, absI_nat]
      exact .refl _
    · refine et_is (by (repeat' walk_at "ev1")) ?_
      have := h2 i hi
      simp; omega
    · have hy := h2 i hi
      refine sg_wk (G1 := [.d (.int (eu x.natAbs y.natAbs (i + 1)).1), .d (.int (eu x.natAbs y.natAbs (i + 1)).2), .d (.int (eu x.natAbs y.natAbs i).2)]) ?_ (.cons (.cons (.drop .nil)))
      apply sg_is
      (repeat' walk_at "ln")
      · show ((eu x.natAbs y.natAbs i).2 : Int) ≠ 0
        omega
      · rw [fmod_nat]
        rfl
    · refine et_is (by (repeat' walk_at "ev1")) ?_
      rw [h1]
      rfl
  · rw [h1]
    (repeat' walk_at "ev1")
  · show Out.rt (.int (maxI 1 _)) b = _
    rw [max_gN]
  ) only [↓qt_eq])
def t__law_frac (K : Fg) : TS := (tSeq (tAsg (tCall (spP K P_gcd) [] E0 (tCons (tVar 0) (tCons (tVar 1) tNil))) (gName 2))
  (tSeq (tIfS (tTest (tOp (rI0 fun i j => V.bl (decide (i < j))) (tVar 1) (tC (V.int 0)))) (tAsg (tUn (rU fun i => V.int (-i)) (tVar 2)) (gName 2)) tNext)
  (tRet (tTup (tCons (tOp (rI CDvX fun i j => V.int (i.fdiv j)) (tVar 0) (tVar 2)) (tCons (tOp (rI CDvX fun i j => V.int (i.fdiv j)) (tVar 1) (tVar 2)) tNil))))))
-- slots of _law_frac: 0 _law_above, 1 _law_below, 2 _law_divisor
theorem ln__law_frac : ∀ ds r, P_frac ds r → ds.length = 2 := fun ds r h => by obtain ⟨p, q, rfl, _⟩ := h; rfl
theorem rd__law_frac {ds r} (h : P_frac ds r) (b : Bag) : SG K (t__law_frac K) (frame 3 ds) b (.rt r b) := qt_of (by simp (disch := with_unfolding_all
  obtain ⟨x, y, rfl, hx, hy, rfl⟩ := h
  unfold t__law_frac
  have hg := gI_pos x y
  have hb : Bd 7991 (gI x y) := Bd.g hx hy
  apply sg_seq
  (repeat' walk_at "ev1")
  apply sg_when
  (repeat' walk_at "ev1")
  · intro h
    have h := of_decide_eq_true h
    apply sg_is
    (repeat' walk_at "ln")
    · exact Bd.dv (by omega) hb.neg (by decide)
    · exact Bd.dv (by omega) hb.neg (by decide)
    · show Out.rt (fr (x.fdiv (-gI x y), y.fdiv (-gI x y))) b = Out.rt (fr (fracF x y)) b
      unfold fracF
      rw [if_pos h]
  · intro h
    have h := of_decide_eq_false h
    apply sg_is
    (repeat' walk_at "ln")
    · exact Bd.dv (by omega) hb (by decide)
    · exact Bd.dv (by omega) hb (by decide)
    · show Out.rt (fr (x.fdiv (gI x y), y.fdiv (gI x y))) b = Out.rt (fr (fracF x y)) b
      unfold fracF
      rw [if_neg h]
  ) only [↓qt_eq])
def t__law_add (K : Fg) : TS := (tRet (tCall (spP K P_frac) [] E0 (tCons (tOp (rI0 fun i j => V.int (i + j)) (tOp (rI CMulW fun i j => V.int (i * j)) (tOp (rIx K) (tVar 0) (tC (V.int 0))) (tOp (rIx K) (tVar 1) (tC (V.int 1)))) (tOp (rI CMulW fun i j => V.int (i * j)) (tOp (rIx K) (tVar 1) (tC (V.int 0))) (tOp (rIx K) (tVar 0) (tC (V.int 1))))) (tCons (tOp (rI CMulW fun i j => V.int (i * j)) (tOp (rIx K) (tVar 0) (tC (V.int 1))) (tOp (rIx K) (tVar 1) (tC (V.int 1)))) tNil))))
-- slots of _law_add: 0 _law_one, 1 _law_other
theorem ln__law_add : ∀ ds r, P_add ds r → ds.length = 2 := fun ds r h => by obtain ⟨_, _, p, q, rfl, _⟩ := h; rfl
theorem rd__law_add {ds r} (h : P_add ds r) (b : Bag) : SG K (t__law_add K) (frame 2 ds) b (.rt r b) := qt_of (by simp (disch := with_unfolding_all
  obtain ⟨n, m, p, q, rfl, hp, hq, hl, rfl⟩ := h
  exact sg_ret (ev_fracN (ev_add (ev_mul (ev_fst (ev_var rfl)) (ev_snd (ev_var rfl)) (hp.1.cm hq.2 (by omega))) (ev_mul (ev_fst (ev_var rfl)) (ev_snd (ev_var rfl)) (hq.1.cm hp.2 (by omega)))) (ev_mul (ev_snd (ev_var rfl)) (ev_snd (ev_var rfl)) (hp.2.cm hq.2 (by omega)))
    ((Bd.add (hp.1.mul hq.2) (by rw [Nat.add_comm n m]; exact hq.1.mul hp.2)).mono (by omega)) ((hp.2.mul hq.2).mono (by omega)))
  ) only [↓qt_eq])
def t__law_sign (K : Fg) : TS := (tRet (tOp (rI0 fun i j => V.int (i - j)) (tCB rInt1 (tCons (tOp (rI0 fun i j => V.bl (decide (j < i))) (tVar 0) (tC (V.int 0))) tNil)) (tCB rInt1 (tCons (tOp (rI0 fun i j => V.bl (decide (i < j))) (tVar 0) (tC (V.int 0))) tNil))))
-- slots of _law_sign: 0 _law_number
theorem ln__law_sign : ∀ ds r, P_sign ds r → ds.length = 1 := fun ds r h => by obtain ⟨p, rfl, _⟩ := h; rfl
theorem rd__law_sign {ds r} (h : P_sign ds r) (b : Bag) : SG K (t__law_sign K) (frame 1 ds) b (.rt r b) := by
  obtain ⟨p, rfl, rfl⟩ := h
  unfold t__law_sign
  apply sg_is
  (repeat' walk_at "ln")
  rfl
-- slots of _law_cmp: 0 _law_one, 1 _law_other
def t__law_part (K : Fg) : TS := (tRet (tCall (spP K P_frac) [] E0 (tCons (tOp (rI0 fun i j => V.int (i - j)) (tCall (spB K P_pull) [] E0 (tCons (tVar 0) (tCons (tC (V.int 13)) tNil))) (tC (V.int 6))) (tCons (tOp (rIx K) (tLst (tCons (tC (V.int 1)) (tCons (tC (V.int 1)) (tCons (tC (V.int 2)) (tCons (tC (V.int 3)) tNil))))) (tCall (spB K P_pull) [] E0 (tCons (tVar 0) (tCons (tC (V.int 4)) tNil)))) tNil))))
-- slots of _law_part: 0 _law_bag_here
theorem ln__law_part : ∀ s ds r s', P_part s ds r s' → ds.length + 1 = 1 := fun s ds r s' h => by obtain ⟨rfl, _⟩ := h; rfl
theorem rd__law_part {s ds r s'} (h : P_part s ds r s') (ok : s.ok) : SG K (t__law_part K) (.bag :: frame 0 ds) s (.rt r s') := qt_of (by simp (disch := with_unfolding_all
  obtain ⟨rfl, rfl, rfl⟩ := h
  unfold t__law_part
  obtain ⟨z1, z2⟩ := pullV_range s (n := 13) (by decide)
  obtain ⟨y1, y2⟩ := pullV_range (pullS s 13) (n := 4) (by decide)
  have hm := menu_mem (l := [1, 1, 2, 3]) y1 y2
  apply sg_is
  (repeat' walk_at "ln")
  all_goals first | exact menu_at (l := [1, 1, 2, 3]) y1 y2 | skip
  · unfold Bd; omega
  · refine Bd.mono (n := 10) ?_ (by decide)
    generalize menu _ _ = m at hm
    simp only [List.mem_cons, List.not_mem_nil, or_false] at hm
    unfold Bd; omega
  · rfl
  ) only [↓qt_eq])
-- slots of _law_far: 0 _law_bag_here
-- slots of _law_far_part: 0 _law_bag_here
def t__law_pull (K : Fg) : TS := (tSeq (tAsg (tOp (rIx K) (tVar 0) (tC (V.int 0))) (gName 2))
  (tSeq (tAsg (tC (V.int 0)) (gName 3))
  (tSeq (tIfS (tTest (tOp (rI0 fun i j => V.bl (decide (j < i))) (tCB (rLenQ K) (tCons (tVar 2) tNil)) (tC (V.int 0)))) (tSeq (tAsg (tOp (rI CNz fun i j => V.int (i.fmod j)) (tOp (rIx K) (tVar 0) (tC (V.int 1))) (tCB (rLenQ K) (tCons (tVar 2) tNil))) (gName 4))
  (tSeq (tAsg (tOp (rIx K) (tVar 2) (tVar 4)) (gName 3))
  (tIfS (tTest (tOp (rI0 fun i j => V.bl (decide (j ≤ i))) (tCB rAbs (tCons (tVar 3) tNil)) (tOp (rI CPow fun i j => V.int (i ^ j.toNat)) (tC (V.int 10)) (tC (V.int 18))))) (tSeq (tAsg (tOp (rI CDvX fun i j => V.int (i.fdiv j)) (tVar 3) (tVar 1)) (gSub (tVar 2) (tVar 4) rSetL))
  (tRet (tOp (rI CNz fun i j => V.int (i.fmod j)) (tVar 3) (tVar 1)))) tNext))) tNext)
  (tSeq (tAsg (tOp (rI0 fun i j => V.int (i + j)) (tOp (rIx K) (tVar 0) (tC (V.int 1))) (tC (V.int 1))) (gSub (tVar 0) (tC (V.int 1)) rSetL))
  (tSeq (tAsg (tOp (rI CNz fun i j => V.int (i.fmod j)) (tOp (rI0 fun i j => V.int (i + j)) (tOp (rI0 fun i j => V.int (i + j)) (tOp (rI CMulW fun i j => V.int (i * j)) (tOp (rIx K) (tVar 0) (tC (V.int 2))) (tC (V.int 48271))) (tOp (rI CNz fun i j => V.int (i.fmod j)) (tVar 3) (tC (V.int 1000003)))) (tOp (rIx K) (tVar 0) (tC (V.int 1)))) (tC (V.int 2147483647))) (gSub (tVar 0) (tC (V.int 2)) rSetL))
  (tRet (tOp (rI CNz fun i j => V.int (i.fmod j)) (tOp (rI CDvX fun i j => V.int (i.fdiv j)) (tOp (rI CNz fun i j => V.int (i.fmod j)) (tOp (rI0 fun i j => V.int (i + j)) (tOp (rI CMulW fun i j => V.int (i * j)) (tOp (rIx K) (tVar 0) (tC (V.int 2))) (tC (V.int 69621))) (tOp (rI CDvX fun i j => V.int (i.fdiv j)) (tOp (rIx K) (tVar 0) (tC (V.int 2))) (tC (V.int 65536)))) (tC (V.int 2147483629))) (tC (V.int 32))) (tVar 1))))))))
-- slots of _law_pull: 0 _law_bag_here, 1 _law_size, 2 _law_cells, 3 _law_cell, 4 _law_spot
theorem ln__law_pull : ∀ s ds r s', P_pull s ds r s' → ds.length + 1 = 2 := fun s ds r s' h => by obtain ⟨n, rfl, _⟩ := h; rfl
theorem bag_ne {H : Hp} {b c : Addr} {s : Bag} (h : BagAt H (some (b, c)) s) : b ≠ c := fun e => by
  have h1 := h.1
  have h2 := h.2.1
  rw [e, h2] at h1
  have h3 := HO.lst.inj (Option.some.inj h1)
  cases hc : s.cs with
  | nil => rw [hc] at h3; cases h3
  | cons x r => rw [hc] at h3; cases h3
theorem rd_pullTail {D : Ends} {H : Hp} {b c : Addr} {s : Bag} {cell n : Int} {x4 : Option V} (hB : BagAt H (some (b, c)) s) (h0 : 0 < n)
    (q : ∀ H', (∀ a o, H a = some o → ¬ InB (some (b, c)) a → H' a = some o) → BagAt H' (some (b, c)) ⟨s.cs, s.i + 1, (s.j * 48271 + cell.fmod 1000003 + (s.i + 1)).fmod 2147483647⟩ →
      D.rt (.int (((((s.j * 48271 + cell.fmod 1000003 + (s.i + 1)).fmod 2147483647) * 69621 + ((s.j * 48271 + cell.fmod 1000003 + (s.i + 1)).fmod 2147483647).fdiv 65536).fmod 2147483629).fdiv 32 |>.fmod n)) H') :
    (tSeq (tAsg (tOp (rI0 fun i j => V.int (i + j)) (tOp (rIx K) (tVar 0) (tC (V.int 1))) (tC (V.int 1))) (gSub (tVar 0) (tC (V.int 1)) rSetL))
  (tSeq (tAsg (tOp (rI CNz fun i j => V.int (i.fmod j)) (tOp (rI0 fun i j => V.int (i + j)) (tOp (rI0 fun i j => V.int (i + j)) (tOp (rI CMulW fun i j => V.int (i * j)) (tOp (rIx K) (tVar 0) (tC (V.int 2))) (tC (V.int 48271))) (tOp (rI CNz fun i j => V.int (i.fmod j)) (tVar 3) (tC (V.int 1000003)))) (tOp (rIx K) (tVar 0) (tC (V.int 1)))) (tC (V.int 2147483647))) (gSub (tVar 0) (tC (V.int 2)) rSetL))
  (tRet (tOp (rI CNz fun i j => V.int (i.fmod j)) (tOp (rI CDvX fun i j => V.int (i.fdiv j)) (tOp (rI CNz fun i j => V.int (i.fmod j)) (tOp (rI0 fun i j => V.int (i + j)) (tOp (rI CMulW fun i j => V.int (i * j)) (tOp (rIx K) (tVar 0) (tC (V.int 2))) (tC (V.int 69621))) (tOp (rI CDvX fun i j => V.int (i.fdiv j)) (tOp (rIx K) (tVar 0) (tC (V.int 2))) (tC (V.int 65536)))) (tC (V.int 2147483629))) (tC (V.int 32))) (tVar 1))))) D
    [some (.ref b), some (.int n), some (.ref c), some (.int cell), x4] H := qt_of (by simp (disch := with_unfolding_all
  obtain ⟨hb, hc, h1, h2, h3⟩ := id hB
  have nbc : b ≠ c := bag_ne hB
  have mulj : ∀ {x y : Int}, 0 ≤ x → x < 2147483647 → Bd 40 y → CMulW x y := fun {x y} a b c => Bd.cm (n := 31) (m := 40) (by unfold Bd; omega) c (by decide)
  generalize hj : (s.j * 48271 + cell.fmod 1000003 + (s.i + 1)).fmod 2147483647 = j at q
  have hjr : 0 ≤ j ∧ j < 2147483647 := by rw [← hj]; exact fmod_range _ (by decide)
  -- bag[1] = bag[1] + 1
  refine ⟨_, rfl, .inl ⟨b, _, 1, .int s.i, rfl, rfl, sq_of hb, rfl, _, _, rfl, rfl, _, rfl, b, _, 1, 1, rfl, rfl, hb, rfl, ?_⟩⟩
  -- bag[2] = ..
  refine ⟨_, rfl, .inl ⟨b, _, 2, .int s.j, rfl, rfl, sq_of upd_same, rfl, _, _, rfl, rfl, mulj h2 h3 (by unfold Bd; decide), _, rfl, _, _, rfl, rfl, (by show (1000003 : Int) ≠ 0; decide), _, _, rfl, rfl, _, rfl, .inl ⟨b, _, 1, .int (s.i + 1), rfl, rfl, sq_of upd_same, rfl, _, _, rfl, rfl, _, _, rfl, rfl, (by show (2147483647 : Int) ≠ 0; decide), _, rfl, b, _, 2, 2, rfl, rfl, upd_same, rfl, ?_⟩⟩⟩
  dsimp only
  rw [hj]
  -- return
  refine ⟨_, rfl, .inl ⟨b, _, 2, .int j, rfl, rfl, sq_of upd_same, rfl, _, _, rfl, rfl, mulj hjr.1 hjr.2 (by unfold Bd; decide), _, rfl, .inl ⟨b, _, 2, .int j, rfl, rfl, sq_of upd_same, rfl, _, _, rfl, rfl, ⟨by decide, by decide⟩, _, _, rfl, rfl, _, _, rfl, rfl, (by show (2147483629 : Int) ≠ 0; decide), _, _, rfl, rfl, ⟨by decide, by decide⟩, _, rfl, _, _, rfl, rfl, ?_, ?_⟩⟩⟩
  · show n ≠ 0
    omega
  · refine q _ (fun a o h z => ?_) ⟨upd_same, ?_, h1, hjr.1, hjr.2⟩
    · have na : a ≠ b := fun e => z ⟨b, c, rfl, .inl e⟩
      rw [upd_ne na, upd_ne na]; exact h
    · rw [upd_ne nbc.symm, upd_ne nbc.symm]; exact hc
  ) only [↓qt_eq])
theorem rd__law_pull {D : Ends} {W : Addr → Prop} {H : Hp} {b c : Addr} {s : Bag} {n : Int} (hB : BagAt H (some (b, c)) s) (h0 : 0 < n) (h1 : n < 1000000000000)
    (q : ∀ (v : V) (H' : Hp), (∀ (a : Addr) (o : HO), H a = some o → ¬InB (some (b, c)) a → H' a = some o) → BagAt H' (some (b, c)) (pullS s n) → Dp K (less H' fun a => W a ∨ InB (some (b, c)) a) v (PyData.int (pullV s n)) → D.rt v H') :
    t__law_pull K D [some (.ref b), some (.int n), none, none, none] H := qt_of (by simp (disch := with_unfolding_all
  obtain ⟨hb, hc, k1, k2, k3⟩ := id hB
  have nbc : b ≠ c := bag_ne hB
  unfold t__law_pull
  refine ⟨_, rfl, .inl ⟨b, _, 0, .ref c, rfl, rfl, sq_of hb, rfl, ?_⟩⟩
  have lc : SqL K H c (s.cs.map V.int) := sq_of hc
  refine ⟨_, rfl, c, _, rfl, .inl lc, _, _, rfl, rfl, _, rfl, ?_⟩
  rw [List.length_map]
  refine ite2 (fun h => ?_) (fun h => ?_)
  · have hl : 0 < s.cs.length := by have := of_decide_eq_true h; omega
    have hsp := fmod_range s.i (n := (s.cs.length : Int)) (by omega)
    obtain ⟨k, hk⟩ : ∃ k : Nat, s.i.fmod s.cs.length = (k : Int) := ⟨(s.i.fmod s.cs.length).toNat, by omega⟩
    have kl : k < s.cs.length := by omega
    have gk : (s.cs.map V.int)[k]? = some (.int s.cs[k]) := by rw [List.getElem?_map, List.getElem?_eq_getElem kl]; rfl
    have ec : cellOf s = s.cs[k] := by
      unfold cellOf
      rw [if_neg (by omega), hk, Int.toNat_natCast, List.getD_eq_getElem?_getD, List.getElem?_eq_getElem kl]
      rfl
    refine ⟨_, rfl, .inl ⟨b, _, 1, .int s.i, rfl, rfl, sq_of hb, rfl, _, rfl, c, _, rfl, .inl lc, _, _, rfl, rfl, ?_, ?_⟩⟩
    · show ((s.cs.map V.int).length : Int) ≠ 0
      rw [List.length_map]; omega
    rw [List.length_map]
    dsimp only
    rw [hk]
    refine ⟨_, rfl, _, rfl, .inl ⟨c, _, (k : Int), _, rfl, rfl, lc, atI_nat gk, ?_⟩⟩
    refine ⟨_, rfl, _, rfl, _, _, rfl, rfl, (by unfold CPow; decide), _, _, rfl, rfl, _, rfl, ?_⟩
    have e18 : (10 : Int) ^ (18 : Int).toNat = 1000000000000000000 := by decide
    rw [e18]
    refine ite2 (fun h2 => ?_) (fun h2 => ?_)
    · have hbig : 1000000000000000000 ≤ absI (cellOf s) := by
        rw [ec]; exact of_decide_eq_true h2
      have ep : pull s n = ((cellOf s).fmod n, ⟨s.cs.set k ((cellOf s).fdiv n), s.i, s.j⟩) := by
        unfold pull
        rw [if_pos ⟨hl, hbig⟩, hk, Int.toNat_natCast]
      refine ⟨_, rfl, _, rfl, _, _, rfl, rfl, ⟨by omega, ?_⟩, _, rfl, _, rfl, c, _, (k : Int), k, rfl, rfl, hc, ?_, ?_⟩
      · have : n.natAbs < 2 ^ 40 := by omega
        have := PySem.Flt.log2_lt_of (by decide) this
        omega
      · exact ixN_nat (by rw [List.length_map]; exact kl)
      · refine ⟨_, rfl, _, rfl, _, _, rfl, rfl, (by show n ≠ 0; omega), ?_⟩
        refine q _ _ (fun a o h z => ?_) ?_ ?_
        · rw [upd_ne (fun e => z ⟨b, c, rfl, .inr e⟩)]; exact h
        · unfold pullS
          rw [ep]
          refine ⟨by rw [upd_ne nbc]; exact hb, ?_, by rw [List.length_set]; exact k1, k2, k3⟩
          rw [upd_same, List.map_set, ec]
        · unfold pullV
          rw [ep, ec]
          exact .int _
    · have hbig : ¬ 1000000000000000000 ≤ absI (cellOf s) := fun z => h2 (decide_eq_true (by rw [ec] at z; exact z))
      refine rd_pullTail hB h0 fun H' e hB' => ?_
      have ep : pull s n = (((((s.j * 48271 + (cellOf s).fmod 1000003 + (s.i + 1)).fmod 2147483647) * 69621 + ((s.j * 48271 + (cellOf s).fmod 1000003 + (s.i + 1)).fmod 2147483647).fdiv 65536).fmod 2147483629).fdiv 32 |>.fmod n, ⟨s.cs, s.i + 1, (s.j * 48271 + (cellOf s).fmod 1000003 + (s.i + 1)).fmod 2147483647⟩) := by
        unfold pull
        rw [if_neg (fun z => hbig z.2)]
      refine q _ _ e ?_ ?_
      · unfold pullS
        rw [ep, ec]; exact hB'
      · unfold pullV
        rw [ep, ec]; exact .int _
  · have hl : s.cs.length = 0 := by
      have := of_decide_eq_false (eq_false_of_ne_true h)
      omega
    have ec : cellOf s = 0 := by unfold cellOf; rw [if_pos hl]
    refine rd_pullTail hB h0 fun H' e hB' => ?_
    have ep : pull s n = (((((s.j * 48271 + (cellOf s).fmod 1000003 + (s.i + 1)).fmod 2147483647) * 69621 + ((s.j * 48271 + (cellOf s).fmod 1000003 + (s.i + 1)).fmod 2147483647).fdiv 65536).fmod 2147483629).fdiv 32 |>.fmod n, ⟨s.cs, s.i + 1, (s.j * 48271 + (cellOf s).fmod 1000003 + (s.i + 1)).fmod 2147483647⟩) := by
      unfold pull
      rw [if_neg (fun z => by omega)]
    refine q _ _ e ?_ ?_
    · unfold pullS
      rw [ep, ec]; exact hB'
    · unfold pullV
      rw [ep, ec]; exact .int _
  ) only [↓qt_eq])
end
end U


end
section
namespace U
open PySem PyProof.Rows L2 Evl
theorem kit_int_bool : kitB "int" "bool" = some false := by decide +kernel
theorem kit_int_int : kitB "int" "int" = some true := by decide +kernel
theorem kit_list_list : kitB "list" "list" = some true := by decide +kernel
theorem kit_tuple_tuple : kitB "tuple" "tuple" = some true := by decide +kernel
local macro_rules | `(tactic| walk_at "ev1") => `(tactic| first
  | exact ev_int | exact ev_bl | exact ev_str | exact ev_non | exact ev_var rfl | exact ea_nil | exact eo_none
  | with_reducible apply ev_ixDisp | with_reducible apply ev_fst | with_reducible apply ev_snd
  | with_reducible apply ev_add | with_reducible apply ev_sub | with_reducible apply ev_mul | with_reducible apply ev_fdiv | with_reducible apply ev_mod | with_reducible apply ev_pow
  | with_reducible apply ev_lt | with_reducible apply ev_le | with_reducible apply ev_gt | with_reducible apply ev_ge
  | with_reducible apply ev_eqI | with_reducible apply ev_neI
  | with_reducible apply ev_neg | with_reducible apply ev_subB | with_reducible apply ev_isNo | with_reducible apply ev_noNo
  | with_reducible apply ev_not | with_reducible apply et_test | with_reducible apply et_B | with_reducible apply et_not
  | with_reducible apply ev_abs | with_reducible apply ev_max | with_reducible apply ev_min | with_reducible apply ev_intB
  | with_reducible apply ev_gcd | with_reducible apply ev_frac | with_reducible apply ev_fadd | with_reducible apply ev_sign | with_reducible apply ev_cmpF
  | with_reducible apply ev_pull rfl
  | with_reducible apply ev_like
  | with_reducible apply ev_tup | with_reducible apply ev_lst | with_reducible apply ea_cons | with_reducible apply eo_some
  | with_reducible apply ev_order | exact ev_part rfl | exact ev_far rfl | exact ev_farPart rfl
  | (with_reducible show List.length _ ≤ 16000000; (simp; done)) | (with_reducible show (0 : Int) < _; decide) | (with_reducible show (_ : Int) < 1000000000000; decide) | (with_reducible show CPow _ _; (unfold CPow; decide)) | (with_reducible show CNz _ _; (unfold CNz; decide))
  | with_reducible apply sg_ret | with_reducible apply sg_asg | with_reducible apply sg_next)
local macro_rules | `(tactic| walk_at "ln") => `(tactic| first | walk_at "ev1" | with_reducible apply sg_seq)

section
variable {K : Fg}
/-! _law_bag -/
def t__law_bag (K : Fg) : TS := (tRet (tLst (tCons (tCB (rListQ K) (tCons (tSl (rSlL K) (tVar 0) tNoPart (tPart (tC (V.int 63)))) tNil)) (tCons (tC (V.int 0)) (tCons (tC (V.int 20011)) tNil)))))
-- slots of _law_bag: 0 _law_script
theorem cut63 {xs : List V} (h : xs.length ≤ 63) : cutV xs none (some 63) = xs := qt_of (by simp (disch := with_unfolding_all
  unfold cutV
  rw [HT.sIx_none, show HT.sIx xs.length xs.length (some 63) = min 63 xs.length from HT.sIx_nat xs.length xs.length 63, Nat.min_eq_right h, List.drop_zero, Nat.sub_zero, List.take_length]
  ) only [↓qt_eq])
theorem rd__law_bag {D : Ends} {W : Addr → Prop} {H : Hp} {v : V} {ns : List Int} (hd : Dp K (less H W) v (.list (ns.map PyData.int))) (hl : ns.length ≤ 63)
    (q : ∀ b c H', Ex H H' → H b = none → H c = none → BagAt H' (some (b, c)) (bag0 ns) → D.rt (.ref b) H') : t__law_bag K D [some v] H := qt_of (by simp (disch := with_unfolding_all
  cases hd with
  | @lst a vs _ g t =>
    have e := dpa_ints t
    subst e
    have g' : SqL K H a (ns.map V.int) := ex_l less_ex g
    have ll : (ns.map V.int).length ≤ 63 := by rw [List.length_map]; exact hl
    unfold t__law_bag
    refine ⟨.ref a, rfl, 63, rfl, a, _, rfl, g', fun p hp => ?_⟩
    rw [cut63 ll]
    refine ⟨p, _, rfl, .inl (sq_of upd_same), fun c hc => ?_⟩
    refine ⟨by show 3 ≤ sizeLine; decide, fun b hb => ?_⟩
    have e1 : Ex H (upd H p (.lst (ns.map V.int))) := Ex.new hp
    have e2 := e1.trans (Ex.new (o := .lst (ns.map V.int)) hc)
    have nbc : c ≠ b := fun z => by
      rw [← z, upd_same] at hb; cases hb
    refine q b c _ (e2.trans (Ex.new hb)) (fresh_back e2 hb) (fresh_back e1 hc) ⟨upd_same, ?_, hl, by show (0 : Int) ≤ 20011; decide, by show (20011 : Int) < 2147483647; decide⟩
    rw [upd_ne nbc, upd_same]
    rfl
  ) only [↓qt_eq])
/-! _law_like -/
-- slots of _law_like: 0 _law_found, 1 _law_due, 2 _law_at
theorem un_at {G : Gam} {j : Nat} (h : G[j]? = some .un) : ∀ i e, i ∈ [j] → G[i]? = some e → e = .un := fun i e hi g => by
  rw [List.mem_singleton.mp hi, h] at g
  exact (Option.some.inj g).symm
/-! ### a law's loop -/
end
end U


end
section
/-! Own exception classes over any of four built-in bases, their __init__ walked as a def. -/
namespace U
open PySem PySem.W PyProof.Rows L2 Evl
structure OxC (K : Fg) (C : Addr) (B newId initId : String) (bmB : List Value) : Prop where
  fb : ExcBaseFacts B newId initId bmB
  sf : StoreFacts B bmB "object.__setattr__" "object"
  ov : excOver K C bmB = true
  mkC : excInitIn K C bmB newId = true
  hd : hasDictIn K C = true
  sa : findIn K (.ref C) "__setattr__" = some (some (.builtin "object.__setattr__"))
  exC : subIn K (.ref C) (.type "BaseException") = some true
  tyC : typeIn K (.ref C) = some (.type "type")
  kC : keepIn K (.ref C) = true
section
open Builtin Builtin.ObjectAttr
variable {prog : Program} {w : World} {A : Around} {R : Result → Shared → Prop} {hp : Heap} {g : Array GenState} {d : Drawn} {t : Nat} {os : OsState} {K : Fg} {C x : Addr} {B newId initId : String} {bmB : List Value} {name : Str} {tk : Tok} {v : Value} {fv : Array Value}
theorem taker_none (h : findIn K (.ref C) name = some none) : takerIn K C name = some none := by
  unfold takerIn
  rw [h]
  rfl
theorem has_dict (h : hasDictIn K C = true) : ∃ cd, clsIn K C = some cd ∧ cd.hasDict = true := by
  unfold hasDictIn at h
  cases e : clsIn K C with
  | none => rw [e] at h; cases h
  | some cd => rw [e] at h; exact ⟨cd, rfl, h⟩
/-- the first field of an exception that has no dict yet -/
theorem osa_first (T : OxC K C B newId initId bmB) (X : K.In hp) (hx : hp.get? x = some { cls := .ref C, data := .fields fv }) (ha : findIn K (.ref C) name = some none)
    (hq : ∀ h' tk' dx, (∀ b o, b ≠ x → hp.get? b = some o → h'.get? b = some o) → hp.objs.size ≤ dx → dx ≠ x →
      h'.get? x = some { cls := .ref C, dict := some dx, data := .fields fv } → h'.Ns1 dx (fun y => if y = name then some v else none) → R (.ok (.ret .none)) ⟨h', g, d, tk', os⟩) :
    codeAny (model prog w) A (.call (.builtin "object.__setattr__") ⟨[.ref x, .str name tk, v], []⟩) R ⟨hp, g, d, t, os⟩ := qt_of (by simp (disch := with_unfolding_all
  have I : InstAt hp x { cls := .ref C, data := .fields fv } C none := ⟨hx, rfl, rfl, trivial⟩
  have hxs : x ≠ hp.objs.size := Nat.ne_of_lt (Heap.lt_size hx)
  obtain ⟨cd, hcd, hh⟩ := has_dict T.hd
  have hcls : Looks (model prog w) hp (classData C) cd := looks_clsIn X hcd
  refine osa_openX (s := ⟨hp, g, d, t, os⟩) T.sf X I T.ov (taker_none ha) fun b => ?_
  obtain ⟨nm, bs, mro, ns, qn, hdv, sn, sb, ab, col, del⟩ := cd
  dsimp only at hh
  subst hh
  show wpAny _ _ (storeInOwnDict (.ref x) (.ref C) (.str name tk) name v b) _ _ _
  unfold storeInOwnDict ownDictForStores
  cases b <;>
  repeat (first | with_reducible refine HandSPX.store_in_new ?_ ?_ | with_reducible refine wpAny_loadPart_at hx ?_ | with_reducible refine hcls.at ?_ | wp_step)
  case' false.h.h.h.hq.refine_1 => skip
  all_goals first
    | exact ⟨_, #[], _, (Heap.get?_update_ne _ _ _ _ hxs.symm).trans (Heap.get?_push_at rfl rfl), rfl, (fun e he => absurd he (by simp)), (fun _ => rfl)⟩
    | (intro h2 tk2 hn2 hs2
       have hx1 : (hp.push { cls := .type "dict", data := .dict #[] }).get? x = some ⟨.ref C, none, .fields fv, #[]⟩ := Heap.get?_push_of_some _ hx
       refine hq h2 tk2 hp.objs.size (fun b o hb ho => ?_) (Nat.le_refl _) hxs.symm ?_ hn2
       · have e1 := hs2.2 b (Nat.ne_of_lt (Heap.lt_size ho))
         exact e1.trans ((Heap.get?_update_ne _ _ _ _ hb).trans (Heap.get?_push_of_some _ ho))
       · have e1 := hs2.2 x hxs
         exact e1.trans (Heap.get?_update_self _ hx1 rfl))
  ) only [↓qt_eq])
/-- a further field -/
theorem osa_more {dx : Addr} {m0 : Str → Option Value} {nl : List Str} (T : OxC K C B newId initId bmB) (X : K.In hp) (hx : hp.get? x = some { cls := .ref C, dict := some dx, data := .fields fv }) (ha : findIn K (.ref C) name = some none)
    (hns : hp.Ns1 dx m0) (hw : Within m0 nl) (hz : nl.length ≤ 1000)
    (hq : ∀ h' tk', (∀ b o, b ≠ dx → hp.get? b = some o → h'.get? b = some o) → h'.Ns1 dx (fun y => if y = name then some v else m0 y) →
      R (.ok (.ret .none)) ⟨h', g, d, tk', os⟩) :
    codeAny (model prog w) A (.call (.builtin "object.__setattr__") ⟨[.ref x, .str name tk, v], []⟩) R ⟨hp, g, d, t, os⟩ := qt_of (by simp (disch := with_unfolding_all
  obtain ⟨oD, esD, epD, hoD, hdD, _⟩ := hns.count hw
  have I : InstAt hp x { cls := .ref C, dict := some dx, data := .fields fv } C (some oD) := ⟨hx, rfl, rfl, hoD⟩
  obtain ⟨cd, hcd, hh⟩ := has_dict T.hd
  have hcls : Looks (model prog w) hp (classData C) cd := looks_clsIn X hcd
  refine osa_openX (s := ⟨hp, g, d, t, os⟩) T.sf X I T.ov (taker_none ha) fun b => ?_
  obtain ⟨nm, bs, mro, ns, qn, hdv, sn, sb, ab, col, del⟩ := cd
  dsimp only at hh
  subst hh
  show wpAny _ _ (storeInOwnDict (.ref x) (.ref C) (.str name tk) name v b) _ _ _
  unfold storeInOwnDict ownDictForStores
  cases b <;>
  repeat (first | with_reducible refine OEX.store_in_old hns hw hz ?_ | with_reducible refine wpAny_loadPart_at hx ?_ | with_reducible refine hcls.at ?_ | wp_step)
  all_goals
    intro h2 tk2 hn2 hs2
    exact hq h2 tk2 (fun b o hb ho => (hs2.2 b hb).trans ho) hn2
  ) only [↓qt_eq])
end
section
variable {X : Cx} {pins : List (Addr × Obj)} {σ : St} {H : Hp} {s : Shared} {a C dx : Addr} {f : Str} {y : V} {u : Value} {fs : List (Str × V)} {Q : Unit → Shared → Prop} {E : Value → Shared → Prop} {A : Around} {B newId initId : String} {bmB : List Value}
theorem ox_new (T : OxC X.K C B newId initId bmB) (I : Inv X pins σ H s) (e : H a = some (exo a C none)) (hno : findIn X.K (.ref C) f = some none) (ry : RelV y u)
    (h : ∀ dx s', H dx = none → dx ≠ a → Inv X pins σ (upd (upd H dx (exd dx [(f, y)])) a (exo a C (some dx))) s' → Q () s') :
    wpAny (model X.prog X.w) A (setAttr (.ref a) f u) Q E s := qt_of (by simp (disch := with_unfolding_all
  obtain ⟨t1, ho⟩ := exo_at I.hok e
  obtain ⟨hp, g, d, t, os⟩ := s
  refine set_plain I.kIn (od := none) ⟨ho, rfl, rfl, trivial⟩ T.sa ?_
  refine osa_first T I.kIn ho hno fun h2 tk2 dx k dn dne hx hn => ?_
  have hnd : H dx = none := I.hok.fresh dn
  have nd : ∀ {b : Addr} {o : Obj}, hp.get? b = some o → b ≠ dx := fun {b o} q =>
    Nat.ne_of_lt (Nat.lt_of_lt_of_le (Heap.lt_size q) dn)
  have na : ∀ {b : Addr}, H b = none → b ≠ a := fun {b} n z => by
    subst z
    rw [e] at n
    cases n
  have un : Un X.fs [] H (upd (upd H dx (exd dx [(f, y)])) a (exo a C (some dx))) hp h2 := by
    refine ⟨fun b o q n _ _ => k b o (na n) q, fun b o q n _ _ => ⟨o.slots, k b o (na n) q⟩, fun b o q n _ => ?_, fun b o q _ => ?_, fun b xs q => ?_, fun b o v q => ?_, fun b ps q => ⟨#[], ?_⟩⟩
    · rw [upd_ne (na n), upd_ne (nd q)]
      exact n
    · by_cases hb : b = a
      · subst hb
        exact ⟨_, hx⟩
      · exact ⟨o, k b o hb q⟩
    · rw [upd_ne (at_ne e q exo_tup), upd_ne (ne_of_none q hnd)]
      exact q
    · rw [upd_ne (at_ne e q exo_frz), upd_ne (ne_of_none q hnd)]
      exact q
    · rw [upd_ne (at_ne e q exo_tbl), upd_ne (ne_of_none q hnd), q]
      simp
  refine h dx _ hnd dne (I.un (t' := tk2) un fun b o q => ?_)
  by_cases hb : b = a
  · subst hb
    rw [upd_same] at q
    cases q
    exact exo_ok hx
  rw [upd_ne hb] at q
  by_cases hd : b = dx
  · subst hd
    rw [upd_same] at q
    cases q
    exact exd_ok hn (relO_put (fs := []) ry fun _ => True.intro)
  rw [upd_ne hd] at q
  refine (I.hok b o q).stay (fun c v hc z => k c v ?_ z) (fun c hc => ?_) (fun c xs hc => ?_)
  · rcases hc with rfl | hc
    · exact hb
    · exact at_ne e hc exo_own
  · rw [upd_ne (at_ne e hc exo_own), upd_ne (ne_of_none hc hnd)]
    exact hc
  · rw [upd_ne (at_ne e hc exo_tup), upd_ne (ne_of_none hc hnd)]
    exact hc
  ) only [↓qt_eq])
theorem ox_old (T : OxC X.K C B newId initId bmB) (I : Inv X pins σ H s) (e : H a = some (exo a C (some dx))) (ed : H dx = some (exd dx fs)) (hl : fs.length ≤ 900) (hno : findIn X.K (.ref C) f = some none) (ry : RelV y u)
    (h : ∀ s', Inv X pins σ (upd H dx (exd dx ((f, y) :: fs))) s' → Q () s') :
    wpAny (model X.prog X.w) A (setAttr (.ref a) f u) Q E s := qt_of (by simp (disch := with_unfolding_all
  obtain ⟨t1, ho⟩ := exo_at I.hok e
  obtain ⟨mA, hns, rel⟩ := exd_at I.hok ed
  have hw := within_of rel
  obtain ⟨hp, g, d, t, os⟩ := s
  obtain ⟨oD, _, _, hoD, _, _⟩ := hns.count hw
  refine set_plain I.kIn (od := some oD) ⟨ho, rfl, rfl, hoD⟩ T.sa ?_
  refine osa_more T I.kIn ho hno hns hw (by rw [List.length_map]; omega) fun h2 tk2 k hn => ?_
  have hd : ∃ o, h2.get? dx = some o := by
    obtain ⟨o, _, _, e2, _⟩ := hn
    exact ⟨o, e2⟩
  exact h _ (I.write (t' := tk2) (x := dx) (e := dx) (by rw [ed]; exact True.intro) (.inl rfl) k hd (exd_ok hn (relO_put ry rel)))
  ) only [↓qt_eq])
/-- what is promised by an own exception's class -/
structure OxK (K : Fg) (C : Addr) : Prop where
  ex : ∃ B newId initId bmB, OxC K C B newId initId bmB
/-- self.f = e, upon an exception that is being made -/
def tOx (K : Fg) (f : Str) (to te : TE) : TS := fun D σ H => te σ H fun y H1 => to σ H1 fun x H2 => ∃ a C : Addr, x = .ref a ∧ OxK K C ∧ findIn K (.ref C) f = some none ∧
  ((H2 a = some (exo a C none) ∧ ∀ dx, H2 dx = none → dx ≠ a → D.nx σ (upd (upd H2 dx (exd dx [(f, y)])) a (exo a C (some dx)))) ∨
    ∃ (dx : Addr) (fs : List (Str × V)), H2 a = some (exo a C (some dx)) ∧ H2 dx = some (exd dx fs) ∧ fs.length ≤ 900 ∧ D.nx σ (upd H2 dx (exd dx ((f, y) :: fs))))
/-- C(e, ..), C's own __init__ keeping sp -/
def tMkX (C : Addr) (sp : Sp) (dvs : List V) (ta : TA) : St → Hp → XK → Prop := fun σ H Q => ta σ H fun vs H1 => vs.length ≤ 1000 ∧ ∀ a, H1 a = none →
  sp (.ref a :: (vs ++ dvs)) (upd H1 a (exo a C none)) (fun v H2 => v = .non ∧ ∃ (d : Addr) (fs : List (Str × V)), H2 a = some (exo a C (some d)) ∧ H2 d = some (exd d fs) ∧ H1 d = none ∧
    Q (.ref C) (some d) (upd (del H2 a) d (.xd fs))) (fun _ _ _ => False)
end
section
variable {X : Cx} {o e : Expr} {es : List Expr} {to te : TE} {ta : TA} {f : Str} {p p' p1 p2 pos : Pos}
theorem ps_ox (ho : PE X o to) (he : PE X e te) (hs : swapsWith e (some (.Attribute o f p')) pos.line X.env = pure false := by rfl) :
    PS X (.Assign [.Attribute o f p'] e pos) (tOx X.K f to te) := by
  refine ⟨fun pins s σ H D I h => ?_⟩
  refine plainObj_wpAny_Assign_Attribute (thn (he.run pins s σ H _ I h) fun v s1 hh => ?_) hs
  obtain ⟨y, H1, I1, r1, q1⟩ := hh
  refine thn (ho.run pins s1 σ H1 _ I1 q1) fun u s2 hh => ?_
  obtain ⟨x, H2, I2, r2, a, C, ex, T, hno, q⟩ := hh
  subst ex
  obtain rfl : u = Value.ref a := r2
  obtain ⟨B, n1, n2, bm, T⟩ := T.ex
  rcases q with ⟨ea, q⟩ | ⟨dx, fs, ea, ed, hl, q⟩
  · exact ox_new T I2 ea hno r1 fun dx s' n ne J => ⟨σ, _, J, q dx n ne⟩
  · exact ox_old T I2 ea ed hl hno r1 fun s' J => ⟨σ, _, J, q⟩
/-- the call of the class, once the arguments are there -/
theorem made_ox {CX : CXT} {C fI : Addr} {k : Nat} {fd : FuncData} {ps : List Str} {sp : Sp} {ds : List Value} {dvs vs : List V} {us : List Value} {pins : List (Addr × Obj)} {σ : St} {H : Hp} {s : Shared} {Q : XK} (T : OxK X.K C)
    (iC : findIn X.K (.ref C) "__init__" = some (some (.ref fI))) (tI : typeIn X.K (.ref fI) = some (.type "function")) (F1 : FnOk X.prog X.w X.K X.mg X.base CX k fI fd ps sp) (hr : Room (k + 1) X.A) (hb : Binds X.K fd ps ds) (hd : Vals dvs ds)
    (hx : Passes CX X (fun _ _ _ => False)) (I : Inv X pins σ H s) (r1 : Vals vs us) (hz : vs.length ≤ 1000)
    (h : ∀ a, H a = none → sp (.ref a :: (vs ++ dvs)) (upd H a (exo a C none)) (fun v H2 => v = .non ∧ ∃ (d : Addr) (fs : List (Str × V)), H2 a = some (exo a C (some d)) ∧ H2 d = some (exd d fs) ∧ H d = none ∧
      Q (.ref C) (some d) (upd (del H2 a) d (.xd fs))) (fun _ _ _ => False)) :
    wpAny (model X.prog X.w) X.A (call (.ref C) us) (MkP X pins σ Q) X.xe s := qt_of (by simp (disch := with_unfolding_all
  obtain ⟨B, n1, n2, bm, T⟩ := T.ex
  obtain ⟨hp, g, dr, tk, os⟩ := s
  obtain ⟨nm, N', qn, bs, bm', hdct, sn, sub, ab, col, dd, k0, k1, k2, k3, k5, hC, hT⟩ := excInit_of I.kIn T.mkC
  have hsz : hp.objs.size ≤ hp.objs.size + 1 := Nat.le_succ _
  have hn : H (hp.objs.size + 1) = none := I.hok.fresh hsz
  have hq := h (hp.objs.size + 1) hn
  have kk : ∀ b o, hp.get? b = some o → ((hp.push (kdv_tup us)).push (HandSPX.excO C hp.objs.size)).get? b = some o := fun b o e =>
    Heap.get?_push_of_some _ (Heap.get?_push_of_some _ e)
  have hget : ((hp.push (kdv_tup us)).push (HandSPX.excO C hp.objs.size)).get? (hp.objs.size + 1) = some (HandSPX.excO C hp.objs.size) := by heap_get
  have I2 := I.laid (t' := tk) (a := hp.objs.size + 1) (o := exo (hp.objs.size + 1) C none) (h' := (hp.push (kdv_tup us)).push (HandSPX.excO C hp.objs.size)) kk hsz (exo_ok hget)
  have r2 : Vals (V.ref (hp.objs.size + 1) :: (vs ++ dvs)) (Value.ref (hp.objs.size + 1) :: (us ++ ds)) := .cons rfl (r1.append hd)
  have hl : (Value.ref (hp.objs.size + 1) :: us ++ ds).length = ps.length := by
    rw [← F1.len _ _ _ _ hq]
    exact r2.length.symm
  have hus : us.length ≤ sizeLine := by
    rw [← Paired.length r1, sizeLine_eq]
    omega
  refine wpAny_call (HandSPX.call_own T.fb hT hC (looks_findIn I.kIn iC) (fun self => bind_fn I.kIn self tI) hus ?_)
  refine codeAny_mono (F1.run _ X.stack _ _ ⟨Value.ref (hp.objs.size + 1) :: us, []⟩ (Value.ref (hp.objs.size + 1) :: (us ++ ds)) _ _ (fun _ _ _ => False) (hr.make C us []) (I2.env0.make C us []) (hb _ _ I2.kIn hl) r2 hq) fun r s' hq' => ?_
  cases r with
  | error er => exact hx pins σ _ _ er s' I2 hq'
  | ok fl =>
    cases fl with
    | ret u =>
      obtain ⟨v, H2, os2, bare2, un2, hok2, rv, ev, d, fs, ea, ed, hd1, q2⟩ := hq'
      subst ev
      obtain ⟨h2, g2, d2, t2, os'⟩ := s'
      exact ⟨rv, mk_end (raises_own T.exC T.tyC) I hsz kk un2 hok2 os2 bare2 ea ed hd1 q2⟩
    | next => exact False.elim hq'
    | brk => exact False.elim hq'
    | cont => exact False.elim hq'
  ) only [↓qt_eq])
theorem pmk_ox0 {CX : CXT} {x : Str} {C fI : Addr} {k : Nat} {fd : FuncData} {ps : List Str} {sp : Sp} {ds : List Value} {dvs : List V} (T : OxK X.K C) (kC : keepIn X.K (.ref C) = true)
    (iC : findIn X.K (.ref C) "__init__" = some (some (.ref fI))) (tI : typeIn X.K (.ref fI) = some (.type "function")) (F1 : FnOk X.prog X.w X.K X.mg X.base CX k fI fd ps sp) (hr : Room (k + 1) X.A) (hb : Binds X.K fd ps ds) (hd : Vals dvs ds)
    (hx : Passes CX X (fun _ _ _ => False)) (hg : Gl X x) (hm : X.mg x = some (.ref C)) (hdb : (x == ("__debug__" : Str)) = false := by decide) :
    PMk X (.Call (.Name x p) [] [] pos) (tMkX C sp dvs tNil) := by
  intro pins s σ H Q I h
  refine wpAny_Call_Name_kw (ld_glob I hg hm ?_ hdb)
  exact callWith_K0 I.kIn kC (made_ox (us := []) (vs := []) T iC tI F1 hr hb hd hx I .nil (by show 0 ≤ 1000; decide) h.2)
end
end U

end
section
/-! Raising, over data: promises of defs that may raise, judgements of what raises, try .. except .. as. -/
namespace U
open PySem PyProof.Rows L2 Evl
/-- an exception: its class's name, its fields -/
structure Xw where
  cls : Str
  fs : List (Str × V)
abbrev Cs := Str → Addr
/-- a def's promise that may raise -/
def spX (K : Fg) (cs : Cs) (P : List PyData → Except Xw PyData → Prop) : Sp := fun vs H Q E => ∃ (W : Addr → Prop) (ds : List PyData) (r : Except Xw PyData), (∀ a, W a → ∃ o, H a = some o) ∧ DpAll K (less H W) vs ds ∧ P ds r ∧
  match r with
  | .ok x => ∀ v H', Ex H H' → Dp K (less H' W) v x → Q v H'
  | .error e => ∀ d H', Ex H H' → H d = none → H' d = some (.xd e.fs) → E (.ref (cs e.cls)) (some d) H'
def EX (K : Fg) (cs : Cs) (W : WX) (te : TE) (G : Gam) (s : Bag) (e : Xw) (s' : Bag) : Prop :=
  ∀ Wd B ad H0 H σ, Sta K Wd B ad H0 H σ G s → (∀ d H', Sta K Wd B ad H0 H' σ G s' → Xb B H H' → H0 d = none → H' d = some (.xd e.fs) → W (.ref (cs e.cls)) (some d) σ H') → ∀ Q : VK, te σ H Q
def SX (K : Fg) (cs : Cs) (W : WX) (ts : TS) (G : Gam) (s : Bag) (e : Xw) (G' : Gam) (s' : Bag) : Prop :=
  ∀ Wd B ad H0 H σ (D : Ends), Sta K Wd B ad H0 H σ G s → (∀ d ad' H' σ', Sta K Wd B ad' H0 H' σ' G' s' → Ex (less H (Zs Wd B ad G)) (less H' (Zs Wd B ad' G')) → H0 d = none → H' d = some (.xd e.fs) → W (.ref (cs e.cls)) (some d) σ' H') → ts D σ H
section
variable {K : Fg} {cs : Cs} {W : WX} {G G' G1 G2 : Gam} {s s1 s2 s3 s' : Bag} {ta tb tc te : TE} {t u : TT} {x y z : PyData} {tu tw tz : TS} {o : Out} {e : Xw}
theorem ev_callX {P : List PyData → Except Xw PyData → Prop} {ta : TA} {ds : List PyData} {dvs : List V} {des : List PyData} {E : St → XK} (h : EvA K ta G s ds s') (hd : ∀ H, DpAll K H dvs des) (hp : P (ds ++ des) (.ok x)) : EvG K (tCallSD (spX K cs P) dvs E ta) G s x s' := fun W B ad H0 H σ S Q q =>
  h W B ad H0 H σ S _ fun vs H1 S1 e1 d1 => ⟨Zs W B ad G, ds ++ des, .ok x, S1.there, dpa_app d1 (hd _), hp, fun v H' e d => q v H' (S1.ext e) (e1.trans (.of e)) d⟩
theorem ex_call {P : List PyData → Except Xw PyData → Prop} {ta : TA} {ds : List PyData} {dvs : List V} {des : List PyData} (h : EvA K ta G s ds s') (hd : ∀ H, DpAll K H dvs des) (hp : P (ds ++ des) (.error e)) : EX K cs W (tCallSD (spX K cs P) dvs (WE W) ta) G s e s' := fun Wd B ad H0 H σ S k Q =>
  h Wd B ad H0 H σ S _ fun vs H1 S1 e1 d1 => ⟨Zs Wd B ad G, ds ++ des, .error e, S1.there, dpa_app d1 (hd _), hp, fun d H' e2 hn hx => k d H' (S1.ext e2) (e1.trans (.of e2)) (S1.fresh hn).1 hx⟩
theorem sx_ret (h : EX K cs W te G s e s') : SX K cs W (tRet te) G s e G s' := fun Wd B ad H0 H σ D S k => h Wd B ad H0 H σ S (fun d H' S' e' => k d ad H' σ S' e'.l) _
theorem sx_seq1 (h : SX K cs W tu G s e G' s') : SX K cs W (tSeq tu tz) G s e G' s' := fun Wd B ad H0 H σ D S k => h Wd B ad H0 H σ _ S k
theorem sx_ifT (h : EvT K t G s true s1) (h2 : SX K cs W tu G s1 e G' s') : SX K cs W (tIfS t tu tw) G s e G' s' := fun Wd B ad H0 H σ D S k =>
  h Wd B ad H0 H σ S _ fun H1 S1 e1 => iteT (h2 Wd B ad H0 H1 σ D S1 fun d ad' H' σ' S' e' => k d ad' H' σ' S' (e1.l.trans e'))
theorem sx_whenT (h : EvT K t G s true s1) (h2 : SX K cs W tu G s1 e G' s') : SX K cs W (tSeq (tIfS t tu tNext) tz) G s e G' s' := sx_seq1 (sx_ifT h h2)
/-! ### raise C(..) -/
/-- what an own exception's __init__ promises: its fields by its arguments -/
def spIn (K : Fg) (nm : List Str) (g : List V → Option (List (Str × V))) : Sp := fun vs H Q _ => ∃ (a C : Addr) (ws : List V) (fs : List (Str × V)), vs = .ref a :: ws ∧ H a = some (exo a C none) ∧ OxK K C ∧ (∀ n ∈ nm, PySem.W.findIn K (.ref C) n = some none) ∧ g ws = some fs ∧
  ∀ d H', H d = none → H' a = some (exo a C (some d)) → H' d = some (exd d fs) → (∀ b, b ≠ a → b ≠ d → H' b = H b) → Q .non H'
def tRaiseX (C : Addr) (sp : Sp) (dvs : List V) (ta : TA) (W : WX) : TS := fun _ σ H => tMkX C sp dvs ta σ H fun cls d H' => W cls d σ H'
theorem mk_read {C : Addr} {nm : List Str} {g : List V → Option (List (Str × V))} {dvs : List V} {ta : TA} {σ : St} {H : Hp} {Q : XK} {fs : List (Str × V)} (ox : OxK K C) (hn : ∀ n ∈ nm, PySem.W.findIn K (.ref C) n = some none)
    (h : ta σ H fun vs H1 => vs.length ≤ 1000 ∧ g (vs ++ dvs) = some fs ∧ ∀ d, H1 d = none → Q (.ref C) (some d) (upd H1 d (.xd fs))) (mono : ∀ (Q1 Q2 : List V → Hp → Prop), (∀ vs H1, Q1 vs H1 → Q2 vs H1) → ta σ H Q1 → ta σ H Q2) : tMkX C (spIn K nm g) dvs ta σ H Q := by
  refine mono _ _ (fun vs H1 hq => ?_) h
  obtain ⟨hl, hg, q⟩ := hq
  refine ⟨hl, fun a ha => ⟨a, C, vs ++ dvs, fs, rfl, upd_same, ox, hn, hg, fun d H2 hd h1 h2 h3 => ?_⟩⟩
  have hda : d ≠ a := fun z => by rw [z, upd_same] at hd; cases hd
  rw [upd_ne hda] at hd
  refine ⟨rfl, d, fs, h1, h2, hd, ?_⟩
  have e : upd (del H2 a) d (.xd fs) = upd H1 d (.xd fs) := by
    funext b
    by_cases hb : b = d
    · rw [hb, upd_same, upd_same]
    · rw [upd_ne hb, upd_ne hb]
      by_cases ha2 : b = a
      · rw [ha2, del_same, ha]
      · rw [del_ne ha2, h3 b ha2 hb, upd_ne ha2]
  rw [e]
  exact q d hd
/-- raise C() -/
theorem sx_raise0 {c : Str} {nm : List Str} {g : List V → Option (List (Str × V))} {fs : List (Str × V)} (ox : OxK K (cs c)) (hn : ∀ n ∈ nm, PySem.W.findIn K (.ref (cs c)) n = some none) (hg : g [] = some fs) : SX K cs W (tRaiseX (cs c) (spIn K nm g) [] tNil W) G s ⟨c, fs⟩ G s := fun Wd B ad H0 H σ D S k => by
  refine mk_read ox hn ⟨by show 0 ≤ 1000; decide, hg, fun d hd => ?_⟩ (fun Q1 Q2 m h => m _ _ h)
  have e : Ex H (upd H d (.xd fs)) := Ex.new hd
  exact k d ad _ σ (S.ext e) (less_mono e) (S.fresh hd).1 upd_same
end
section
variable {Pg : Program} {w : World} {K : Fg} {mg : Str → Option Value} {base : Heap} {cs : Cs}
/-- what a def that may raise is read to do -/
def RdX (K : Fg) (cs : Cs) (W : WX) (t : TS) (G : Gam) (b : Bag) : Except Xw PyData → Prop
  | .ok x => SG K t G b (.rt x b)
  | .error e => ∃ G', SX K cs W t G b e G' b
/-- a def's own wish -/
abbrev WD (E : XK) : WX := fun cls d _ H => E cls d H
/-- a def that may raise -/
theorem okX {x qual : Str} {st : Stmt} {f : Addr} {fd : FuncData} {N ps : List Str} {k : Nat} {P : List PyData → Except Xw PyData → Prop} (F : Fun K x qual st f fd) (S : FnScope N ps (defScope st)) (hl : ∀ ds r, P ds r → ds.length = ps.length)
    (hb : ∀ ds r, P ds r → ∀ (cdv : Value) (A : Around) (outer : List Env) (sh : Shared) (H : Hp) (E : XK), Room k (A.deeper (envOfC qual (defScope st) sh.heap.objs.size f cdv)) →
      ∃ t, PSs (cxOf (L2.CX Pg w) Pg w K mg base N qual (defScope st) f cdv A outer sh H E) (defBody st) t ∧ ∀ b, RdX K cs (WD E) t (frame N.length ds) b r) :
    FnOk Pg w K mg base (L2.CX Pg w) (k + 1) f fd ps (spX K cs P) := qt_of (by simp (disch := with_unfolding_all
  refine F.okX S (fun vs H Q E h => ?_) (fun cdv A outer sh H vs Q E hr h => ?_)
  · obtain ⟨W, ds, r, _, hd, hp, _⟩ := h
    rw [dpa_len hd]
    exact hl ds r hp
  · obtain ⟨W, ds, r, hW, hd, hp, q⟩ := h
    obtain ⟨t, ht, g⟩ := hb ds r hp cdv A outer sh H E hr
    refine ⟨t, ht, ?_⟩
    have nb : ∀ a, ¬ InB none a := fun a ⟨_, _, z, _⟩ => by cases z
    have S0 := sta0 (N := N) hW hd ⟨[], 0, 0⟩
    cases r with
    | ok x => exact g ⟨[], 0, 0⟩ W none (fun _ => 0) H H _ _ S0 fun v H' e _ d => q v H' (fun a o h => e a o h (nb a)) (dp_mono (less_sub fun a z => .inl z) d)
    | error e =>
      obtain ⟨G', g⟩ := g ⟨[], 0, 0⟩
      exact g W none (fun _ => 0) H H _ _ S0 fun d ad' H' σ' S' _ hn hx => q d H' (fun a o h => S'.base a o h (nb a)) hn hx
  ) only [↓qt_eq])
end
/-! ### try .. except C as why -/
section
variable {K : Fg} {cs : Cs} {G G' G1 : Gam} {s s1 s' : Bag} {x : PyData} {e : Xw}
end
end U

end
section
/-! Defs with defaults and keyword-only parameters; the refusals' own __init__. -/
namespace U
open PySem PyProof.Rows L2 Evl
section
variable {Pg : Program} {w : World} {K : Fg} {mg : Str → Option Value} {base : Heap} {cs : Cs}
theorem okXD {x qual : Str} {st : Stmt} {dvs : List V} {kws : List (Str × V)} {f : Addr} {fd : FuncData} {N ps : List Str} {k : Nat} {P : List PyData → Except Xw PyData → Prop} (F : FunD K x qual (defArgs st) (defBody st) (defScope st) dvs kws f fd) (S : FnScope N ps (defScope st)) (hl : ∀ ds r, P ds r → ds.length = ps.length)
    (hb : ∀ ds r, P ds r → ∀ (cdv : Value) (A : Around) (outer : List Env) (sh : Shared) (H : Hp) (E : XK), Room k (A.deeper (envOfC qual (defScope st) sh.heap.objs.size f cdv)) →
      ∃ t, PSs (cxOf (L2.CX Pg w) Pg w K mg base N qual (defScope st) f cdv A outer sh H E) (defBody st) t ∧ ∀ b, RdX K cs (WD E) t (frame N.length ds) b r) :
    FnOk Pg w K mg base (L2.CX Pg w) (k + 1) f fd ps (spX K cs P) := qt_of (by simp (disch := with_unfolding_all
  refine F.ok S (fun vs H Q E h => ?_) (fun cdv A outer sh H vs Q E hr h => ?_)
  · obtain ⟨W, ds, r, _, hd, hp, _⟩ := h
    rw [dpa_len hd]
    exact hl ds r hp
  · obtain ⟨W, ds, r, hW, hd, hp, q⟩ := h
    obtain ⟨t, ht, g⟩ := hb ds r hp cdv A outer sh H E hr
    refine ⟨t, ht, ?_⟩
    have nb : ∀ a, ¬ InB none a := fun a ⟨_, _, z, _⟩ => by cases z
    have S0 := sta0 (N := N) hW hd ⟨[], 0, 0⟩
    cases r with
    | ok x => exact g ⟨[], 0, 0⟩ W none (fun _ => 0) H H _ _ S0 fun v H' e _ d => q v H' (fun a o h => e a o h (nb a)) (dp_mono (less_sub fun a z => .inl z) d)
    | error e =>
      obtain ⟨G', g⟩ := g ⟨[], 0, 0⟩
      exact g W none (fun _ => 0) H H _ _ S0 fun d ad' H' σ' S' _ hn hx => q d H' (fun a o h => S'.base a o h (nb a)) hn hx
  ) only [↓qt_eq])
/-- all given though there are defaults -/
theorem binds_all {x qual : Str} {params : Arguments} {body : List Stmt} {scope : Scope} {dvs : List V} {kws : List (Str × V)} {f : Addr} {fd : FuncData} {ps : List Str} (F : FunD K x qual params body scope dvs kws f fd) (hd : dvs ≠ [])
    (h : ∀ (T : Addr) (kV doc pm : Value) (an : Option Addr) (cdv ct : Value) (us its : List Value), us.length = ps.length → its.length = dvs.length →
      ∃ k, bindArgs (PySem.W.fnOf x qual params body scope (.ref T) kV doc pm an cdv ct) ⟨us, []⟩ = seqItems? (.ref T) >>= k ∧ k (some its.toArray) = pure (ps.zip us)) : Binds K fd ps [] := qt_of (by simp (disch := with_unfolding_all
  obtain ⟨ds, r, b⟩ := F.binds1 (ps := ps) ps.length dvs.length hd (by omega) (fun T kV doc pm an cdv ct us its l1 l2 => by
    obtain ⟨k, e1, e2⟩ := h T kV doc pm an cdv ct us its l1 l2
    refine ⟨k, e1, ?_⟩
    rw [e2, List.drop_eq_nil_of_le (by omega), List.append_nil])
  rw [List.drop_eq_nil_of_le (Nat.le_refl _)] at r
  cases r
  exact b
  ) only [↓qt_eq])
end
section
variable {K : Fg} {cs : Cs} {W : WX} {G G' G1 G2 : Gam} {s s1 s2 s3 s' : Bag} {ta tb tc te : TE} {t u : TT} {x y z : PyData}
end
/-! ### Flat -/
abbrev gFlat : List V → Option (List (Str × V)) := fun ws => match ws with
  | [] => some [("word", .str "Flat")]
  | _ => none
def t_Flat (K : Fg) : TS := tOx K "word" (tVar 0) (tC (V.str "Flat"))
theorem rd_Flat {K : Fg} {a C : Addr} {H : Hp} {D : Ends} (ha : H a = some (exo a C none)) (ox : OxK K C) (hn : PySem.W.findIn K (.ref C) "word" = some none)
    (q : ∀ d H', H d = none → H' a = some (exo a C (some d)) → H' d = some (exd d [("word", .str "Flat")]) → (∀ b, b ≠ a → b ≠ d → H' b = H b) → D.nx [some (.ref a)] H') : t_Flat K D [some (.ref a)] H := by
  refine ⟨.ref a, rfl, a, C, rfl, ox, hn, .inl ⟨ha, fun d hd hda => ?_⟩⟩
  refine q d _ hd upd_same (by rw [upd_ne hda, upd_same]) fun b h1 h2 => by rw [upd_ne h1, upd_ne h2]
theorem okFlat {Pg : Program} {w : World} {K : Fg} {mg : Str → Option Value} {base : Heap} {st : Stmt} {qual : Str} {f : Addr} {fd : FuncData} {k : Nat} (F : Fun K "__init__" qual st f fd) (S : FnScope ["self"] ["self"] (defScope st))
    (hb : ∀ (cdv : Value) (A : Around) (outer : List Env) (sh : Shared) (H : Hp) (E : XK), PSs (cxOf CX0 Pg w K mg base ["self"] qual (defScope st) f cdv A outer sh H E).nox (defBody st) (t_Flat K)) : FnOk Pg w K mg base CX0 (k + 1) f fd ["self"] (spIn K ["word"] gFlat) := qt_of (by simp (disch := with_unfolding_all
  refine F.ok S (fun vs H Q E h => ?_) (fun cdv A outer sh H vs Q E hr h => ?_)
  · obtain ⟨a, C, ws, fs, rfl, _, _, _, hg, _⟩ := h
    cases ws with
    | nil => rfl
    | cons _ _ => cases hg
  · obtain ⟨a, C, ws, fs, rfl, ha, ox, hn, hg, q⟩ := h
    cases ws with
    | cons _ _ => cases hg
    | nil =>
      cases hg
      exact ⟨_, hb cdv A outer sh H E, rd_Flat ha ox (hn _ (List.mem_singleton.mpr rfl)) q⟩
  ) only [↓qt_eq])
abbrev xFlat : Xw := ⟨"Flat", [("word", .str "Flat")]⟩
abbrev W0 : WX := fun _ _ _ _ => False
end U

end
section
namespace U
open PySem PyProof.Rows L2 Evl
/-- what is told of an own exception class by its name -/
structure ClsF (K : Fg) (cs : Cs) (c : Str) (nm : List Str) : Prop where
  ox : OxK K (cs c)
  no : ∀ n ∈ nm, PySem.W.findIn K (.ref (cs c)) n = some none
section
variable {K : Fg}
theorem fund_mk {x qual : Str} {st : Stmt} {f T : Addr} {oc ot : Value} {od odt an : Option Addr} {osl osT : Array (Option Value)} {kV doc pm cdv ct : Value} {its : List Value} {n : Nat} {dvs : List V}
    (l : K.lookup f = some ⟨oc, od, .func (PySem.W.fnOf x qual (defArgs st) (defBody st) (defScope st) (.ref T) kV doc pm an cdv ct), osl⟩)
    (c : PySem.W.codeIn K cdv qual = true) (k : PySem.W.keepIn K (.ref f) = true) (t : K.lookup T = some ⟨ot, odt, .seq its.toArray n, osT⟩) (r : Vals dvs its) (hd : dvs ≠ []) :
    FunD K x qual (defArgs st) (defBody st) (defScope st) dvs [] f (PySem.W.fnOf x qual (defArgs st) (defBody st) (defScope st) (.ref T) kV doc pm an cdv ct) :=
  ⟨⟨oc, od, _, kV, doc, pm, an, cdv, ct, osl, rfl, l, c, .inr ⟨hd, T, _, its, n, rfl, t, rfl, r⟩, .inl rfl⟩, k⟩
end
end U

end
section
/-! Own exceptions whose __init__ calls the base class's own. -/
namespace U
open PySem PySem.W PyProof.Rows L2 Evl
section
variable {Pg : Program} {w : World} {K : Fg} {mg : Str → Option Value} {base : Heap} {cs : Cs}
end
end U

end
section
namespace U
open PySem PyProof.Rows L2 Evl
/-- the values of a module's constants -/
abbrev Gs := Str → V
/-- for .. in a list or a tuple -/
def iSeq (K : Fg) (tl : TE) : TI := fun σ H R => tl σ H fun x H1 => ∃ a, x = .ref a ∧ (((∃ xs, SqL K H1 a xs) ∧ R (Itl K a) H1) ∨ ((∃ xs, SqT K H1 a xs) ∧ R (Itt K a) H1))
theorem pi_seq {X : Cx} {tg l : Expr} {tl : TE} (hl : PE X l tl) : PI X tg l (iSeq X.K tl) := qt_of (by simp (disch := with_unfolding_all
  refine ⟨fun pins s σ H R I h => ?_⟩
  refine thn (hl.run pins s σ H _ I h) fun v s1 hh => ?_
  obtain ⟨x, H1, I1, r1, a, e, q1⟩ := hh
  subst e
  cases r1
  have fp : ∀ b, b ∈ [s1.heap.objs.size] → FpOk X pins H1 b := fun b hb => by
    have e : b = s1.heap.objs.size := by simpa using hb
    subst e
    exact I1.fpOk (Nat.le_refl _) (I1.hok.fresh (Nat.le_refl _))
  rcases q1 with ⟨⟨xs, hq⟩, q⟩ | ⟨⟨xs, hq⟩, q⟩
  · obtain ⟨its, rv, p, hz⟩ := I1.list hq
    refine wpAny_pyIter_list p.isList ?_
    exact ⟨s1.heap.objs.size, [s1.heap.objs.size], _, _, H1, rfl, I1.kept (t' := s1.toks) fun b o e => Heap.get?_push_of_some _ e, turn_list a _, ⟨_, Heap.get?_push_size _ rfl, rfl, rfl⟩, fp, q⟩
  · obtain ⟨its, rv, p, hz⟩ := I1.tuple hq
    refine wpAny_pyIter_tuple (show s1.heap.IsTuple a its.toArray from p) ?_
    exact ⟨s1.heap.objs.size, [s1.heap.objs.size], _, _, H1, rfl, I1.kept (t' := s1.toks) fun b o e => Heap.get?_push_of_some _ e, turn_tuple a _, ⟨_, Heap.get?_push_size _ rfl, rfl, rfl⟩, fp, q⟩
  ) only [↓qt_eq])
section
variable {K : Fg} {cs : Cs} {W : WX} {G G' G1 : Gam} {s s1 s2 s' : Bag} {ta tb te : TE} {x y : PyData} {e : Xw}
end
end U

end
section
namespace U
open PySem PySem.W PyProof.Rows L2 Evl
section
variable {prog : Program} {w : World} {A : Around} {E : Value → Shared → Prop} {s : Shared}
end
end U

end
section
/-! The second data layer: what is wanted of a reading, and what suffices for it. Slots hold data, things of one's own, or the bag. -/
namespace U.N
open PySem L2 Evl
/-- a thing of one's own: what it holds, and how it stands in the heap -/
structure Own where
  flat : List PyData
  obj : Addr → List V → HO
/-- a list of one's own -/
def ol (xs : List PyData) : Own := ⟨xs, fun _ vs => .lst vs⟩
inductive En where
  | un
  | d (x : PyData)
  | ow (c : Own)
  | bag
  /-- a caught exception: itself, its dict, its fields -/
  | xc (a d : Addr) (fs : List (Str × V))
  /-- a thing that stays as it is -/
  | fz (c : Own)
  /-- any value, known as it is -/
  | vl (v : V)
abbrev Gam := List En
def Zs (W : Addr → Prop) (B : Option (Addr × Addr)) (ad : Nat → Addr) (G : Gam) : Addr → Prop := fun a => W a ∨ (∃ i c, G[i]? = some (.ow c) ∧ a = ad i) ∨ InB B a
def Slot (K : Fg) (B : Option (Addr × Addr)) (ad : Nat → Addr) (H : Hp) (Z : Addr → Prop) (i : Nat) (o : Option V) : En → Prop
  | .un => True
  | .d x => ∃ v, o = some v ∧ Dp K (less H Z) v x
  | .ow c => o = some (.ref (ad i)) ∧ ∃ vs, H (ad i) = some (c.obj (ad i) vs) ∧ DpAll K (less H Z) vs c.flat
  | .bag => ∃ b c, B = some (b, c) ∧ o = some (.ref b)
  | .xc a d fs => o = some (.ref a) ∧ less H Z d = some (.xd fs)
  | .fz c => ∃ a vs, o = some (.ref a) ∧ less H Z a = some (c.obj a vs) ∧ DpAll K (less H Z) vs c.flat
  | .vl v => o = some v
def BagOk (H : Hp) (B : Option (Addr × Addr)) : Prop := ∃ s : Bag, s.ok ∧ BagAt H B s
theorem BagOk.xb {H H2 : Hp} {B : Option (Addr × Addr)} (h : BagOk H B) (e : ∀ a, InB B a → H2 a = H a) : BagOk H2 B := qt_of (by simp (disch := with_unfolding_all
  obtain ⟨s, ok, h⟩ := h
  refine ⟨s, ok, ?_⟩
  rcases B with _ | ⟨b, c⟩
  · trivial
  · have h : H b = _ ∧ _ := h
    exact ⟨(e b ⟨b, c, rfl, .inl rfl⟩).trans h.1, (e c ⟨b, c, rfl, .inr rfl⟩).trans h.2.1, h.2.2⟩
  ) only [↓qt_eq])
theorem BagOk.there {H : Hp} {B : Option (Addr × Addr)} (h : BagOk H B) {a : Addr} (z : InB B a) : ∃ o, H a = some o := by
  obtain ⟨s, ok, h⟩ := h
  exact bag_there h z
theorem BagOk.ext {H H2 : Hp} {B : Option (Addr × Addr)} (h : BagOk H B) (e : Ex H H2) : BagOk H2 B := h.xb fun a z => by
  obtain ⟨o, q⟩ := h.there z
  rw [q, e _ _ q]
theorem BagOk.upd {H : Hp} {B : Option (Addr × Addr)} (h : BagOk H B) {p : Addr} {o : HO} (n : ¬ InB B p) : BagOk (upd H p o) B := h.xb fun a z => upd_ne fun e => n (e ▸ z)
/-- the state of a def's frame: slots, heap, bag, against the heap H0 at its entry -/
structure Sta (K : Fg) (W : Addr → Prop) (B : Option (Addr × Addr)) (ad : Nat → Addr) (H0 H : Hp) (σ : St) (G : Gam) : Prop where
  len : σ.length = G.length
  at_ : ∀ i e, G[i]? = some e → ∃ o, σ[i]? = some o ∧ Slot K B ad H (Zs W B ad G) i o e
  inj : ∀ i j c c', G[i]? = some (.ow c) → G[j]? = some (.ow c') → ad i = ad j → i = j
  sep : ∀ i c, G[i]? = some (.ow c) → H0 (ad i) = none ∧ ¬ InB B (ad i) ∧ ¬ W (ad i)
  base : ∀ a o, H0 a = some o → ¬ InB B a → H a = some o
  bag : BagOk H B
  wd : ∀ a, W a → ∃ o, H a = some o
section
variable {K : Fg} {W : Addr → Prop} {B : Option (Addr × Addr)} {ad : Nat → Addr} {H0 H H2 : Hp} {σ : St} {G G' : Gam}
theorem Slot.mono {Z Z' : Addr → Prop} {i : Nat} {o : Option V} {e : En} (h : Slot K B ad H Z i o e) (x : Ex (less H Z) (less H2 Z')) (y : ∀ c u, e = .ow c → H (ad i) = some u → H2 (ad i) = some u) : Slot K B ad H2 Z' i o e := qt_of (by simp (disch := with_unfolding_all
  cases e with
  | un => trivial
  | d d => obtain ⟨v, e, h⟩ := h; exact ⟨v, e, dp_mono x h⟩
  | ow c => obtain ⟨e, vs, h1, h2⟩ := h; exact ⟨e, vs, y c _ rfl h1, dpa_mono x h2⟩
  | bag => exact h
  | xc a d fs => exact ⟨h.1, x _ _ h.2⟩
  | fz c => obtain ⟨a, vs, e, h1, h2⟩ := h; exact ⟨a, vs, e, x _ _ h1, dpa_mono x h2⟩
  | vl v => exact h
  ) only [↓qt_eq])
theorem Sta.there (S : Sta K W B ad H0 H σ G) (a : Addr) (z : Zs W B ad G a) : ∃ o, H a = some o := by
  rcases z with z | ⟨i, c, g, rfl⟩ | z
  · exact S.wd _ z
  · obtain ⟨_, _, _, vs, h1, _⟩ := S.at_ i _ g
    exact ⟨_, h1⟩
  · exact S.bag.there z
/-- everything stays -/
theorem Sta.ext (S : Sta K W B ad H0 H σ G) (e : Ex H H2) : Sta K W B ad H0 H2 σ G where
  len := S.len
  at_ := fun i en h => by
    obtain ⟨o, h1, h2⟩ := S.at_ i en h
    exact ⟨o, h1, h2.mono (less_mono e) fun _ _ _ q => e _ _ q⟩
  inj := S.inj
  sep := S.sep
  base := fun a o h n => e _ _ (S.base a o h n)
  bag := S.bag.ext e
  wd := fun a z => by
    obtain ⟨o, h⟩ := S.wd a z
    exact ⟨o, e _ _ h⟩
/-- all but the bag stays -/
theorem Sta.drawn (S : Sta K W B ad H0 H σ G) (e : Xb B H H2) (b : BagOk H2 B) : Sta K W B ad H0 H2 σ G where
  len := S.len
  at_ := fun i en h => by
    obtain ⟨o, h1, h2⟩ := S.at_ i en h
    refine ⟨o, h1, h2.mono (less_but fun a o q z => e a o q fun y => z (.inr (.inr y))) fun c vs q q2 => ?_⟩
    subst q
    exact e _ _ q2 (S.sep i c h).2.1
  inj := S.inj
  sep := S.sep
  base := fun a o h n => e a o (S.base a o h n) n
  bag := b
  wd := fun a z => by
    by_cases hb : InB B a
    · exact b.there hb
    · obtain ⟨o, h⟩ := S.wd a z
      exact ⟨o, e _ _ h hb⟩
theorem Xb.lz {H H2 : Hp} (a : Xb B H H2) : Ex (less H (Zs W B ad G)) (less H2 (Zs W B ad G)) := less_but fun p o h n => a p o h fun z => n (.inr (.inr z))
theorem Zs.set_of {i : Nat} {e : En} (he : ∀ c, e ≠ .ow c) {a : Addr} (h : Zs W B ad (G.set i e) a) : Zs W B ad G a := by
  rcases h with h | ⟨j, c, h, r⟩ | h
  · exact .inl h
  · rcases get_set h with ⟨rfl, _, e'⟩ | ⟨_, h⟩
    · exact absurd e' (he c)
    · exact .inr (.inl ⟨j, c, h, r⟩)
  · exact .inr (.inr h)
/-- a slot gets a thing that is not of one's own -/
theorem Sta.set (S : Sta K W B ad H0 H σ G) {i : Nat} {e : En} {o : Option V} (he : ∀ c, e ≠ .ow c) (h : Slot K B ad H (Zs W B ad G) i o e) : Sta K W B ad H0 H (σ.set i o) (G.set i e) where
  len := by rw [List.length_set, List.length_set]; exact S.len
  at_ := fun j en g => by
    rcases get_set g with ⟨rfl, l, rfl⟩ | ⟨z, g⟩
    · refine ⟨o, List.getElem?_set_self (by rw [S.len]; exact l), h.mono (less_sub fun a q => Zs.set_of he q) fun _ _ _ q => q⟩
    · obtain ⟨o', h1, h2⟩ := S.at_ j en g
      exact ⟨o', by rw [List.getElem?_set_ne z]; exact h1, h2.mono (less_sub fun a q => Zs.set_of he q) fun _ _ _ q => q⟩
  inj := fun j k c c' g g' q => by
    rcases get_set g with ⟨rfl, l, e⟩ | ⟨z, g⟩
    · exact absurd e (he c)
    · rcases get_set g' with ⟨rfl, l, e⟩ | ⟨z', g'⟩
      · exact absurd e (he c')
      · exact S.inj j k c c' g g' q
  sep := fun j c g => by
    rcases get_set g with ⟨rfl, l, e⟩ | ⟨z, g⟩
    · exact absurd e (he c)
    · exact S.sep j c g
  base := S.base
  bag := S.bag
  wd := S.wd
theorem Sta.setD (S : Sta K W B ad H0 H σ G) {i : Nat} {v : V} {x : PyData} (h : Dp K (less H (Zs W B ad G)) v x) : Sta K W B ad H0 H (σ.set i (some v)) (G.set i (.d x)) :=
  S.set (fun _ z => by cases z) ⟨v, rfl, h⟩
theorem Sta.fresh (S : Sta K W B ad H0 H σ G) {p : Addr} (h : H p = none) : H0 p = none ∧ ¬ InB B p ∧ ¬ Zs W B ad G p := qt_of (by simp (disch := with_unfolding_all
  have hZ : ¬ Zs W B ad G p := fun z => by
    obtain ⟨o, q⟩ := S.there p z
    rw [h] at q; cases q
  have hB : ¬ InB B p := fun z => hZ (.inr (.inr z))
  refine ⟨?_, hB, hZ⟩
  cases e : H0 p with
  | none => rfl
  | some o => rw [S.base p o e hB] at h; cases h
  ) only [↓qt_eq])
theorem own_ex {i : Nat} {p : Addr} {u : HO} {c : Own} (hp : H p = none) : Ex (less H (Zs W B ad G)) (less (upd H p u) (Zs W B (swp ad i p) (G.set i (.ow c)))) := fun a o q => by
  obtain ⟨q1, q2⟩ := less_some q
  have na : a ≠ p := ne_of_none q2 hp
  refine less_of (fun z => ?_) (by rw [upd_ne na]; exact q2)
  rcases z with z | ⟨j, c, g, r⟩ | z
  · exact q1 (.inl z)
  · rcases get_set g with ⟨rfl, l, e⟩ | ⟨z, g⟩
    · rw [swp_same] at r; exact na r
    · rw [swp_ne z] at r
      exact q1 (.inr (.inl ⟨j, c, g, r⟩))
  · exact q1 (.inr (.inr z))
/-- a new thing of one's own -/
theorem Sta.setOwn (S : Sta K W B ad H0 H σ G) {i : Nat} {p : Addr} {vs : List V} {c : Own} (hp : H p = none) (h : DpAll K (less H (Zs W B ad G)) vs c.flat) :
    Sta K W B (swp ad i p) H0 (upd H p (c.obj p vs)) (σ.set i (some (.ref p))) (G.set i (.ow c)) := qt_of (by simp (disch := with_unfolding_all
  obtain ⟨h0, hB, hZ⟩ := S.fresh hp
  have ex : Ex (less H (Zs W B ad G)) (less (upd H p (c.obj p vs)) (Zs W B (swp ad i p) (G.set i (.ow c)))) := own_ex hp
  have hne : ∀ j c', G[j]? = some (.ow c') → ad j ≠ p := fun j c' g z => hZ (.inr (.inl ⟨j, c', g, z.symm⟩))
  refine ⟨by rw [List.length_set, List.length_set]; exact S.len, fun j en g => ?_, fun j k ys zs g g' q => ?_, fun j ys g => ?_, fun a o q n => ?_, S.bag.upd hB, fun a z => (S.wd a z).elim fun o q => upd_there q⟩
  · rcases get_set g with ⟨rfl, l, rfl⟩ | ⟨z, g⟩
    · exact ⟨_, List.getElem?_set_self (by rw [S.len]; exact l), by rw [swp_same], vs, by rw [swp_same]; exact upd_same, dpa_mono ex h⟩
    · obtain ⟨o', h1, h2⟩ := S.at_ j en g
      refine ⟨o', by rw [List.getElem?_set_ne z]; exact h1, ?_⟩
      cases en with
      | un => trivial
      | d d => obtain ⟨v, e, h⟩ := h2; exact ⟨v, e, dp_mono ex h⟩
      | ow ys =>
        obtain ⟨e, us, h3, h4⟩ := h2
        have hj : swp ad i p j = ad j := swp_ne z
        exact ⟨by rw [hj]; exact e, us, by rw [hj, upd_ne (hne j ys g)]; exact h3, dpa_mono ex h4⟩
      | bag => exact h2
      | xc a d fs => exact ⟨h2.1, ex _ _ h2.2⟩
      | fz c => obtain ⟨a, vs, e, h1, h2⟩ := h2; exact ⟨a, vs, e, ex _ _ h1, dpa_mono ex h2⟩
      | vl v => exact h2
  · rcases get_set g with ⟨rfl, l, e⟩ | ⟨z, g⟩
    · rcases get_set g' with ⟨rfl, l', e'⟩ | ⟨z', g'⟩
      · rfl
      · rw [swp_same, swp_ne z'] at q
        exact absurd q.symm (hne k zs g')
    · rcases get_set g' with ⟨rfl, l', e'⟩ | ⟨z', g'⟩
      · rw [swp_same, swp_ne z] at q
        exact absurd q (hne j ys g)
      · rw [swp_ne z, swp_ne z'] at q
        exact S.inj j k ys zs g g' q
  · rcases get_set g with ⟨rfl, l, e⟩ | ⟨z, g⟩
    · rw [swp_same]
      refine ⟨h0, hB, fun z => hZ (.inl z)⟩
    · rw [swp_ne z]; exact S.sep j ys g
  · rw [upd_ne (fun z => by rw [z, h0] at q; cases q)]
    exact S.base a o q n
  ) only [↓qt_eq])
theorem chg_zz {i : Nat} {c c' : Own} (hi : G[i]? = some (.ow c)) (a : Addr) : Zs W B ad (G.set i (.ow c')) a ↔ Zs W B ad G a := qt_of (by simp (disch := with_unfolding_all
  have il : i < G.length := (List.getElem?_eq_some_iff.mp hi).1
  constructor
  · rintro (h | ⟨j, zs, g, r⟩ | h)
    · exact .inl h
    · rcases get_set g with ⟨rfl, l, e⟩ | ⟨z, g⟩
      · exact .inr (.inl ⟨i, c, hi, r⟩)
      · exact .inr (.inl ⟨j, zs, g, r⟩)
    · exact .inr (.inr h)
  · rintro (h | ⟨j, zs, g, r⟩ | h)
    · exact .inl h
    · by_cases z : i = j
      · subst z
        exact .inr (.inl ⟨i, c', List.getElem?_set_self il, r⟩)
      · exact .inr (.inl ⟨j, zs, by rw [List.getElem?_set_ne z]; exact g, r⟩)
    · exact .inr (.inr h)
  ) only [↓qt_eq])
theorem chg_ex {i : Nat} {c c' : Own} {u : HO} (hi : G[i]? = some (.ow c)) : Ex (less H (Zs W B ad G)) (less (upd H (ad i) u) (Zs W B ad (G.set i (.ow c')))) := fun a o q => by
  obtain ⟨q1, q2⟩ := less_some q
  refine less_of (fun z => q1 ((chg_zz hi a).mp z)) ?_
  rw [upd_ne (fun z => q1 (.inr (.inl ⟨i, c, hi, z⟩)))]; exact q2
/-- a thing of one's own is changed -/
theorem Sta.chg (S : Sta K W B ad H0 H σ G) {i : Nat} {c c' : Own} {vs : List V} (hi : G[i]? = some (.ow c)) (h : DpAll K (less H (Zs W B ad G)) vs c'.flat) : Sta K W B ad H0 (upd H (ad i) (c'.obj (ad i) vs)) σ (G.set i (.ow c')) := qt_of (by simp (disch := with_unfolding_all
  have ex : Ex (less H (Zs W B ad G)) (less (upd H (ad i) (c'.obj (ad i) vs)) (Zs W B ad (G.set i (.ow c')))) := chg_ex hi
  obtain ⟨s0, sB, sW⟩ := S.sep i c hi
  refine ⟨by rw [List.length_set]; exact S.len, fun j en g => ?_, fun j k ys' zs g g' q => ?_, fun j zs g => ?_, fun a o q n => ?_, S.bag.upd sB, fun a z => (S.wd a z).elim fun o q => upd_there q⟩
  · rcases get_set g with ⟨rfl, l, rfl⟩ | ⟨z, g⟩
    · obtain ⟨o', h1, h2, _⟩ := S.at_ i _ hi
      exact ⟨o', h1, h2, vs, upd_same, dpa_mono ex h⟩
    · obtain ⟨o', h1, h2⟩ := S.at_ j en g
      refine ⟨o', h1, ?_⟩
      cases en with
      | un => trivial
      | d d => obtain ⟨v, e, h⟩ := h2; exact ⟨v, e, dp_mono ex h⟩
      | ow zs =>
        obtain ⟨e, us, h3, h4⟩ := h2
        exact ⟨e, us, by rw [upd_ne (fun w => z (S.inj i j c zs hi g w.symm))]; exact h3, dpa_mono ex h4⟩
      | bag => exact h2
      | xc a d fs => exact ⟨h2.1, ex _ _ h2.2⟩
      | fz c => obtain ⟨a, vs, e, h1, h2⟩ := h2; exact ⟨a, vs, e, ex _ _ h1, dpa_mono ex h2⟩
      | vl v => exact h2
  · rcases get_set g with ⟨rfl, l, e⟩ | ⟨z, g⟩
    · rcases get_set g' with ⟨rfl, l', e'⟩ | ⟨z', g'⟩
      · rfl
      · exact S.inj i k c zs hi g' q
    · rcases get_set g' with ⟨rfl, l', e'⟩ | ⟨z', g'⟩
      · exact S.inj j i ys' c g hi q
      · exact S.inj j k ys' zs g g' q
  · rcases get_set g with ⟨rfl, l, e⟩ | ⟨z, g⟩
    · exact S.sep i c hi
    · exact S.sep j zs g
  · rw [upd_ne (fun z => by rw [z, s0] at q; cases q)]
    exact S.base a o q n
  ) only [↓qt_eq])
/-- a list of one's own is from now on data -/
theorem Sta.freeze (S : Sta K W B ad H0 H σ G) {i : Nat} {xs : List PyData} (hi : G[i]? = some (.ow (ol xs))) : Sta K W B ad H0 H σ (G.set i (.d (.list xs))) := qt_of (by simp (disch := with_unfolding_all
  have ex : Ex (less H (Zs W B ad G)) (less H (Zs W B ad (G.set i (.d (.list xs))))) := less_sub fun a q => Zs.set_of (fun _ z => by cases z) q
  refine ⟨by rw [List.length_set]; exact S.len, fun j en g => ?_, fun j k ys' zs g g' q => ?_, fun j zs g => ?_, S.base, S.bag, S.wd⟩
  · rcases get_set g with ⟨rfl, l, rfl⟩ | ⟨z, g⟩
    · obtain ⟨o', h1, h2, vs, h3, h4⟩ := S.at_ i _ hi
      refine ⟨o', h1, _, h2, .lst (sq_of (less_of ?_ h3)) (dpa_mono ex h4)⟩
      rintro (z | ⟨j, zs, g, r⟩ | z)
      · exact (S.sep i _ hi).2.2 z
      · rcases get_set g with ⟨rfl, _, e⟩ | ⟨z, g⟩
        · cases e
        · exact z (S.inj i j _ zs hi g r)
      · exact (S.sep i _ hi).2.1 z
    · obtain ⟨o', h1, h2⟩ := S.at_ j en g
      exact ⟨o', h1, h2.mono ex fun _ _ _ q => q⟩
  · rcases get_set g with ⟨rfl, l, e⟩ | ⟨z, g⟩
    · cases e
    · rcases get_set g' with ⟨rfl, l', e'⟩ | ⟨z', g'⟩
      · cases e'
      · exact S.inj j k ys' zs g g' q
  · rcases get_set g with ⟨rfl, l, e⟩ | ⟨z, g⟩
    · cases e
    · exact S.sep j zs g
  ) only [↓qt_eq])
/-- a thing of one's own stays from now on as it is -/
theorem Sta.freezeO (S : Sta K W B ad H0 H σ G) {i : Nat} {c : Own} (hi : G[i]? = some (.ow c)) : Sta K W B ad H0 H σ (G.set i (.fz c)) := qt_of (by simp (disch := with_unfolding_all
  have ex : Ex (less H (Zs W B ad G)) (less H (Zs W B ad (G.set i (.fz c)))) := less_sub fun a q => Zs.set_of (fun _ z => by cases z) q
  refine ⟨by rw [List.length_set]; exact S.len, fun j en g => ?_, fun j k ys' zs g g' q => ?_, fun j zs g => ?_, S.base, S.bag, S.wd⟩
  · rcases get_set g with ⟨rfl, l, rfl⟩ | ⟨z, g⟩
    · obtain ⟨o', h1, h2, vs, h3, h4⟩ := S.at_ i _ hi
      refine ⟨o', h1, _, _, h2, less_of ?_ h3, dpa_mono ex h4⟩
      rintro (z | ⟨j, zs, g, r⟩ | z)
      · exact (S.sep i _ hi).2.2 z
      · rcases get_set g with ⟨rfl, _, e⟩ | ⟨z, g⟩
        · cases e
        · exact z (S.inj i j _ zs hi g r)
      · exact (S.sep i _ hi).2.1 z
    · obtain ⟨o', h1, h2⟩ := S.at_ j en g
      exact ⟨o', h1, h2.mono ex fun _ _ _ q => q⟩
  · rcases get_set g with ⟨rfl, l, e⟩ | ⟨z, g⟩
    · cases e
    · rcases get_set g' with ⟨rfl, l', e'⟩ | ⟨z', g'⟩
      · cases e'
      · exact S.inj j k ys' zs g g' q
  · rcases get_set g with ⟨rfl, l, e⟩ | ⟨z, g⟩
    · cases e
    · exact S.sep j zs g
  ) only [↓qt_eq])
/-- a thing of another's, which is new to this def, is changed -/
theorem Sta.foreign (S : Sta K W B ad H0 H σ G) {p : Addr} {o : HO} (hw : W p) (h0 : H0 p = none) (hB : ¬ InB B p) : Sta K W B ad H0 (upd H p o) σ G ∧ less (upd H p o) (Zs W B ad G) = less H (Zs W B ad G) := qt_of (by simp (disch := with_unfolding_all
  have el : less (upd H p o) (Zs W B ad G) = less H (Zs W B ad G) := by
    funext a
    by_cases z : Zs W B ad G a
    · rw [less_yes z, less_yes z]
    · rw [less_no z, less_no z, upd_ne (fun e => z (.inl (by rw [e]; exact hw)))]
  refine ⟨⟨S.len, fun i e h => ?_, S.inj, S.sep, fun a u q n => ?_, S.bag.upd hB, fun a z => (S.wd a z).elim fun o q => upd_there q⟩, el⟩
  · obtain ⟨u, g1, g2⟩ := S.at_ i e h
    refine ⟨u, g1, g2.mono (by rw [el]; exact Ex.refl _) fun c vs q q2 => ?_⟩
    subst q
    rw [upd_ne (fun z => (S.sep i c h).2.2 (by rw [z]; exact hw))]; exact q2
  · rw [upd_ne (fun z => by rw [z, h0] at q; cases q)]; exact S.base a u q n
  ) only [↓qt_eq])
/-- a new thing is for a while another's -/
theorem Sta.lend (S : Sta K W B ad H0 H σ G) {p : Addr} {o : HO} (hp : H p = none) : Sta K (fun a => W a ∨ a = p) B ad H0 (upd H p o) σ G ∧ less (upd H p o) (Zs (fun a => W a ∨ a = p) B ad G) = less H (Zs W B ad G) := qt_of (by simp (disch := with_unfolding_all
  obtain ⟨_, _, np⟩ := S.fresh hp
  have zz : ∀ a, Zs (fun a => W a ∨ a = p) B ad G a ↔ Zs W B ad G a ∨ a = p := fun a => by
    constructor
    · rintro ((z | z) | z | z)
      · exact .inl (.inl z)
      · exact .inr z
      · exact .inl (.inr (.inl z))
      · exact .inl (.inr (.inr z))
    · rintro ((z | z | z) | z)
      · exact .inl (.inl z)
      · exact .inr (.inl z)
      · exact .inr (.inr z)
      · exact .inl (.inr z)
  have el : less (upd H p o) (Zs (fun a => W a ∨ a = p) B ad G) = less H (Zs W B ad G) := by
    funext a
    by_cases e : a = p
    · rw [less_yes ((zz a).mpr (.inr e)), e, less_no np, hp]
    · by_cases z : Zs W B ad G a
      · rw [less_yes z, less_yes ((zz a).mpr (.inl z))]
      · rw [less_no z, less_no (fun y => ((zz a).mp y).elim z e), upd_ne e]
  have ex : Ex H (upd H p o) := Ex.new hp
  have S' := S.ext ex
  refine ⟨⟨S.len, fun i e h => ?_, S.inj, fun i c h => ⟨(S.sep i c h).1, (S.sep i c h).2.1, fun z => z.elim (S.sep i c h).2.2 fun z => np (by rw [← z]; exact .inr (.inl ⟨i, c, h, rfl⟩))⟩, S'.base, S'.bag, fun a z => z.elim (fun z => S'.wd a z) fun z => ⟨o, by rw [z]; exact upd_same⟩⟩, el⟩
  obtain ⟨u, g1, g2⟩ := S.at_ i e h
  exact ⟨u, g1, g2.mono (by rw [el]; exact Ex.refl _) fun c vs q q2 => ex _ _ q2⟩
  ) only [↓qt_eq])
/-- .. and is given back -/
theorem Sta.back {p : Addr} (S : Sta K (fun a => W a ∨ a = p) B ad H0 H σ G) : Sta K W B ad H0 H σ G ∧ Ex (less H (Zs (fun a => W a ∨ a = p) B ad G)) (less H (Zs W B ad G)) := qt_of (by simp (disch := with_unfolding_all
  have ex : Ex (less H (Zs (fun a => W a ∨ a = p) B ad G)) (less H (Zs W B ad G)) := less_sub fun a z => z.elim (fun z => .inl (.inl z)) .inr
  refine ⟨⟨S.len, fun i e h => ?_, S.inj, fun i c h => ⟨(S.sep i c h).1, (S.sep i c h).2.1, fun z => (S.sep i c h).2.2 (.inl z)⟩, S.base, S.bag, fun a z => S.wd a (.inl z)⟩, ex⟩
  obtain ⟨u, g1, g2⟩ := S.at_ i e h
  exact ⟨u, g1, g2.mono ex fun _ _ _ q => q⟩
  ) only [↓qt_eq])
theorem new_ex (S : Sta K W B ad H0 H σ G) {p : Addr} {o : HO} (h : H p = none) :
    Sta K W B ad H0 (upd H p o) σ G ∧ Xb B H (upd H p o) ∧ less (upd H p o) (Zs W B ad G) p = some o := by
  have e : Ex H (upd H p o) := Ex.new h
  exact ⟨S.ext e, .of e, less_of (S.fresh h).2.2 upd_same⟩
end
end U.N

end
section
namespace U.N
open PySem PyProof.Rows L2 Evl
/-! ### relations by name -/
@[irreducible] def rAddI : R2 := rI0 fun i j => .int (i + j)
@[irreducible] def rSubI : R2 := rI0 fun i j => .int (i - j)
@[irreducible] def rMulI : R2 := rI CMulW fun i j => .int (i * j)
@[irreducible] def rDivI : R2 := rI CDvX fun i j => .int (i.fdiv j)
@[irreducible] def rModI : R2 := rI CNz fun i j => .int (i.fmod j)
@[irreducible] def rLtI : R2 := rI0 fun i j => .bl (decide (i < j))
@[irreducible] def rLeI : R2 := rI0 fun i j => .bl (decide (i ≤ j))
@[irreducible] def rGtI : R2 := rI0 fun i j => .bl (decide (j < i))
@[irreducible] def rNegI : V → Hp → VK → Prop := rU fun i => .int (-i)
section
variable {X : Cx}
theorem op_addI : OpR X (binaryOp .Add) rAddI := by unfold rAddI; exact op_add
theorem op_subI : OpR X (binaryOp .Sub) rSubI := by unfold rSubI; exact op_sub
theorem op_mulI : OpR X (binaryOp .Mult) rMulI := by unfold rMulI; exact op_mulW
theorem op_divI : OpR X (binaryOp .FloorDiv) rDivI := by unfold rDivI; exact op_fdivX
theorem op_modI : OpR X (binaryOp .Mod) rModI := by unfold rModI; exact op_modX
theorem op_ltI : OpR X (compareOp .Lt) rLtI := by unfold rLtI; exact op_lt
theorem op_leI : OpR X (compareOp .LtE) rLeI := by unfold rLeI; exact op_le
theorem op_gtI : OpR X (compareOp .Gt) rGtI := by unfold rGtI; exact op_gt
theorem un_negI : UnR X (unaryOp .USub) rNegI := by unfold rNegI; exact un_neg
end
/-! ### what is wanted -/
section
variable (K : Fg) (cs : Cs) (W : WX)
/-- what may leave by raising -/
def XP (Wd : Addr → Prop) (B : Option (Addr × Addr)) (ad : Nat → Addr) (H0 H : Hp) (σ : St) (G : Gam) (ε : Xw → Prop) : Prop :=
  ∀ e, ε e → ∀ d H2, Sta K Wd B ad H0 H2 σ G → Xb B H H2 → H0 d = none → less H2 (Zs Wd B ad G) d = some (.xd e.fs) → W (.ref (cs e.cls)) (some d) σ H2
def EW (te : TE) (G : Gam) (φ : PyData → Prop) (ε : Xw → Prop) : Prop :=
  ∀ Wd B ad H0 H σ, Sta K Wd B ad H0 H σ G → ∀ Q : VK, (∀ x, φ x → ∀ v H2, Sta K Wd B ad H0 H2 σ G → Xb B H H2 → Dp K (less H2 (Zs Wd B ad G)) v x → Q v H2) → XP K cs W Wd B ad H0 H σ G ε → te σ H Q
/-- a new thing of one's own -/
def EF (te : TE) (G : Gam) (ψ : Own → Prop) (ε : Xw → Prop) : Prop :=
  ∀ Wd B ad H0 H σ, Sta K Wd B ad H0 H σ G → ∀ Q : VK, (∀ c, ψ c → ∀ a vs H2, Sta K Wd B ad H0 H2 σ G → Xb B H H2 → H2 a = none → DpAll K (less H2 (Zs Wd B ad G)) vs c.flat → Q (.ref a) (upd H2 a (c.obj a vs))) → XP K cs W Wd B ad H0 H σ G ε → te σ H Q
def TW (tt : TT) (G : Gam) (ψ : Bool → Prop) (ε : Xw → Prop) : Prop :=
  ∀ Wd B ad H0 H σ, Sta K Wd B ad H0 H σ G → ∀ Q : Bool → Hp → Prop, (∀ b, ψ b → ∀ H2, Sta K Wd B ad H0 H2 σ G → Xb B H H2 → Q b H2) → XP K cs W Wd B ad H0 H σ G ε → tt σ H Q
def AW (ta : TA) (G : Gam) (α : List PyData → Prop) (ε : Xw → Prop) : Prop :=
  ∀ Wd B ad H0 H σ, Sta K Wd B ad H0 H σ G → ∀ Q : List V → Hp → Prop, (∀ xs, α xs → ∀ vs H2, Sta K Wd B ad H0 H2 σ G → Xb B H H2 → DpAll K (less H2 (Zs Wd B ad G)) vs xs → Q vs H2) → XP K cs W Wd B ad H0 H σ G ε → ta σ H Q
def IW (wi : TI) (G : Gam) (ι : List PyData → Prop) (ε : Xw → Prop) : Prop :=
  ∀ Wd B ad H0 H σ, Sta K Wd B ad H0 H σ G → ∀ R : It → Hp → Prop, (∀ ds, ι ds → ∀ J H1, Sta K Wd B ad H0 H1 σ G → Xb B H H1 → ItOk K J ds (less H1 (Zs Wd B ad G)) → R J H1) → XP K cs W Wd B ad H0 H σ G ε → wi σ H R
def OW (to : TO) (G : Gam) (ψ : Option Int → Prop) (ε : Xw → Prop) : Prop :=
  ∀ Wd B ad H0 H σ, Sta K Wd B ad H0 H σ G → ∀ Q : Option Int → Hp → Prop, (∀ o, ψ o → ∀ H2, Sta K Wd B ad H0 H2 σ G → Xb B H H2 → Q o H2) → XP K cs W Wd B ad H0 H σ G ε → to σ H Q
inductive Out where
  | nx (G : Gam)
  | rt (x : PyData)
  | rl (c : Own)
  | bk (G : Gam)
  | ct (G : Gam)
  | ex (e : Xw) (G : Gam)
def PostO (Wd : Addr → Prop) (B : Option (Addr × Addr)) (H0 M : Hp) (D : Ends) : Out → Prop
  | .nx G => ∀ ad H σ, Sta K Wd B ad H0 H σ G → Ex M (less H (Zs Wd B ad G)) → D.nx σ H
  | .rt x => ∀ v H, Xb B H0 H → BagOk H B → Dp K (less H fun a => Wd a ∨ InB B a) v x → D.rt v H
  | .rl c => ∀ a vs H, Xb B H0 H → BagOk H B → H0 a = none → H a = some (c.obj a vs) → DpAll K (less H fun b => (Wd b ∨ InB B b) ∨ b = a) vs c.flat → D.rt (.ref a) H
  | .bk G => ∀ ad H σ, Sta K Wd B ad H0 H σ G → Ex M (less H (Zs Wd B ad G)) → D.bk σ H
  | .ct G => ∀ ad H σ, Sta K Wd B ad H0 H σ G → Ex M (less H (Zs Wd B ad G)) → D.ct σ H
  | .ex e G => ∀ d ad H σ, Sta K Wd B ad H0 H σ G → Ex M (less H (Zs Wd B ad G)) → H0 d = none → less H (Zs Wd B ad G) d = some (.xd e.fs) → W (.ref (cs e.cls)) (some d) σ H
def SW (ts : TS) (G : Gam) (Φ : Out → Prop) : Prop :=
  ∀ Wd B ad H0 H σ (D : Ends), Sta K Wd B ad H0 H σ G → (∀ o, Φ o → PostO K cs W Wd B H0 (less H (Zs Wd B ad G)) D o) → ts D σ H
end
def Cnd (b : Bool) (P Q : Prop) : Prop := (b = true → P) ∧ (b = false → Q)
section
variable {P Q : Prop} {b : Bool}
theorem cnd_t (p : P) : Cnd true P Q := ⟨fun _ => p, (nomatch ·)⟩
theorem cnd_f (q : Q) : Cnd false P Q := ⟨(nomatch ·), fun _ => q⟩
theorem cnd_nt (q : Q) : Cnd (!true) P Q := cnd_f q
theorem cnd_T (h : b = true) (p : P) : Cnd b P Q := ⟨fun _ => p, fun h' => by rw [h] at h'; cases h'⟩
theorem cnd_F (h : b = false) (q : Q) : Cnd b P Q := ⟨fun h' => (by rw [h] at h'; cases h'), fun _ => q⟩
theorem cnd_yes {p : Prop} [Decidable p] (h : p) (x : P) : Cnd (decide p) P Q := cnd_T (decide_eq_true h) x
theorem cnd_no {p : Prop} [Decidable p] (h : ¬ p) (x : Q) : Cnd (decide p) P Q := cnd_F (decide_eq_false h) x
theorem cnd_d {p : Prop} [Decidable p] (x : p → P) (y : ¬ p → Q) : Cnd (decide p) P Q := ⟨fun h => x (of_decide_eq_true h), fun h => y (of_decide_eq_false h)⟩
end
section
variable {K : Fg} {cs : Cs} {W : WX} {G G' G1 G2 : Gam} {ta tb tc te : TE} {t u : TT} {φ : PyData → Prop} {ε : Xw → Prop} {ψ : Bool → Prop} {α : List PyData → Prop} {ι : List PyData → Prop} {χ : Own → Prop} {ω : Option Int → Prop}
variable {Wd : Addr → Prop} {B : Option (Addr × Addr)} {ad : Nat → Addr} {H0 H H1 H2 : Hp} {σ : St}
theorem XP.go (h : XP K cs W Wd B ad H0 H σ G ε) (x : Xb B H H1) : XP K cs W Wd B ad H0 H1 σ G ε := fun e he d H2 S y hd hx => h e he d H2 S (x.trans y) hd hx
theorem ew_mono {φ' : PyData → Prop} (h : EW K cs W te G φ ε) (m : ∀ x, φ x → φ' x) : EW K cs W te G φ' ε := fun Wd B ad H0 H σ S Q q x => h Wd B ad H0 H σ S Q (fun y hy => q y (m y hy)) x
theorem aw_mono {α' : List PyData → Prop} {ta : TA} (h : AW K cs W ta G α ε) (m : ∀ x, α x → α' x) : AW K cs W ta G α' ε := fun Wd B ad H0 H σ S Q q x => h Wd B ad H0 H σ S Q (fun y hy => q y (m y hy)) x
theorem tw_mono {ψ' : Bool → Prop} (h : TW K cs W t G ψ ε) (m : ∀ x, ψ x → ψ' x) : TW K cs W t G ψ' ε := fun Wd B ad H0 H σ S Q q x => h Wd B ad H0 H σ S Q (fun y hy => q y (m y hy)) x
/-! ### values -/
theorem ew_var {i : Nat} {x : PyData} (h : G[i]? = some (.d x)) (p : φ x) : EW K cs W (tVar i) G φ ε := fun Wd B ad H0 H σ S Q q _ => by
  obtain ⟨o, h1, v, rfl, h2⟩ := S.at_ i _ h
  exact ⟨v, h1, q x p v H S Xb.refl h2⟩
theorem ew_glob {v : V} {x : PyData} (h : ∀ H, Dp K H v x) (p : φ x) : EW K cs W (tC v) G φ ε := fun Wd B ad H0 H σ S Q q _ => q x p _ H S Xb.refl (h _)
theorem ew_int {i : Int} (p : φ (.int i)) : EW K cs W (tC (.int i)) G φ ε := ew_glob (fun _ => .int i) p
theorem ew_bl {b : Bool} (p : φ (.bool b)) : EW K cs W (tC (.bl b)) G φ ε := ew_glob (fun _ => .bl b) p
/-! ### arguments, displays -/
theorem aw_nil (p : α []) : AW K cs W tNil G α ε := fun Wd B ad H0 H σ S Q q _ => q _ p _ H S Xb.refl .nil
theorem aw_cons {tr : TA} (h : EW K cs W ta G (fun x => AW K cs W tr G (fun xs => α (x :: xs)) ε) ε) : AW K cs W (tCons ta tr) G α ε := fun Wd B ad H0 H σ S Q q x =>
  h Wd B ad H0 H σ S _ (fun x1 p1 v H1 S1 e1 d1 => p1 Wd B ad H0 H1 σ S1 _ (fun xs p2 vs H2 S2 e2 d2 => q _ p2 _ H2 S2 (e1.trans e2) (.cons (dp_mono (Xb.lz e2) d1) d2)) (x.go e1)) x
theorem ew_ef (h : EF K cs W te G (fun c => ∃ xs, c = ol xs ∧ φ (.list xs)) ε) : EW K cs W te G φ ε := fun Wd B ad H0 H σ S Q q x =>
  h Wd B ad H0 H σ S _ (fun c p a vs H2 S2 e2 hn d => by
    obtain ⟨xs, rfl, p⟩ := p
    obtain ⟨S3, e3, g⟩ := new_ex (o := .lst vs) S2 hn
    exact q _ p _ _ S3 (e2.trans e3) (.lst (sq_of g) (dpa_mono (Xb.lz e3) d))) x
theorem ew_tup {ta : TA} (h : AW K cs W ta G (fun xs => xs.length ≤ 16000000 ∧ φ (.tuple xs)) ε) : EW K cs W (tTup ta) G φ ε := fun Wd B ad H0 H σ S Q q x =>
  h Wd B ad H0 H σ S _ (fun xs p vs H1 S1 e1 d1 => ⟨by rw [dpa_len d1]; exact sz_line p.1, fun a ha => by
    obtain ⟨S2, e2, g⟩ := new_ex (o := .tup vs) S1 ha
    exact q _ p.2 _ _ S2 (e1.trans e2) (.tup (st_of g) (dpa_mono (Xb.lz e2) d1))⟩) x
theorem ef_lst {ta : TA} (h : AW K cs W ta G (fun xs => xs.length ≤ 16000000 ∧ χ (ol xs)) ε) : EF K cs W (tLst ta) G χ ε := fun Wd B ad H0 H σ S Q q x =>
  h Wd B ad H0 H σ S _ (fun xs p vs H1 S1 e1 d1 => ⟨by rw [dpa_len d1]; exact sz_line p.1, fun a ha => q _ p.2 a vs H1 S1 e1 ha d1⟩) x
/-! ### operators -/
theorem ew_op {r : R2} (h : EW K cs W ta G (fun x => EW K cs W tb G (fun y => ∀ Wd B ad H0 H σ v w, Sta K Wd B ad H0 H σ G → Dp K (less H (Zs Wd B ad G)) v x → Dp K (less H (Zs Wd B ad G)) w y → ∀ Q : VK, (∀ z, φ z → ∀ v H2, Sta K Wd B ad H0 H2 σ G → Xb B H H2 → Dp K (less H2 (Zs Wd B ad G)) v z → Q v H2) → r v w H Q) ε) ε) : EW K cs W (tOp r ta tb) G φ ε := fun Wd B ad H0 H σ S Q q x =>
  h Wd B ad H0 H σ S _ (fun x1 p1 v H1 S1 e1 d1 => p1 Wd B ad H0 H1 σ S1 _ (fun y p2 w H2 S2 e2 d2 => p2 Wd B ad H0 H2 σ v w S2 (dp_mono (Xb.lz e2) d1) d2 Q fun z p v H3 S3 e3 d3 => q z p v H3 S3 ((e1.trans e2).trans e3) d3) (x.go e1)) x
theorem ew_I0 {g : Int → Int → V} {f : Int → Int → PyData} (hg : ∀ i j H, Dp K H (g i j) (f i j)) (h : EW K cs W ta G (fun x => ∃ i, x = .int i ∧ EW K cs W tb G (fun y => ∃ j, y = .int j ∧ φ (f i j)) ε) ε) : EW K cs W (tOp (rI0 g) ta tb) G φ ε :=
  ew_op (ew_mono h fun x ⟨i, e, h⟩ => ew_mono h fun y ⟨j, e2, p⟩ => fun Wd B ad H0 H σ v w S d1 d2 Q q => by
    subst e; subst e2
    cases d1; cases d2
    exact ⟨i, j, rfl, rfl, q _ p _ H S Xb.refl (hg i j _)⟩)
theorem ew_I {C : Int → Int → Prop} {g : Int → Int → V} {f : Int → Int → PyData} (hg : ∀ i j H, Dp K H (g i j) (f i j)) (h : EW K cs W ta G (fun x => ∃ i, x = .int i ∧ EW K cs W tb G (fun y => ∃ j, y = .int j ∧ C i j ∧ φ (f i j)) ε) ε) : EW K cs W (tOp (rI C g) ta tb) G φ ε :=
  ew_op (ew_mono h fun x ⟨i, e, h⟩ => ew_mono h fun y ⟨j, e2, c, p⟩ => fun Wd B ad H0 H σ v w S d1 d2 Q q => by
    subst e; subst e2
    cases d1; cases d2
    exact ⟨i, j, rfl, rfl, c, q _ p _ H S Xb.refl (hg i j _)⟩)
theorem ew_add (h : EW K cs W ta G (fun x => ∃ i, x = .int i ∧ EW K cs W tb G (fun y => ∃ j, y = .int j ∧ φ (.int (i + j))) ε) ε) : EW K cs W (tOp rAddI ta tb) G φ ε := by unfold rAddI; exact ew_I0 (f := fun i j => .int (i + j)) (fun _ _ _ => .int _) h
theorem ew_sub (h : EW K cs W ta G (fun x => ∃ i, x = .int i ∧ EW K cs W tb G (fun y => ∃ j, y = .int j ∧ φ (.int (i - j))) ε) ε) : EW K cs W (tOp rSubI ta tb) G φ ε := by unfold rSubI; exact ew_I0 (f := fun i j => .int (i - j)) (fun _ _ _ => .int _) h
theorem ew_mul (h : EW K cs W ta G (fun x => ∃ i, x = .int i ∧ EW K cs W tb G (fun y => ∃ j, y = .int j ∧ CMulW i j ∧ φ (.int (i * j))) ε) ε) : EW K cs W (tOp rMulI ta tb) G φ ε := by unfold rMulI; exact ew_I (f := fun i j => .int (i * j)) (fun _ _ _ => .int _) h
theorem ew_div (h : EW K cs W ta G (fun x => ∃ i, x = .int i ∧ EW K cs W tb G (fun y => ∃ j, y = .int j ∧ CDvX i j ∧ φ (.int (i.fdiv j))) ε) ε) : EW K cs W (tOp rDivI ta tb) G φ ε := by unfold rDivI; exact ew_I (f := fun i j => .int (i.fdiv j)) (fun _ _ _ => .int _) h
theorem ew_mod (h : EW K cs W ta G (fun x => ∃ i, x = .int i ∧ EW K cs W tb G (fun y => ∃ j, y = .int j ∧ CNz i j ∧ φ (.int (i.fmod j))) ε) ε) : EW K cs W (tOp rModI ta tb) G φ ε := by unfold rModI; exact ew_I (f := fun i j => .int (i.fmod j)) (fun _ _ _ => .int _) h
theorem ew_lt (h : EW K cs W ta G (fun x => ∃ i, x = .int i ∧ EW K cs W tb G (fun y => ∃ j, y = .int j ∧ φ (.bool (decide (i < j)))) ε) ε) : EW K cs W (tOp rLtI ta tb) G φ ε := by unfold rLtI; exact ew_I0 (f := fun i j => .bool (decide (i < j))) (fun _ _ _ => .bl _) h
theorem ew_le (h : EW K cs W ta G (fun x => ∃ i, x = .int i ∧ EW K cs W tb G (fun y => ∃ j, y = .int j ∧ φ (.bool (decide (i ≤ j)))) ε) ε) : EW K cs W (tOp rLeI ta tb) G φ ε := by unfold rLeI; exact ew_I0 (f := fun i j => .bool (decide (i ≤ j))) (fun _ _ _ => .bl _) h
theorem ew_gt (h : EW K cs W ta G (fun x => ∃ i, x = .int i ∧ EW K cs W tb G (fun y => ∃ j, y = .int j ∧ φ (.bool (decide (j < i)))) ε) ε) : EW K cs W (tOp rGtI ta tb) G φ ε := by unfold rGtI; exact ew_I0 (f := fun i j => .bool (decide (j < i))) (fun _ _ _ => .bl _) h
theorem ew_neg (h : EW K cs W ta G (fun x => ∃ i, x = .int i ∧ φ (.int (-i))) ε) : EW K cs W (tUn rNegI ta) G φ ε := by
 unfold rNegI
 exact fun Wd B ad H0 H σ S Q q x => h Wd B ad H0 H σ S _ (fun y ⟨i, e, p⟩ v H1 S1 e1 d1 => by
    subst e
    cases d1
    exact ⟨i, rfl, q _ p _ H1 S1 e1 (.int _)⟩) x
/-- == of scalars -/
def scEq : PyData → PyData → Option Bool
  | .int i, .int j => some (decide (i = j))
  | .str i, .str j => some (decide (i = j))
  | .bool i, .bool j => some (decide (i = j))
  | .none, .none => some true
  | _, _ => none
theorem sc_eq {H : Hp} {v w : V} {x y : PyData} {b : Bool} (d1 : Dp K H v x) (d2 : Dp K H w y) (h : scEq x y = some b) : scal v w = true ∧ decide (v = w) = b := by
  cases d1 <;> cases d2 <;> first | (cases h; done) | skip
  · cases h; exact ⟨rfl, rfl⟩
  · cases h; exact ⟨rfl, by simp⟩
  · cases h; exact ⟨rfl, by simp⟩
  · cases h; exact ⟨rfl, by simp⟩
theorem ew_eq (h : EW K cs W ta G (fun x => EW K cs W tb G (fun y => ∃ b, scEq x y = some b ∧ φ (.bool b)) ε) ε) : EW K cs W (tOp rEq ta tb) G φ ε :=
  ew_op (ew_mono h fun x h => ew_mono h fun y ⟨b, e, p⟩ => fun Wd B ad H0 H σ v w S d1 d2 Q q => by
    obtain ⟨h1, h2⟩ := sc_eq d1 d2 e
    exact ⟨h1, by rw [h2]; exact q _ p _ H S Xb.refl (.bl _)⟩)
theorem ew_ne (h : EW K cs W ta G (fun x => EW K cs W tb G (fun y => ∃ b, scEq x y = some b ∧ φ (.bool (!b))) ε) ε) : EW K cs W (tOp rNe ta tb) G φ ε :=
  ew_op (ew_mono h fun x h => ew_mono h fun y ⟨b, e, p⟩ => fun Wd B ad H0 H σ v w S d1 d2 Q q => by
    obtain ⟨h1, h2⟩ := sc_eq d1 d2 e
    exact ⟨h1, by rw [h2]; exact q _ p _ H S Xb.refl (.bl _)⟩)
theorem ew_eqD (h : EW K cs W ta G (fun x => EW K cs W tb G (fun y => SeqAt.shaped x = true ∧ SeqAt.shaped y = true ∧ φ (.bool (PyData.eqv x y))) ε) ε) : EW K cs W (tOp (rEqD K) ta tb) G φ ε :=
  ew_op (ew_mono h fun x h => ew_mono h fun y ⟨h1, h2, p⟩ => fun Wd B ad H0 H σ v w S d1 d2 Q q => ⟨x, y, dp_mono less_ex d1, dp_mono less_ex d2, h1, h2, q _ p _ H S Xb.refl (.bl _)⟩)
theorem ew_neD (h : EW K cs W ta G (fun x => EW K cs W tb G (fun y => SeqAt.shaped x = true ∧ SeqAt.shaped y = true ∧ φ (.bool (!PyData.eqv x y))) ε) ε) : EW K cs W (tOp (rNeD K) ta tb) G φ ε :=
  ew_op (ew_mono h fun x h => ew_mono h fun y ⟨h1, h2, p⟩ => fun Wd B ad H0 H σ v w S d1 d2 Q q => ⟨x, y, dp_mono less_ex d1, dp_mono less_ex d2, h1, h2, q _ p _ H S Xb.refl (.bl _)⟩)
end
end U.N

end
section
namespace U
open PySem PyProof.Rows L2 Evl
local macro_rules | `(tactic| walk_at "ev1") => `(tactic| first
  | exact ev_int | exact ev_bl | exact ev_str | exact ev_non | exact ev_var rfl | exact ea_nil | exact eo_none
  | with_reducible apply ev_ixDisp | with_reducible apply ev_fst | with_reducible apply ev_snd
  | with_reducible apply ev_add | with_reducible apply ev_sub | with_reducible apply ev_mul | with_reducible apply ev_fdiv | with_reducible apply ev_mod | with_reducible apply ev_pow
  | with_reducible apply ev_lt | with_reducible apply ev_le | with_reducible apply ev_gt | with_reducible apply ev_ge
  | with_reducible apply ev_eqI | with_reducible apply ev_neI
  | with_reducible apply ev_neg | with_reducible apply ev_subB | with_reducible apply ev_isNo | with_reducible apply ev_noNo
  | with_reducible apply ev_not | with_reducible apply et_test | with_reducible apply et_B | with_reducible apply et_not
  | with_reducible apply ev_abs | with_reducible apply ev_max | with_reducible apply ev_min | with_reducible apply ev_intB
  | with_reducible apply ev_gcd | with_reducible apply ev_frac | with_reducible apply ev_fadd | with_reducible apply ev_sign | with_reducible apply ev_cmpF
  | with_reducible apply ev_pull rfl
  | with_reducible apply ev_like
  | with_reducible apply ev_tup | with_reducible apply ev_lst | with_reducible apply ea_cons | with_reducible apply eo_some
  | with_reducible apply ev_order | exact ev_part rfl | exact ev_far rfl | exact ev_farPart rfl
  | (with_reducible show List.length _ ≤ 16000000; (simp; done)) | (with_reducible show (0 : Int) < _; decide) | (with_reducible show (_ : Int) < 1000000000000; decide) | (with_reducible show CPow _ _; (unfold CPow; decide)) | (with_reducible show CNz _ _; (unfold CNz; decide))
  | with_reducible apply sg_ret | with_reducible apply sg_asg | with_reducible apply sg_next)
local macro_rules | `(tactic| walk_at "ln") => `(tactic| first | walk_at "ev1" | with_reducible apply sg_seq)

def isPart2 : PyData → PyData → Bool
  | .int a, .int b => decide (0 < b) && decide (gI a b = 1)
  | _, _ => false
def isPart : PyData → Bool
  | .tuple [p, q] => isPart2 p q
  | _ => false
section
variable {K : Fg} {G : Gam} {s s1 s2 s' : Bag} {ta tb te : TE} {x y : PyData} {E : XK}
end
section
variable {K : Fg}
-- slots of is_whole: 0 thing
def t_shared (K : Fg) : TS := (tSeq (tPar 0 1 (tCons (tCB rAbs (tCons (tVar 0) tNil)) (tCons (tCB rAbs (tCons (tVar 1) tNil)) tNil)))
  (tSeq (tWhile (tTest (tOp (rI0 fun i j => V.bl (decide (j < i))) (tVar 1) (tC (V.int 0)))) (tPar 0 1 (tCons (tVar 1) (tCons (tOp (rI CNz fun i j => V.int (i.fmod j)) (tVar 0) (tVar 1)) tNil))))
  (tRet (tCB rMx (tCons (tVar 0) (tCons (tC (V.int 1)) tNil))))))
-- slots of shared: 0 one, 1 other
theorem ln_shared : ∀ ds r, P_gcd ds r → ds.length = 2 := fun ds r h => by obtain ⟨p, q, rfl, _⟩ := h; rfl
theorem rd_shared {ds r} (h : P_gcd ds r) (b : Bag) : SG K (t_shared K) (frame 2 ds) b (.rt r b) := qt_of (by simp (disch := with_unfolding_all
  obtain ⟨x, y, rfl, rfl⟩ := h
  unfold t_shared
  obtain ⟨n, h1, h2⟩ := eu_end y.natAbs x.natAbs
  apply sg_is
  apply sg_seq
  · apply sg_par
    (repeat' walk_at "ev1")
  apply sg_seq
  · refine sg_while (s' := b) (fun i => [.d (.int (eu x.natAbs y.natAbs i).1), .d (.int (eu x.natAbs y.natAbs i).2)]) (fun _ => b) (fun _ => b) n ?_ rfl (fun i hi => ?_) (fun i hi => .inl ?_) ?_
    · show Wk [.d (.int (absI x)), .d (.int (absI y))] _
      rw [absI_nat, absI_nat]
      exact .refl _
    · refine et_is (by (repeat' walk_at "ev1")) ?_
      have := h2 i hi
      simp; omega
    · have hy := h2 i hi
      refine sg_is (sg_par (ea_cons (ev_var rfl) (ea_cons (ev_mod (ev_var rfl) (ev_var rfl) ?_) ea_nil))) ?_
      · show ((eu x.natAbs y.natAbs i).2 : Int) ≠ 0
        omega
      · rw [fmod_nat]
        rfl
    · refine et_is (by (repeat' walk_at "ev1")) ?_
      rw [h1]
      rfl
  · rw [h1]
    (repeat' walk_at "ev1")
  · show Out.rt (.int (maxI _ 1)) b = _
    rw [gN_max]
  ) only [↓qt_eq])
-- slots of is_part: 0 thing
-- slots of _law_wild: 0 _law_bag_here, 1 _law_things
end
end U


end
section
namespace U
open PySem PyProof.Rows L2 Evl
local macro_rules | `(tactic| walk_at "ev1") => `(tactic| first
  | exact ev_int | exact ev_bl | exact ev_str | exact ev_non | exact ev_var rfl | exact ea_nil | exact eo_none
  | with_reducible apply ev_ixDisp | with_reducible apply ev_fst | with_reducible apply ev_snd
  | with_reducible apply ev_add | with_reducible apply ev_sub | with_reducible apply ev_mul | with_reducible apply ev_fdiv | with_reducible apply ev_mod | with_reducible apply ev_pow
  | with_reducible apply ev_lt | with_reducible apply ev_le | with_reducible apply ev_gt | with_reducible apply ev_ge
  | with_reducible apply ev_eqI | with_reducible apply ev_neI
  | with_reducible apply ev_neg | with_reducible apply ev_subB | with_reducible apply ev_isNo | with_reducible apply ev_noNo
  | with_reducible apply ev_not | with_reducible apply et_test | with_reducible apply et_B | with_reducible apply et_not
  | with_reducible apply ev_abs | with_reducible apply ev_max | with_reducible apply ev_min | with_reducible apply ev_intB
  | with_reducible apply ev_gcd | with_reducible apply ev_frac | with_reducible apply ev_fadd | with_reducible apply ev_sign | with_reducible apply ev_cmpF
  | with_reducible apply ev_pull rfl
  | with_reducible apply ev_like
  | with_reducible apply ev_tup | with_reducible apply ev_lst | with_reducible apply ea_cons | with_reducible apply eo_some
  | with_reducible apply ev_order | exact ev_part rfl | exact ev_far rfl | exact ev_farPart rfl
  | (with_reducible show List.length _ ≤ 16000000; (simp; done)) | (with_reducible show (0 : Int) < _; decide) | (with_reducible show (_ : Int) < 1000000000000; decide) | (with_reducible show CPow _ _; (unfold CPow; decide)) | (with_reducible show CNz _ _; (unfold CNz; decide))
  | with_reducible apply sg_ret | with_reducible apply sg_asg | with_reducible apply sg_next)
local macro_rules | `(tactic| walk_at "ln") => `(tactic| first | walk_at "ev1" | with_reducible apply sg_seq)

/-! ### part -/
theorem fdiv_neg2 (a g : Int) : a.fdiv (-g) = (-a).fdiv g := by
  have h := Int.neg_fdiv_neg (-a) g
  rw [Int.neg_neg] at h
  exact h
theorem gI_neg (a b : Int) : gI (-a) (-b) = gI a b := by unfold gI gN; rw [Int.natAbs_neg, Int.natAbs_neg]
theorem gI_one (a : Int) : gI a 1 = 1 := by
  unfold gI gN
  show ((max (Nat.gcd a.natAbs 1) 1 : Nat) : Int) = 1
  rw [Nat.gcd_one_right]
  rfl
def partR (a b : Int) : Except Xw PyData := if b = 0 then .error xFlat else .ok (fr (fracF a b))
def P_partX : List PyData → Except Xw PyData → Prop := fun ds r => ∃ a b : Int, ds = [.int a, .int b] ∧ Bd 8000 a ∧ Bd 8000 b ∧ r = partR a b
theorem partR_ok {a b : Int} (h : b ≠ 0) : partR a b = .ok (fr (fracF a b)) := if_neg h
section
variable {K : Fg} {cs : Cs} {W : WX} {G : Gam} {s s1 s2 s' : Bag} {ta tb te : TE} {x y : PyData} {E : St → XK}
theorem ev_partX {a b : Int} (h1 : EvG K ta G s (.int a) s1) (h2 : EvG K tb G s1 (.int b) s2) (ha : Bd 8000 a) (hb : Bd 8000 b) (h0 : b ≠ 0) : EvG K (tCallSD (spX K cs P_partX) [] E (tCons ta (tCons tb tNil))) G s (fr (fracF a b)) s2 :=
  ev_callX (ea_cons h1 (ea_cons h2 ea_nil)) (fun _ => .nil) ⟨a, b, rfl, ha, hb, (partR_ok h0).symm⟩
theorem ex_partX {a : Int} (h1 : EvG K ta G s (.int a) s1) (h2 : EvG K tb G s1 (.int 0) s2) (ha : Bd 8000 a) : EX K cs W (tCallSD (spX K cs P_partX) [] (WE W) (tCons ta (tCons tb tNil))) G s xFlat s2 :=
  ex_call (ea_cons h1 (ea_cons h2 ea_nil)) (fun _ => .nil) ⟨a, 0, rfl, ha, Nat.two_pow_pos _, rfl⟩
end
section
variable {K : Fg} {cs : Cs}
def t_part (K : Fg) (cs : Cs) (W : WX) : TS := (tSeq (tIfS (tTest (tOp rEq (tVar 1) (tC (V.int 0)))) (tRaiseX (cs "Flat") (spIn K ["word"] gFlat) [] tNil W) tNext)
  (tSeq (tIfS (tTest (tOp (rI0 fun i j => V.bl (decide (i < j))) (tVar 1) (tC (V.int 0)))) (tPar 0 1 (tCons (tUn (rU fun i => V.int (-i)) (tVar 0)) (tCons (tUn (rU fun i => V.int (-i)) (tVar 1)) tNil))) tNext)
  (tSeq (tAsg (tCall (spP K P_gcd) [] E0 (tCons (tVar 0) (tCons (tVar 1) tNil))) (gName 2))
  (tRet (tTup (tCons (tOp (rI CDvX fun i j => V.int (i.fdiv j)) (tVar 0) (tVar 2)) (tCons (tOp (rI CDvX fun i j => V.int (i.fdiv j)) (tVar 1) (tVar 2)) tNil)))))))
-- slots of part: 0 above, 1 below, 2 divisor
theorem ln_part : ∀ ds r, P_partX ds r → ds.length = 2 := fun ds r h => by obtain ⟨p, q, rfl, _⟩ := h; rfl
theorem rd_part {ds r} (cf : ClsF K cs "Flat" ["word"]) (h : P_partX ds r) (W : WX) (b : Bag) : RdX K cs W (t_part K cs W) (frame 3 ds) b r := qt_of (by simp (disch := with_unfolding_all
  obtain ⟨x, y, rfl, hx, hy, rfl⟩ := h
  by_cases h0 : y = 0
  · subst h0
    refine ⟨_, sx_whenT (et_is (et_test (ev_eqI (ev_var rfl) ev_int)) rfl) (sx_raise0 cf.ox cf.no rfl)⟩
  · rw [partR_ok h0]
    show SG K (t_part K cs W) _ _ _
    unfold t_part
    refine sg_when (et_is (et_test (ev_eqI (ev_var rfl) ev_int)) (decide_eq_false h0)) (fun h => by cases h) fun _ => ?_
    have hg := gI_pos x y
    have hb : Bd 8001 (gI x y) := Bd.g hx hy
    have dv : ∀ z : Int, CDvX z (gI x y) := fun z => by
      refine ⟨by omega, ?_⟩
      have h2 : (gI x y).natAbs < 2 ^ 8002 := hb.mono (by decide)
      have := PySem.Flt.log2_lt_of (by decide) h2
      omega
    by_cases hn : y < 0
    · refine sg_is (sg_seq (sg_ifT (et_is (et_test (ev_lt (ev_var rfl) ev_int)) (decide_eq_true hn)) (sg_par (ea_cons (ev_neg (ev_var rfl)) (ea_cons (ev_neg (ev_var rfl)) ea_nil)))) (sg_seq (sg_asg (ev_is (ev_gcd (ev_var rfl) (ev_var rfl)) (congrArg PyData.int (gI_neg x y)))) (sg_ret (ev_tup (ea_cons (ev_fdiv (ev_var rfl) (ev_var rfl) (dv _)) (ea_cons (ev_fdiv (ev_var rfl) (ev_var rfl) (dv _)) ea_nil)) (by show 2 ≤ 16000000; decide))))) ?_
      show Out.rt (fr ((-x).fdiv (gI x y), (-y).fdiv (gI x y))) b = Out.rt (fr (fracF x y)) b
      unfold fracF
      rw [if_pos hn, fdiv_neg2, fdiv_neg2]
    · refine sg_is (sg_seq (sg_ifF (et_is (et_test (ev_lt (ev_var rfl) ev_int)) (decide_eq_false hn)) sg_next) (sg_seq (sg_asg (ev_gcd (ev_var rfl) (ev_var rfl))) (sg_ret (ev_tup (ea_cons (ev_fdiv (ev_var rfl) (ev_var rfl) (dv _)) (ea_cons (ev_fdiv (ev_var rfl) (ev_var rfl) (dv _)) ea_nil)) (by show 2 ≤ 16000000; decide))))) ?_
      show Out.rt (fr (x.fdiv (gI x y), y.fdiv (gI x y))) b = Out.rt (fr (fracF x y)) b
      unfold fracF
      rw [if_neg hn]
  ) only [↓qt_eq])
-- slots of told01: 0 _law_above, 1 _law_below, 2 why
end
end U


end
section
namespace U
open PySem PyProof.Rows L2 Evl
local macro_rules | `(tactic| walk_at "ev1") => `(tactic| first
  | exact ev_int | exact ev_bl | exact ev_str | exact ev_non | exact ev_var rfl | exact ea_nil | exact eo_none
  | with_reducible apply ev_ixDisp | with_reducible apply ev_fst | with_reducible apply ev_snd
  | with_reducible apply ev_add | with_reducible apply ev_sub | with_reducible apply ev_mul | with_reducible apply ev_fdiv | with_reducible apply ev_mod | with_reducible apply ev_pow
  | with_reducible apply ev_lt | with_reducible apply ev_le | with_reducible apply ev_gt | with_reducible apply ev_ge
  | with_reducible apply ev_eqI | with_reducible apply ev_neI
  | with_reducible apply ev_neg | with_reducible apply ev_subB | with_reducible apply ev_isNo | with_reducible apply ev_noNo
  | with_reducible apply ev_not | with_reducible apply et_test | with_reducible apply et_B | with_reducible apply et_not
  | with_reducible apply ev_abs | with_reducible apply ev_max | with_reducible apply ev_min | with_reducible apply ev_intB
  | with_reducible apply ev_gcd | with_reducible apply ev_frac | with_reducible apply ev_fadd | with_reducible apply ev_sign | with_reducible apply ev_cmpF
  | with_reducible apply ev_pull rfl
  | with_reducible apply ev_like
  | with_reducible apply ev_tup | with_reducible apply ev_lst | with_reducible apply ea_cons | with_reducible apply eo_some
  | with_reducible apply ev_order | exact ev_part rfl | exact ev_far rfl | exact ev_farPart rfl
  | (with_reducible show List.length _ ≤ 16000000; (simp; done)) | (with_reducible show (0 : Int) < _; decide) | (with_reducible show (_ : Int) < 1000000000000; decide) | (with_reducible show CPow _ _; (unfold CPow; decide)) | (with_reducible show CNz _ _; (unfold CNz; decide))
  | with_reducible apply sg_ret | with_reducible apply sg_asg | with_reducible apply sg_next)
local macro_rules | `(tactic| walk_at "ln") => `(tactic| first | walk_at "ev1" | with_reducible apply sg_seq)

def subF (p q : Fr) : Fr := fracF (p.1 * q.2 - q.1 * p.2) (p.2 * q.2)
def mulF (p q : Fr) : Fr := fracF (p.1 * q.1) (p.2 * q.2)
def divF (p q : Fr) : Fr := fracF (p.1 * q.2) (p.2 * q.1)
theorem Sz.subF {n m : Nat} {p q : Fr} (hp : Sz n p) (hq : Sz m q) : Sz (n + m + 1) (U.subF p q) :=
  Sz.frac (Bd.sub (hp.1.mul hq.2) (by rw [Nat.add_comm n m]; exact hq.1.mul hp.2)) ((hp.2.mul hq.2).mono (Nat.le_succ _))
theorem Sz.mulF {n m : Nat} {p q : Fr} (hp : Sz n p) (hq : Sz m q) : Sz (n + m) (U.mulF p q) := Sz.frac (hp.1.mul hq.1) (hp.2.mul hq.2)
theorem Sz.divF {n m : Nat} {p q : Fr} (hp : Sz n p) (hq : Sz m q) : Sz (n + m) (U.divF p q) := Sz.frac (hp.1.mul hq.2) (hp.2.mul hq.1)
theorem fdiv_pos {c g : Int} (hg : 0 < g) (h : g ≤ c) : 0 < c.fdiv g := by
  rw [Int.fdiv_eq_ediv_of_nonneg _ (Int.le_of_lt hg)]
  have : 1 ≤ c / g := Int.le_ediv_of_mul_le hg (by omega)
  omega
theorem gI_le_right {a b : Int} (hb : b ≠ 0) : gI a b ≤ (b.natAbs : Int) := qt_of (by simp (disch := with_unfolding_all
  unfold gI gN
  have h1 : 0 < b.natAbs := Int.natAbs_pos.mpr hb
  have h2 := Nat.gcd_le_right (m := a.natAbs) (n := b.natAbs) h1
  have : max (Nat.gcd a.natAbs b.natAbs) 1 ≤ b.natAbs := Nat.max_le.mpr ⟨h2, h1⟩
  omega
  ) only [↓qt_eq])
theorem fracF_pos {a b : Int} (hb : b ≠ 0) : 0 < (fracF a b).2 := qt_of (by simp (disch := with_unfolding_all
  have hg := gI_pos a b
  have hl := gI_le_right (a := a) hb
  unfold fracF
  by_cases h : b < 0
  · show 0 < b.fdiv (if b < 0 then -gI a b else gI a b)
    rw [if_pos h, fdiv_neg2]
    exact fdiv_pos hg (by omega)
  · rw [if_neg h]
    exact fdiv_pos hg (by omega)
  ) only [↓qt_eq])
theorem addF_pos {p q : Fr} (hp : p.2 ≠ 0) (hq : q.2 ≠ 0) : 0 < (addF p q).2 := fracF_pos (Int.mul_ne_zero hp hq)
theorem subF_pos {p q : Fr} (hp : p.2 ≠ 0) (hq : q.2 ≠ 0) : 0 < (subF p q).2 := fracF_pos (Int.mul_ne_zero hp hq)
theorem mulF_pos {p q : Fr} (hp : p.2 ≠ 0) (hq : q.2 ≠ 0) : 0 < (mulF p q).2 := fracF_pos (Int.mul_ne_zero hp hq)
theorem partOf_pos (s : Bag) : 0 < (partOf s).2 := qt_of (by simp (disch := with_unfolding_all
  obtain ⟨y1, y2⟩ := pullV_range (pullS s 13) (n := 4) (by decide)
  have hm := menu_mem (l := [1, 1, 2, 3]) y1 y2
  refine fracF_pos ?_
  generalize menu _ _ = m at hm
  simp only [List.mem_cons, List.not_mem_nil, or_false] at hm
  omega
  ) only [↓qt_eq])
/-- .. their sizes together -/
def P_fg (N : Nat) (C : Fr → Fr → Prop) (f : Fr → Fr → PyData) : List PyData → PyData → Prop := fun ds r => ∃ (n m : Nat) (p q : Fr), ds = [fr p, fr q] ∧ Sz n p ∧ Sz m q ∧ n + m ≤ N ∧ C p q ∧ r = f p q
theorem ln_fg {N : Nat} {C : Fr → Fr → Prop} {f : Fr → Fr → PyData} : ∀ ds r, P_fg N C f ds r → ds.length = 2 := fun ds r h => by obtain ⟨_, _, p, q, rfl, _⟩ := h; rfl
abbrev Nz2 (p q : Fr) : Prop := p.2 ≠ 0 ∧ q.2 ≠ 0
def P_plus := P_fg 7800 Nz2 fun p q => fr (addF p q)
def P_minus := P_fg 7800 Nz2 fun p q => fr (subF p q)
def P_times := P_fg 7800 Nz2 fun p q => fr (mulF p q)
def P_lsub := P_fg 7800 (fun _ _ => True) fun p q => fr (subF p q)
def P_lmul := P_fg 7800 (fun _ _ => True) fun p q => fr (mulF p q)
def overR (p q : Fr) : Except Xw PyData := if q.1 = 0 then .error xFlat else .ok (fr (divF p q))
def P_over : List PyData → Except Xw PyData → Prop := fun ds r => ∃ p q : Fr, ds = [fr p, fr q] ∧ Sz 3900 p ∧ Sz 3900 q ∧ p.2 ≠ 0 ∧ r = overR p q
section
variable {K : Fg} {cs : Cs} {W : WX} {G : Gam} {s s1 s2 s' : Bag} {ta tb te : TE} {x y : PyData} {E : St → XK} {E' : XK} {p q : Fr}
theorem ev_fg {n N : Nat} {C : Fr → Fr → Prop} {f : Fr → Fr → PyData} (h1 : EvG K ta G s (fr p) s1) (h2 : EvG K tb G s1 (fr q) s2) (hp : Sz n p) (hq : Sz n q) (hN : n + n ≤ N) (hc : C p q) : EvG K (tCall (spP K (P_fg N C f)) [] E' (tCons ta (tCons tb tNil))) G s (f p q) s2 :=
  ev_call (ea_cons h1 (ea_cons h2 ea_nil)) (fun _ => .nil) ⟨n, n, p, q, rfl, hp, hq, hN, hc, rfl⟩
theorem ev_lsub (h1 : EvG K ta G s (fr p) s1) (h2 : EvG K tb G s1 (fr q) s2) (hp : Sz 1900 p) (hq : Sz 1900 q) : EvG K (tCall (spP K P_lsub) [] E' (tCons ta (tCons tb tNil))) G s (fr (subF p q)) s2 := ev_fg h1 h2 hp hq (by decide) trivial
theorem ev_lmul (h1 : EvG K ta G s (fr p) s1) (h2 : EvG K tb G s1 (fr q) s2) (hp : Sz 1900 p) (hq : Sz 1900 q) : EvG K (tCall (spP K P_lmul) [] E' (tCons ta (tCons tb tNil))) G s (fr (mulF p q)) s2 := ev_fg h1 h2 hp hq (by decide) trivial
def t_plus (K : Fg) (cs : Cs) : TS := (tRet (tCallSD (spX K cs P_partX) [] (WE W0) (tCons (tOp (rI0 fun i j => V.int (i + j)) (tOp (rI CMulW fun i j => V.int (i * j)) (tOp (rIx K) (tVar 0) (tC (V.int 0))) (tOp (rIx K) (tVar 1) (tC (V.int 1)))) (tOp (rI CMulW fun i j => V.int (i * j)) (tOp (rIx K) (tVar 1) (tC (V.int 0))) (tOp (rIx K) (tVar 0) (tC (V.int 1))))) (tCons (tOp (rI CMulW fun i j => V.int (i * j)) (tOp (rIx K) (tVar 0) (tC (V.int 1))) (tOp (rIx K) (tVar 1) (tC (V.int 1)))) tNil))))
-- slots of plus: 0 one, 1 other
theorem ln_plus : ∀ ds r, P_plus ds r → ds.length = 2 := ln_fg
theorem rd_plus {ds r} (h : P_plus ds r) (b : Bag) : SG K (t_plus K cs) (frame 2 ds) b (.rt r b) := qt_of (by simp (disch := with_unfolding_all
  obtain ⟨n, m, p, q, rfl, hp, hq, hl, hc, rfl⟩ := h
  exact sg_ret (ev_partX (ev_add (ev_mul (ev_fst (ev_var rfl)) (ev_snd (ev_var rfl)) (hp.1.cm hq.2 (by omega))) (ev_mul (ev_fst (ev_var rfl)) (ev_snd (ev_var rfl)) (hq.1.cm hp.2 (by omega)))) (ev_mul (ev_snd (ev_var rfl)) (ev_snd (ev_var rfl)) (hp.2.cm hq.2 (by omega)))
    ((Bd.add (hp.1.mul hq.2) (by rw [Nat.add_comm n m]; exact hq.1.mul hp.2)).mono (by omega)) ((hp.2.mul hq.2).mono (by omega)) (Int.mul_ne_zero hc.1 hc.2))
  ) only [↓qt_eq])
def t_minus (K : Fg) (cs : Cs) : TS := (tRet (tCallSD (spX K cs P_partX) [] (WE W0) (tCons (tOp (rI0 fun i j => V.int (i - j)) (tOp (rI CMulW fun i j => V.int (i * j)) (tOp (rIx K) (tVar 0) (tC (V.int 0))) (tOp (rIx K) (tVar 1) (tC (V.int 1)))) (tOp (rI CMulW fun i j => V.int (i * j)) (tOp (rIx K) (tVar 1) (tC (V.int 0))) (tOp (rIx K) (tVar 0) (tC (V.int 1))))) (tCons (tOp (rI CMulW fun i j => V.int (i * j)) (tOp (rIx K) (tVar 0) (tC (V.int 1))) (tOp (rIx K) (tVar 1) (tC (V.int 1)))) tNil))))
-- slots of minus: 0 one, 1 other
theorem ln_minus : ∀ ds r, P_minus ds r → ds.length = 2 := ln_fg
theorem rd_minus {ds r} (h : P_minus ds r) (b : Bag) : SG K (t_minus K cs) (frame 2 ds) b (.rt r b) := qt_of (by simp (disch := with_unfolding_all
  obtain ⟨n, m, p, q, rfl, hp, hq, hl, hc, rfl⟩ := h
  exact sg_ret (ev_partX (ev_sub (ev_mul (ev_fst (ev_var rfl)) (ev_snd (ev_var rfl)) (hp.1.cm hq.2 (by omega))) (ev_mul (ev_fst (ev_var rfl)) (ev_snd (ev_var rfl)) (hq.1.cm hp.2 (by omega)))) (ev_mul (ev_snd (ev_var rfl)) (ev_snd (ev_var rfl)) (hp.2.cm hq.2 (by omega)))
    ((Bd.sub (hp.1.mul hq.2) (by rw [Nat.add_comm n m]; exact hq.1.mul hp.2)).mono (by omega)) ((hp.2.mul hq.2).mono (by omega)) (Int.mul_ne_zero hc.1 hc.2))
  ) only [↓qt_eq])
def t_times (K : Fg) (cs : Cs) : TS := (tRet (tCallSD (spX K cs P_partX) [] (WE W0) (tCons (tOp (rI CMulW fun i j => V.int (i * j)) (tOp (rIx K) (tVar 0) (tC (V.int 0))) (tOp (rIx K) (tVar 1) (tC (V.int 0)))) (tCons (tOp (rI CMulW fun i j => V.int (i * j)) (tOp (rIx K) (tVar 0) (tC (V.int 1))) (tOp (rIx K) (tVar 1) (tC (V.int 1)))) tNil))))
-- slots of times: 0 one, 1 other
theorem ln_times : ∀ ds r, P_times ds r → ds.length = 2 := ln_fg
theorem rd_times {ds r} (h : P_times ds r) (b : Bag) : SG K (t_times K cs) (frame 2 ds) b (.rt r b) := qt_of (by simp (disch := with_unfolding_all
  obtain ⟨n, m, p, q, rfl, hp, hq, hl, hc, rfl⟩ := h
  exact sg_ret (ev_partX (ev_mul (ev_fst (ev_var rfl)) (ev_fst (ev_var rfl)) (hp.1.cm hq.1 (by omega))) (ev_mul (ev_snd (ev_var rfl)) (ev_snd (ev_var rfl)) (hp.2.cm hq.2 (by omega)))
    ((hp.1.mul hq.1).mono (by omega)) ((hp.2.mul hq.2).mono (by omega)) (Int.mul_ne_zero hc.1 hc.2))
  ) only [↓qt_eq])
def t_over (K : Fg) (cs : Cs) (W : WX) : TS := (tRet (tCallSD (spX K cs P_partX) [] (WE W) (tCons (tOp (rI CMulW fun i j => V.int (i * j)) (tOp (rIx K) (tVar 0) (tC (V.int 0))) (tOp (rIx K) (tVar 1) (tC (V.int 1)))) (tCons (tOp (rI CMulW fun i j => V.int (i * j)) (tOp (rIx K) (tVar 0) (tC (V.int 1))) (tOp (rIx K) (tVar 1) (tC (V.int 0)))) tNil))))
-- slots of over: 0 one, 1 other
theorem ln_over : ∀ ds r, P_over ds r → ds.length = 2 := fun ds r h => by obtain ⟨p, q, rfl, _⟩ := h; rfl
theorem rd_over {ds r} (h : P_over ds r) (W : WX) (b : Bag) : RdX K cs W (t_over K cs W) (frame 2 ds) b r := qt_of (by simp (disch := with_unfolding_all
  obtain ⟨p, q, rfl, hp, hq, hc, rfl⟩ := h
  unfold overR
  have e1 : EvG K (tOp (rI CMulW fun i j => V.int (i * j)) (tOp (rIx K) (tVar 0) (tC (V.int 0))) (tOp (rIx K) (tVar 1) (tC (V.int 1)))) (frame 2 [fr p, fr q]) b (.int (p.1 * q.2)) b := ev_mul (ev_fst (ev_var rfl)) (ev_snd (ev_var rfl)) (hp.1.cm hq.2 (by decide))
  have e2 : EvG K (tOp (rI CMulW fun i j => V.int (i * j)) (tOp (rIx K) (tVar 0) (tC (V.int 1))) (tOp (rIx K) (tVar 1) (tC (V.int 0)))) (frame 2 [fr p, fr q]) b (.int (p.2 * q.1)) b := ev_mul (ev_snd (ev_var rfl)) (ev_fst (ev_var rfl)) (hp.2.cm hq.1 (by decide))
  by_cases h0 : q.1 = 0
  · rw [if_pos h0]
    exact ⟨_, sx_ret (ex_partX e1 (ev_is e2 (by rw [h0, Int.mul_zero])) ((hp.1.mul hq.2).mono (by decide)))⟩
  · rw [if_neg h0]
    exact sg_ret (ev_partX e1 e2 ((hp.1.mul hq.2).mono (by decide)) ((hp.2.mul hq.1).mono (by decide)) (Int.mul_ne_zero hc h0))
  ) only [↓qt_eq])
-- slots of middle: 0 one, 1 other
def t__law_sub (K : Fg) : TS := (tRet (tCall (spP K P_frac) [] E0 (tCons (tOp (rI0 fun i j => V.int (i - j)) (tOp (rI CMulW fun i j => V.int (i * j)) (tOp (rIx K) (tVar 0) (tC (V.int 0))) (tOp (rIx K) (tVar 1) (tC (V.int 1)))) (tOp (rI CMulW fun i j => V.int (i * j)) (tOp (rIx K) (tVar 1) (tC (V.int 0))) (tOp (rIx K) (tVar 0) (tC (V.int 1))))) (tCons (tOp (rI CMulW fun i j => V.int (i * j)) (tOp (rIx K) (tVar 0) (tC (V.int 1))) (tOp (rIx K) (tVar 1) (tC (V.int 1)))) tNil))))
-- slots of _law_sub: 0 _law_one, 1 _law_other
theorem ln__law_sub : ∀ ds r, P_lsub ds r → ds.length = 2 := ln_fg
theorem rd__law_sub {ds r} (h : P_lsub ds r) (b : Bag) : SG K (t__law_sub K) (frame 2 ds) b (.rt r b) := qt_of (by simp (disch := with_unfolding_all
  obtain ⟨n, m, p, q, rfl, hp, hq, hl, hc, rfl⟩ := h
  exact sg_ret (ev_fracN (ev_sub (ev_mul (ev_fst (ev_var rfl)) (ev_snd (ev_var rfl)) (hp.1.cm hq.2 (by omega))) (ev_mul (ev_fst (ev_var rfl)) (ev_snd (ev_var rfl)) (hq.1.cm hp.2 (by omega)))) (ev_mul (ev_snd (ev_var rfl)) (ev_snd (ev_var rfl)) (hp.2.cm hq.2 (by omega)))
    ((Bd.sub (hp.1.mul hq.2) (by rw [Nat.add_comm n m]; exact hq.1.mul hp.2)).mono (by omega)) ((hp.2.mul hq.2).mono (by omega)))
  ) only [↓qt_eq])
def t__law_mul (K : Fg) : TS := (tRet (tCall (spP K P_frac) [] E0 (tCons (tOp (rI CMulW fun i j => V.int (i * j)) (tOp (rIx K) (tVar 0) (tC (V.int 0))) (tOp (rIx K) (tVar 1) (tC (V.int 0)))) (tCons (tOp (rI CMulW fun i j => V.int (i * j)) (tOp (rIx K) (tVar 0) (tC (V.int 1))) (tOp (rIx K) (tVar 1) (tC (V.int 1)))) tNil))))
-- slots of _law_mul: 0 _law_one, 1 _law_other
theorem ln__law_mul : ∀ ds r, P_lmul ds r → ds.length = 2 := ln_fg
theorem rd__law_mul {ds r} (h : P_lmul ds r) (b : Bag) : SG K (t__law_mul K) (frame 2 ds) b (.rt r b) := qt_of (by simp (disch := with_unfolding_all
  obtain ⟨n, m, p, q, rfl, hp, hq, hl, hc, rfl⟩ := h
  exact sg_ret (ev_fracN (ev_mul (ev_fst (ev_var rfl)) (ev_fst (ev_var rfl)) (hp.1.cm hq.1 (by omega))) (ev_mul (ev_snd (ev_var rfl)) (ev_snd (ev_var rfl)) (hp.2.cm hq.2 (by omega)))
    ((hp.1.mul hq.1).mono (by omega)) ((hp.2.mul hq.2).mono (by omega)))
  ) only [↓qt_eq])
-- slots of _law_div: 0 _law_one, 1 _law_other
-- slots of told03: 0 _law_one, 1 _law_other, 2 why
end
end U


end
section
namespace U
open PySem PyProof.Rows L2 Evl
local macro_rules | `(tactic| walk_at "ev1") => `(tactic| first
  | exact ev_int | exact ev_bl | exact ev_str | exact ev_non | exact ev_var rfl | exact ea_nil | exact eo_none
  | with_reducible apply ev_ixDisp | with_reducible apply ev_fst | with_reducible apply ev_snd
  | with_reducible apply ev_add | with_reducible apply ev_sub | with_reducible apply ev_mul | with_reducible apply ev_fdiv | with_reducible apply ev_mod | with_reducible apply ev_pow
  | with_reducible apply ev_lt | with_reducible apply ev_le | with_reducible apply ev_gt | with_reducible apply ev_ge
  | with_reducible apply ev_eqI | with_reducible apply ev_neI
  | with_reducible apply ev_neg | with_reducible apply ev_subB | with_reducible apply ev_isNo | with_reducible apply ev_noNo
  | with_reducible apply ev_not | with_reducible apply et_test | with_reducible apply et_B | with_reducible apply et_not
  | with_reducible apply ev_abs | with_reducible apply ev_max | with_reducible apply ev_min | with_reducible apply ev_intB
  | with_reducible apply ev_gcd | with_reducible apply ev_frac | with_reducible apply ev_fadd | with_reducible apply ev_sign | with_reducible apply ev_cmpF
  | with_reducible apply ev_pull rfl
  | with_reducible apply ev_like
  | with_reducible apply ev_tup | with_reducible apply ev_lst | with_reducible apply ea_cons | with_reducible apply eo_some
  | with_reducible apply ev_order | exact ev_part rfl | exact ev_far rfl | exact ev_farPart rfl
  | (with_reducible show List.length _ ≤ 16000000; (simp; done)) | (with_reducible show (0 : Int) < _; decide) | (with_reducible show (_ : Int) < 1000000000000; decide) | (with_reducible show CPow _ _; (unfold CPow; decide)) | (with_reducible show CNz _ _; (unfold CNz; decide))
  | with_reducible apply sg_ret | with_reducible apply sg_asg | with_reducible apply sg_next)
local macro_rules | `(tactic| walk_at "ln") => `(tactic| first | walk_at "ev1" | with_reducible apply sg_seq)

/-! ### fractions in lowest terms -/
theorem gI_dvd_left {a b : Int} (hb : b ≠ 0) : ∃ c, a = gI a b * c := qt_of (by simp (disch := with_unfolding_all
  have e : gI a b = (Nat.gcd a.natAbs b.natAbs : Nat) := by
    unfold gI gN
    have : 0 < Nat.gcd a.natAbs b.natAbs := Nat.gcd_pos_of_pos_right _ (Int.natAbs_pos.mpr hb)
    have : max (Nat.gcd a.natAbs b.natAbs) 1 = Nat.gcd a.natAbs b.natAbs := Nat.max_eq_left this
    omega
  rw [e]
  exact Int.ofNat_dvd_left.mpr (Nat.gcd_dvd_left _ _)
  ) only [↓qt_eq])
theorem gI_dvd_right {a b : Int} (hb : b ≠ 0) : ∃ c, b = gI a b * c := qt_of (by simp (disch := with_unfolding_all
  have e : gI a b = (Nat.gcd a.natAbs b.natAbs : Nat) := by
    unfold gI gN
    have : 0 < Nat.gcd a.natAbs b.natAbs := Nat.gcd_pos_of_pos_right _ (Int.natAbs_pos.mpr hb)
    have : max (Nat.gcd a.natAbs b.natAbs) 1 = Nat.gcd a.natAbs b.natAbs := Nat.max_eq_left this
    omega
  rw [e]
  exact Int.ofNat_dvd_left.mpr (Nat.gcd_dvd_right _ _)
  ) only [↓qt_eq])
/-- fracF by its factor -/
theorem fracF_spec {a b : Int} (hb : b ≠ 0) : ∃ k : Int, k ≠ 0 ∧ a = k * (fracF a b).1 ∧ b = k * (fracF a b).2 ∧ k.natAbs = Nat.gcd a.natAbs b.natAbs := qt_of (by simp (disch := with_unfolding_all
  have hg := gI_pos a b
  have hn : gI a b = (Nat.gcd a.natAbs b.natAbs : Nat) := by
    unfold gI gN
    have : 0 < Nat.gcd a.natAbs b.natAbs := Nat.gcd_pos_of_pos_right _ (Int.natAbs_pos.mpr hb)
    have : max (Nat.gcd a.natAbs b.natAbs) 1 = Nat.gcd a.natAbs b.natAbs := Nat.max_eq_left this
    omega
  obtain ⟨c, hc⟩ := gI_dvd_left (a := a) hb
  obtain ⟨d, hd⟩ := gI_dvd_right (a := a) hb
  have fd : ∀ (g x : Int), g ≠ 0 → (g * x).fdiv g = x := fun g x h => Int.mul_fdiv_cancel_left x h
  unfold fracF
  by_cases h : b < 0
  · rw [if_pos h]
    refine ⟨-gI a b, by omega, ?_, ?_, by rw [Int.natAbs_neg, hn, Int.natAbs_natCast]⟩
    · have : a = -gI a b * -c := by rw [Int.neg_mul_neg]; exact hc
      show a = -gI a b * a.fdiv (-gI a b)
      have e := fd (-gI a b) (-c) (by omega)
      rw [← this] at e
      rw [e]; exact this
    · have : b = -gI a b * -d := by rw [Int.neg_mul_neg]; exact hd
      show b = -gI a b * b.fdiv (-gI a b)
      have e := fd (-gI a b) (-d) (by omega)
      rw [← this] at e
      rw [e]; exact this
  · rw [if_neg h]
    refine ⟨gI a b, by omega, ?_, ?_, by rw [hn, Int.natAbs_natCast]⟩
    · show a = gI a b * a.fdiv (gI a b)
      have e := fd (gI a b) c (by omega)
      rw [← hc] at e
      rw [e]; exact hc
    · show b = gI a b * b.fdiv (gI a b)
      have e := fd (gI a b) d (by omega)
      rw [← hd] at e
      rw [e]; exact hd
  ) only [↓qt_eq])
theorem fracF_low {a b : Int} (hb : b ≠ 0) : gI (fracF a b).1 (fracF a b).2 = 1 := qt_of (by simp (disch := with_unfolding_all
  obtain ⟨k, hk, h1, h2, h3⟩ := fracF_spec (a := a) hb
  have hpos : 0 < k.natAbs := Int.natAbs_pos.mpr hk
  generalize (fracF a b).1 = x at *
  generalize (fracF a b).2 = y at *
  have : Nat.gcd (k * x).natAbs (k * y).natAbs = k.natAbs * Nat.gcd x.natAbs y.natAbs := by
    rw [Int.natAbs_mul, Int.natAbs_mul, Nat.gcd_mul_left]
  rw [← h1, ← h2, ← h3] at this
  have g1 : Nat.gcd x.natAbs y.natAbs = 1 := Nat.eq_of_mul_eq_mul_left hpos (by rw [← this, Nat.mul_one])
  unfold gI gN
  rw [g1]
  rfl
  ) only [↓qt_eq])
theorem fracF_isPart {a b : Int} (hb : b ≠ 0) : isPart (fr (fracF a b)) = true := by
  show (decide (0 < (fracF a b).2) && decide (gI (fracF a b).1 (fracF a b).2 = 1)) = true
  rw [decide_eq_true (fracF_pos hb), decide_eq_true (fracF_low hb)]
  rfl
theorem partOf_isPart (s : Bag) : isPart (fr (partOf s)) = true := qt_of (by simp (disch := with_unfolding_all
  obtain ⟨y1, y2⟩ := pullV_range (pullS s 13) (n := 4) (by decide)
  have hm := menu_mem (l := [1, 1, 2, 3]) y1 y2
  refine fracF_isPart ?_
  generalize menu _ _ = m at hm
  simp only [List.mem_cons, List.not_mem_nil, or_false] at hm
  omega
  ) only [↓qt_eq])
/-! ### spots -/
def spotOf (n : Nat) (s : Bag) : List PyData := drawn (fun s => fr (partOf s)) partS n s
def spotS (n : Nat) (s : Bag) : Bag := itB partS n s
def P_spot : Bag → List PyData → PyData → Bag → Prop := fun s ds r s' => ∃ n : Nat, ds = [.int n] ∧ n ≤ 1000 ∧ r = .tuple (spotOf n s) ∧ s' = spotS n s
section
variable {K : Fg} {cs : Cs} {W : WX} {G : Gam} {s s1 s2 s' : Bag} {ta tb te : TE} {x y : PyData} {E : XK}
-- slots of is_spot: 0 thing, 1 room, 2 one
def t__law_spot (K : Fg) : TS := (tRet (tCB (rTupQ K) (tCons (tLc (iRng1 (tCons (tVar 1) tNil)) (gName 2) tYes (tCall (spB K P_part) [] E0 (tCons (tVar 0) tNil)) [2]) tNil)))
-- slots of _law_spot: 0 _law_bag_here, 1 _law_rank, 2 _law_at
theorem ln__law_spot : ∀ s ds r s', P_spot s ds r s' → ds.length + 1 = 2 := fun s ds r s' h => by obtain ⟨n, rfl, _⟩ := h; rfl
theorem rd__law_spot {s ds r s'} (h : P_spot s ds r s') (ok : s.ok) : SG K (t__law_spot K) (.bag :: frame 2 ds) s (.rt r s') := qt_of (by simp (disch := with_unfolding_all
  obtain ⟨n, rfl, hn, rfl, rfl⟩ := h
  have e := ev_lcDraw (K := K) (te := tCall (spB K P_part) [] E0 (tCons (tVar 0) tNil)) (G := .bag :: frame 2 [.int n]) (src_rng1 (ta := tCons (tVar 1) tNil) (s := s) (ea_cons (ev_var rfl) ea_nil) ⟨by omega, by omega⟩) (g := gName 2) (vs := [2]) (fun s => fr (partOf s)) partS (un_at rfl) (by rw [rngD_len]; omega)
    (fun x s hx => ⟨_, tgt_name, ev_part rfl⟩)
  rw [rngD_len, Int.toNat_natCast] at e
  exact sg_ret (ev_tupL e)
  ) only [↓qt_eq])
end
end U


end
section
namespace U
open PySem PyProof.Rows L2 Evl
/-! ### fractions as rational numbers -/
def val (p : Fr) : Rat := (p.1 : Rat) / (p.2 : Rat)
structure Gd (n : Nat) (p : Fr) : Prop where
  sz : Sz n p
  pos : 0 < p.2
  low : gI p.1 p.2 = 1
theorem Gd.mono {n m : Nat} {p : Fr} (h : Gd n p) (l : n ≤ m) : Gd m p := ⟨h.sz.mono l, h.pos, h.low⟩
theorem Gd.ne {n : Nat} {p : Fr} (h : Gd n p) : p.2 ≠ 0 := Int.ne_of_gt h.pos
theorem qne {a : Int} (h : a ≠ 0) : (a : Rat) ≠ 0 := fun e => h (by exact_mod_cast e)
theorem qpos {a : Int} (h : 0 < a) : 0 < (a : Rat) := Rat.intCast_pos.mpr h
theorem Gd.qpos {n : Nat} {p : Fr} (h : Gd n p) : 0 < (p.2 : Rat) := U.qpos h.pos
theorem Gd.qne {n : Nat} {p : Fr} (h : Gd n p) : (p.2 : Rat) ≠ 0 := U.qne h.ne
theorem Gd.frac {n : Nat} {a b : Int} (ha : Bd n a) (hb : Bd n b) (h : b ≠ 0) : Gd n (fracF a b) := ⟨Sz.frac ha hb, fracF_pos h, fracF_low h⟩
theorem Gd.add {n m : Nat} {p q : Fr} (hp : Gd n p) (hq : Gd m q) : Gd (n + m + 1) (addF p q) := ⟨Sz.add hp.sz hq.sz, addF_pos hp.ne hq.ne, fracF_low (Int.mul_ne_zero hp.ne hq.ne)⟩
theorem Gd.sub {n m : Nat} {p q : Fr} (hp : Gd n p) (hq : Gd m q) : Gd (n + m + 1) (subF p q) := ⟨Sz.subF hp.sz hq.sz, subF_pos hp.ne hq.ne, fracF_low (Int.mul_ne_zero hp.ne hq.ne)⟩
theorem Gd.mul {n m : Nat} {p q : Fr} (hp : Gd n p) (hq : Gd m q) : Gd (n + m) (mulF p q) := ⟨Sz.mulF hp.sz hq.sz, mulF_pos hp.ne hq.ne, fracF_low (Int.mul_ne_zero hp.ne hq.ne)⟩
theorem Gd.div {n m : Nat} {p q : Fr} (hp : Gd n p) (hq : Gd m q) (h : q.1 ≠ 0) : Gd (n + m) (divF p q) := ⟨Sz.divF hp.sz hq.sz, fracF_pos (Int.mul_ne_zero hp.ne h), fracF_low (Int.mul_ne_zero hp.ne h)⟩
theorem partOf_gd (s : Bag) : Gd 10 (partOf s) := qt_of (by simp (disch := with_unfolding_all
  refine ⟨partOf_sz s, partOf_pos s, ?_⟩
  have h := partOf_isPart s
  have h : (decide (0 < (partOf s).2) && decide (gI (partOf s).1 (partOf s).2 = 1)) = true := h
  exact of_decide_eq_true (Bool.and_eq_true_iff.mp h).2
  ) only [↓qt_eq])
theorem val_frac {a b : Int} (hb : b ≠ 0) : val (fracF a b) = (a : Rat) / (b : Rat) := qt_of (by simp (disch := with_unfolding_all
  obtain ⟨k, hk, h1, h2, _⟩ := fracF_spec (a := a) hb
  have hy := Int.ne_of_gt (fracF_pos (a := a) hb)
  unfold val
  generalize (fracF a b).1 = x at *
  generalize (fracF a b).2 = y at *
  have k0 := qne hk
  have y0 := qne hy
  rw [h1, h2, Rat.intCast_mul, Rat.intCast_mul]
  grind
  ) only [↓qt_eq])
theorem val_add {n m : Nat} {p q : Fr} (hp : Gd n p) (hq : Gd m q) : val (addF p q) = val p + val q := by
  unfold addF
  rw [val_frac (Int.mul_ne_zero hp.ne hq.ne), Rat.intCast_add, Rat.intCast_mul, Rat.intCast_mul, Rat.intCast_mul]
  have := hp.qne
  have := hq.qne
  unfold val
  grind
theorem val_sub {n m : Nat} {p q : Fr} (hp : Gd n p) (hq : Gd m q) : val (subF p q) = val p - val q := by
  unfold subF
  rw [val_frac (Int.mul_ne_zero hp.ne hq.ne), Rat.intCast_sub, Rat.intCast_mul, Rat.intCast_mul, Rat.intCast_mul]
  have := hp.qne
  have := hq.qne
  unfold val
  grind
theorem val_mul {n m : Nat} {p q : Fr} (hp : Gd n p) (hq : Gd m q) : val (mulF p q) = val p * val q := by
  unfold mulF
  rw [val_frac (Int.mul_ne_zero hp.ne hq.ne), Rat.intCast_mul, Rat.intCast_mul]
  have := hp.qne
  have := hq.qne
  unfold val
  grind
theorem val_div {n m : Nat} {p q : Fr} (hp : Gd n p) (hq : Gd m q) (h : q.1 ≠ 0) : val (divF p q) = val p / val q := by
  unfold divF
  rw [val_frac (Int.mul_ne_zero hp.ne h), Rat.intCast_mul, Rat.intCast_mul]
  have := hp.qne
  have := hq.qne
  have := qne h
  unfold val
  grind
/-- equal values, equal fractions -/
theorem val_inj {n m : Nat} {p q : Fr} (hp : Gd n p) (hq : Gd m q) (h : val p = val q) : p = q := qt_of (by simp (disch := with_unfolding_all
  have h1 : p.1 * q.2 = q.1 * p.2 := by
    have := hp.qne
    have := hq.qne
    unfold val at h
    have e : (p.1 : Rat) * q.2 = q.1 * p.2 := by grind
    rw [← Rat.intCast_mul, ← Rat.intCast_mul] at e
    exact_mod_cast e
  have cp : ∀ {n : Nat} {p : Fr}, Gd n p → Nat.Coprime p.1.natAbs p.2.natAbs := fun {n p} h => by
    have l := h.low
    unfold gI gN at l
    have pos : 0 < Nat.gcd p.1.natAbs p.2.natAbs := Nat.gcd_pos_of_pos_right _ (Int.natAbs_pos.mpr h.ne)
    have : max (Nat.gcd p.1.natAbs p.2.natAbs) 1 = Nat.gcd p.1.natAbs p.2.natAbs := Nat.max_eq_left pos
    show Nat.gcd p.1.natAbs p.2.natAbs = 1
    omega
  have c1 := cp hp
  have c2 := cp hq
  have e : p.1.natAbs * q.2.natAbs = q.1.natAbs * p.2.natAbs := by rw [← Int.natAbs_mul, ← Int.natAbs_mul, h1]
  have d1 : p.2.natAbs ∣ q.2.natAbs := c1.symm.dvd_of_dvd_mul_left (e ▸ Nat.dvd_mul_left _ _)
  have d2 : q.2.natAbs ∣ p.2.natAbs := c2.symm.dvd_of_dvd_mul_left (e ▸ Nat.dvd_mul_left _ _)
  have e2 : p.2.natAbs = q.2.natAbs := Nat.dvd_antisymm d1 d2
  have p1 := hp.pos
  have p2 := hq.pos
  have e3 : p.2 = q.2 := by omega
  rw [e3] at h1
  have e4 : p.1 = q.1 := Int.eq_of_mul_eq_mul_right (Int.ne_of_gt p2) h1
  exact Prod.ext e4 e3
  ) only [↓qt_eq])
/-! ### signs -/
theorem tri (x : Rat) : x < 0 ∨ x = 0 ∨ 0 < x := by grind
def sgnQ (x : Rat) : Int := if 0 < x then 1 else if x < 0 then -1 else 0
theorem sgn_eq (a : Int) : sgn a = if 0 < a then 1 else if a < 0 then -1 else 0 := by
  unfold sgn
  by_cases h1 : 0 < a <;> by_cases h2 : a < 0 <;> simp [h1, h2] <;> omega
theorem sgn_int (a : Int) : sgn a = sgnQ (a : Rat) := qt_of (by simp (disch := with_unfolding_all
  rw [sgn_eq]
  unfold sgnQ
  have e1 : (0 : Rat) < (a : Rat) ↔ 0 < a := Rat.intCast_pos
  have e2 : (a : Rat) < 0 ↔ a < 0 := by
    have := Rat.intCast_lt_intCast (a := a) (b := 0)
    simpa using this
  simp only [e1, e2]
  ) only [↓qt_eq])
theorem sgnQ_mul {k x : Rat} (hk : 0 < k) : sgnQ (k * x) = sgnQ x := qt_of (by simp (disch := with_unfolding_all
  unfold sgnQ
  have e1 : 0 < k * x ↔ 0 < x := by
    constructor
    · intro h
      rcases tri x with z | z | z
      · have := Rat.mul_pos hk (show 0 < -x by grind)
        grind
      · rw [z, Rat.mul_zero] at h; exact absurd h (by decide)
      · exact z
    · exact fun h => Rat.mul_pos hk h
  have e2 : k * x < 0 ↔ x < 0 := by
    constructor
    · intro h
      rcases tri x with z | z | z
      · exact z
      · rw [z, Rat.mul_zero] at h; exact absurd h (by decide)
      · have := Rat.mul_pos hk z
        grind
    · intro h
      have := Rat.mul_pos hk (show 0 < -x by grind)
      grind
  simp only [e1, e2]
  ) only [↓qt_eq])
end U

end
section
namespace U
open PySem PyProof.Rows L2 Evl
local macro_rules | `(tactic| walk_at "ev1") => `(tactic| first
  | exact ev_int | exact ev_bl | exact ev_str | exact ev_non | exact ev_var rfl | exact ea_nil | exact eo_none
  | with_reducible apply ev_ixDisp | with_reducible apply ev_fst | with_reducible apply ev_snd
  | with_reducible apply ev_add | with_reducible apply ev_sub | with_reducible apply ev_mul | with_reducible apply ev_fdiv | with_reducible apply ev_mod | with_reducible apply ev_pow
  | with_reducible apply ev_lt | with_reducible apply ev_le | with_reducible apply ev_gt | with_reducible apply ev_ge
  | with_reducible apply ev_eqI | with_reducible apply ev_neI
  | with_reducible apply ev_neg | with_reducible apply ev_subB | with_reducible apply ev_isNo | with_reducible apply ev_noNo
  | with_reducible apply ev_not | with_reducible apply et_test | with_reducible apply et_B | with_reducible apply et_not
  | with_reducible apply ev_abs | with_reducible apply ev_max | with_reducible apply ev_min | with_reducible apply ev_intB
  | with_reducible apply ev_gcd | with_reducible apply ev_frac | with_reducible apply ev_fadd | with_reducible apply ev_sign | with_reducible apply ev_cmpF
  | with_reducible apply ev_pull rfl
  | with_reducible apply ev_like
  | with_reducible apply ev_tup | with_reducible apply ev_lst | with_reducible apply ea_cons | with_reducible apply eo_some
  | with_reducible apply ev_order | exact ev_part rfl | exact ev_far rfl | exact ev_farPart rfl
  | (with_reducible show List.length _ ≤ 16000000; (simp; done)) | (with_reducible show (0 : Int) < _; decide) | (with_reducible show (_ : Int) < 1000000000000; decide) | (with_reducible show CPow _ _; (unfold CPow; decide)) | (with_reducible show CNz _ _; (unfold CNz; decide))
  | with_reducible apply sg_ret | with_reducible apply sg_asg | with_reducible apply sg_next)
local macro_rules | `(tactic| walk_at "ln") => `(tactic| first | walk_at "ev1" | with_reducible apply sg_seq)

/-! ### rows of fractions -/
abbrev frs (ps : List Fr) : PyData := .tuple (ps.map fr)
def Gds (n : Nat) (ps : List Fr) : Prop := ∀ p ∈ ps, Gd n p
theorem Gds.mono {n m : Nat} {ps : List Fr} (h : Gds n ps) (l : n ≤ m) : Gds m ps := fun p hp => (h p hp).mono l
theorem Gds.two {n : Nat} {p q : Fr} (hp : Gd n p) (hq : Gd n q) : Gds n [p, q] := fun x hx => by
  rcases List.mem_cons.mp hx with rfl | hx
  · exact hp
  · rw [List.mem_singleton.mp hx]; exact hq
theorem Gds.fst {n : Nat} {p q : Fr} (h : Gds n [p, q]) : Gd n p := h p (List.mem_cons_self ..)
theorem Gds.snd {n : Nat} {p q : Fr} (h : Gds n [p, q]) : Gd n q := h q (List.mem_cons_of_mem _ (List.mem_cons_self ..))
section
variable {K : Fg} {cs : Cs} {W : WX} {G : Gam} {s s1 s2 s3 s' : Bag} {ta tb tc te : TE} {x y : PyData} {E : XK}
/-- [elt for target in ..], nothing drawn, by what each turn gives -/
theorem ev_lcI {wi : TI} {g : TG} {vs : List Nat} {ds es : List PyData} (h : Src K wi G s ds s1) (hl : es.length = ds.length) (hu : ∀ i e, i ∈ vs → G[i]? = some e → e = .un) (hz : ds.length ≤ 16000000)
    (hs : ∀ (i : Nat) x y, ds[i]? = some x → es[i]? = some y → ∃ Gt, Tgt K g vs G x Gt ∧ EvG K te Gt s1 y s1) : EvG K (tLc wi g tYes te vs) G s (.list es) s1 := by
  have k := ev_lc (K := K) (te := te) (tt := tYes) h (fun i => es[i]?) (fun _ => s1) rfl hu hz fun i x hx => by
    have il := (List.getElem?_eq_some_iff.mp hx).1
    have hy : es[i]? = some (es[i]'(by omega)) := List.getElem?_eq_getElem _
    obtain ⟨Gt, a, b⟩ := hs i x _ hx hy
    refine ⟨Gt, s1, a, ?_, fun y e => ?_, fun hn => rfl⟩
    · rw [hy]; exact et_yes
    · rw [hy] at e
      cases e
      exact b
  have e := range_fm_map (ds := es) id
  rw [List.map_id, hl] at e
  have e2 : (fun i : Nat => (es[i]?).map id) = fun i : Nat => es[i]? := by funext i; simp
  rw [e2] at e
  rw [e] at k
  exact k
theorem atI_fr {ps : List Fr} {i : Nat} {p : Fr} (h : ps[i]? = some p) : atI (ps.map fr) (i : Int) = some (fr p) := atI_nat (by rw [List.getElem?_map, h]; rfl)
/-! step_from, across, side_of -/
def stepF (ps qs : List Fr) : List Fr := List.zipWith (fun p q => subF q p) ps qs
-- slots of step_from: 0 one, 1 other, 2 first, 3 second
-- slots of across: 0 one, 1 other
-- slots of side_of: 0 start, 1 end, 2 spot
/-! ### the law's own -/
abbrev I3 := Int × Int × Int
abbrev i3 (t : I3) : PyData := .tuple [.int t.1, .int t.2.1, .int t.2.2]
def homF : List Fr → I3
  | [p] => (p.1, 0, p.2)
  | [p, q] => (p.1 * q.2, q.1 * p.2, p.2 * q.2)
  | _ => (0, 0, 0)
def P_hom : List PyData → PyData → Prop := fun ds r => ∃ ps : List Fr, ds = [frs ps] ∧ (ps.length = 1 ∨ ps.length = 2) ∧ (∀ p ∈ ps, Sz 2000 p) ∧ r = i3 (homF ps)
theorem one_of {ps : List Fr} (h : ps.length = 1) : ∃ p, ps = [p] := by
  match ps, h with
  | [p], _ => exact ⟨p, rfl⟩
theorem two_of {ps : List Fr} (h : ps.length = 2) : ∃ p q, ps = [p, q] := by
  match ps, h with
  | [p, q], _ => exact ⟨p, q, rfl⟩
def t__law_hom (K : Fg) : TS := (tSeq (tIfS (tTest (tOp rEq (tCB (rLenQ K) (tCons (tVar 0) tNil)) (tC (V.int 1)))) (tRet (tTup (tCons (tOp (rIx K) (tOp (rIx K) (tVar 0) (tC (V.int 0))) (tC (V.int 0))) (tCons (tC (V.int 0)) (tCons (tOp (rIx K) (tOp (rIx K) (tVar 0) (tC (V.int 0))) (tC (V.int 1))) tNil))))) tNext)
  (tRet (tTup (tCons (tOp (rI CMulW fun i j => V.int (i * j)) (tOp (rIx K) (tOp (rIx K) (tVar 0) (tC (V.int 0))) (tC (V.int 0))) (tOp (rIx K) (tOp (rIx K) (tVar 0) (tC (V.int 1))) (tC (V.int 1)))) (tCons (tOp (rI CMulW fun i j => V.int (i * j)) (tOp (rIx K) (tOp (rIx K) (tVar 0) (tC (V.int 1))) (tC (V.int 0))) (tOp (rIx K) (tOp (rIx K) (tVar 0) (tC (V.int 0))) (tC (V.int 1)))) (tCons (tOp (rI CMulW fun i j => V.int (i * j)) (tOp (rIx K) (tOp (rIx K) (tVar 0) (tC (V.int 0))) (tC (V.int 1))) (tOp (rIx K) (tOp (rIx K) (tVar 0) (tC (V.int 1))) (tC (V.int 1)))) tNil))))))
-- slots of _law_hom: 0 _law_spot_here
theorem ln__law_hom : ∀ ds r, P_hom ds r → ds.length = 1 := fun ds r h => by obtain ⟨_, rfl, _⟩ := h; rfl
theorem rd__law_hom {ds r} (h : P_hom ds r) (b : Bag) : SG K (t__law_hom K) (frame 1 ds) b (.rt r b) := by
  obtain ⟨ps, rfl, hl, hp, rfl⟩ := h
  rcases hl with hl | hl
  · obtain ⟨p, rfl⟩ := one_of hl
    exact sg_seqR (sg_ifT (et_is (et_test (ev_eqI (ev_lenT (ev_var rfl)) ev_int)) rfl) (sg_ret (ev_tup (ea_cons (ev_fst (p := p) (ev_ixT (ev_var rfl) ev_int rfl)) (ea_cons ev_int (ea_cons (ev_snd (p := p) (ev_ixT (ev_var rfl) ev_int rfl)) ea_nil))) (by show 3 ≤ 16000000; decide))))
  · obtain ⟨p, q, rfl⟩ := two_of hl
    have hp1 := hp p (List.mem_cons_self ..)
    have hq1 := hp q (List.mem_cons_of_mem _ (List.mem_cons_self ..))
    exact sg_seq (sg_ifF (et_is (et_test (ev_eqI (ev_lenT (ev_var rfl)) ev_int)) rfl) sg_next) (sg_ret (ev_tup (ea_cons (ev_mul (ev_fst (ev_ixT (ev_var rfl) ev_int rfl)) (ev_snd (ev_ixT (ev_var rfl) ev_int rfl)) (hp1.1.cm hq1.2 (by decide))) (ea_cons (ev_mul (ev_fst (ev_ixT (ev_var rfl) ev_int rfl)) (ev_snd (ev_ixT (ev_var rfl) ev_int rfl)) (hq1.1.cm hp1.2 (by decide))) (ea_cons (ev_mul (ev_snd (ev_ixT (ev_var rfl) ev_int rfl)) (ev_snd (ev_ixT (ev_var rfl) ev_int rfl)) (hp1.2.cm hq1.2 (by decide))) ea_nil))) (by show 3 ≤ 16000000; decide)))
-- slots of _law_det: 0 _law_one, 1 _law_two, 2 _law_three, 3 _law_first, 4 _law_second
-- slots of _law_turn: 0 _law_one, 1 _law_two, 2 _law_three
def alongF (k : Fr) (ps qs : List Fr) : List Fr := List.zipWith (fun p q => addF p (mulF k (subF q p))) ps qs
def P_along : List PyData → PyData → Prop := fun ds r => ∃ (ps qs : List Fr) (k : Fr), ds = [frs ps, frs qs, fr k] ∧ ps.length = qs.length ∧ ps.length ≤ 1000 ∧ Gds 400 ps ∧ Gds 400 qs ∧ Gd 400 k ∧ r = frs (alongF k ps qs)
def t__law_along (K : Fg) : TS := (tSeq (tAsg (tLc (iRng1 (tCons (tCB (rLenQ K) (tCons (tVar 0) tNil)) tNil)) (gName 4) tYes (tCall (spP K P_lsub) [] E0 (tCons (tOp (rIx K) (tVar 1) (tVar 4)) (tCons (tOp (rIx K) (tVar 0) (tVar 4)) tNil))) [4]) (gName 3))
  (tRet (tCB (rTupQ K) (tCons (tLc (iRng1 (tCons (tCB (rLenQ K) (tCons (tVar 0) tNil)) tNil)) (gName 4) tYes (tCall (spP K P_add) [] E0 (tCons (tOp (rIx K) (tVar 0) (tVar 4)) (tCons (tCall (spP K P_lmul) [] E0 (tCons (tVar 2) (tCons (tOp (rIx K) (tVar 3) (tVar 4)) tNil))) tNil))) [4]) tNil))))
-- slots of _law_along: 0 _law_one, 1 _law_two, 2 _law_share, 3 _law_steps, 4 _law_at
theorem ln__law_along : ∀ ds r, P_along ds r → ds.length = 3 := fun ds r h => by obtain ⟨_, _, _, rfl, _⟩ := h; rfl
theorem rng_get {n i : Nat} {x : PyData} (h : (rngD 0 ((n : Int)).toNat)[i]? = some x) : i < n ∧ x = .int (i : Int) := by
  have hi := (List.getElem?_eq_some_iff.mp h).1
  rw [rngD_len, Int.toNat_natCast] at hi
  rw [rngD_get (by rw [Int.toNat_natCast]; exact hi), Int.zero_add] at h
  exact ⟨hi, (Option.some.inj h).symm⟩
theorem rd__law_along {ds r} (h : P_along ds r) (b : Bag) : SG K (t__law_along K) (frame 5 ds) b (.rt r b) := by
  obtain ⟨ps, qs, k, rfl, hl, hn, hp, hq, hk, rfl⟩ := h
  have hlen : (((ps.map fr).length : Int)).toNat = ps.length := by simp
  have src : ∀ {G : Gam}, G[0]? = some (.d (frs ps)) → Src K (iRng1 (tCons (tCB (rLenQ K) (tCons (tVar 0) tNil)) tNil)) G b (rngD 0 (((ps.map fr).length : Int)).toNat) b := fun h => src_rng1 (ea_cons (ev_lenT (ev_var h)) ea_nil) ⟨by rw [List.length_map]; omega, by rw [List.length_map]; omega⟩
  have rg : ∀ {i : Nat} {x : PyData}, (rngD 0 (((ps.map fr).length : Int)).toNat)[i]? = some x → i < ps.length ∧ x = .int (i : Int) := fun h => by
    have := rng_get h
    rw [List.length_map] at this
    exact this
  refine sg_seq (sg_asg (ev_lcI (es := (stepF ps qs).map fr) (src rfl) ?_ (un_at rfl) ?_ fun i x y hx hy => ?_)) (sg_ret (ev_tupL (ev_lcI (es := (alongF k ps qs).map fr) (src rfl) ?_ (un_at rfl) ?_ fun i x y hx hy => ?_)))
  · rw [rngD_len, hlen]; simp [stepF]; omega
  · rw [rngD_len, hlen]; omega
  · obtain ⟨hi, rfl⟩ := rg hx
    have e1 : ps[i]? = some ps[i] := List.getElem?_eq_getElem hi
    have e2 : qs[i]? = some (qs[i]'(by omega)) := List.getElem?_eq_getElem _
    refine ⟨_, tgt_name, ev_is (ev_lsub (ev_ixT (ev_var rfl) (ev_var rfl) (atI_fr e2)) (ev_ixT (ev_var rfl) (ev_var rfl) (atI_fr e1)) ((hq _ (List.mem_of_getElem? e2)).sz.mono (by decide)) ((hp _ (List.mem_of_getElem? e1)).sz.mono (by decide))) ?_⟩
    unfold stepF at hy
    rw [List.getElem?_map, List.getElem?_zipWith, e1, e2] at hy
    exact Option.some.inj hy
  · rw [rngD_len, hlen]; simp [alongF]; omega
  · rw [rngD_len, hlen]; omega
  · obtain ⟨hi, rfl⟩ := rg hx
    have e1 : ps[i]? = some ps[i] := List.getElem?_eq_getElem hi
    have e2 : qs[i]? = some (qs[i]'(by omega)) := List.getElem?_eq_getElem _
    have e3 : (stepF ps qs)[i]? = some (subF (qs[i]'(by omega)) ps[i]) := by unfold stepF; rw [List.getElem?_zipWith, e1, e2]
    have g1 := hp _ (List.mem_of_getElem? e1)
    have g2 := hq _ (List.mem_of_getElem? e2)
    have g3 := g2.sub g1
    refine ⟨_, tgt_name, ev_is (ev_fadd (ev_ixT (ev_var rfl) (ev_var rfl) (atI_fr e1)) (ev_lmul (ev_var rfl) (ev_ixL (ev_var rfl) (ev_var rfl) (atI_fr e3)) (hk.sz.mono (by decide)) (g3.sz.mono (by decide))) (g1.sz.mono (by decide)) ((hk.mul g3).sz.mono (by decide))) ?_⟩
    unfold alongF at hy
    rw [List.getElem?_map, List.getElem?_zipWith, e1, e2] at hy
    exact Option.some.inj hy
end
end U


end
section
namespace U
open PySem PyProof.Rows L2 Evl
local macro_rules | `(tactic| walk_at "ev1") => `(tactic| first
  | exact ev_int | exact ev_bl | exact ev_str | exact ev_non | exact ev_var rfl | exact ea_nil | exact eo_none
  | with_reducible apply ev_ixDisp | with_reducible apply ev_fst | with_reducible apply ev_snd
  | with_reducible apply ev_add | with_reducible apply ev_sub | with_reducible apply ev_mul | with_reducible apply ev_fdiv | with_reducible apply ev_mod | with_reducible apply ev_pow
  | with_reducible apply ev_lt | with_reducible apply ev_le | with_reducible apply ev_gt | with_reducible apply ev_ge
  | with_reducible apply ev_eqI | with_reducible apply ev_neI
  | with_reducible apply ev_neg | with_reducible apply ev_subB | with_reducible apply ev_isNo | with_reducible apply ev_noNo
  | with_reducible apply ev_not | with_reducible apply et_test | with_reducible apply et_B | with_reducible apply et_not
  | with_reducible apply ev_abs | with_reducible apply ev_max | with_reducible apply ev_min | with_reducible apply ev_intB
  | with_reducible apply ev_gcd | with_reducible apply ev_frac | with_reducible apply ev_fadd | with_reducible apply ev_sign | with_reducible apply ev_cmpF
  | with_reducible apply ev_pull rfl
  | with_reducible apply ev_like
  | with_reducible apply ev_tup | with_reducible apply ev_lst | with_reducible apply ea_cons | with_reducible apply eo_some
  | with_reducible apply ev_order | exact ev_part rfl | exact ev_far rfl | exact ev_farPart rfl
  | (with_reducible show List.length _ ≤ 16000000; (simp; done)) | (with_reducible show (0 : Int) < _; decide) | (with_reducible show (_ : Int) < 1000000000000; decide) | (with_reducible show CPow _ _; (unfold CPow; decide)) | (with_reducible show CNz _ _; (unfold CNz; decide))
  | with_reducible apply sg_ret | with_reducible apply sg_asg | with_reducible apply sg_next)
local macro_rules | `(tactic| walk_at "ln") => `(tactic| first | walk_at "ev1" | with_reducible apply sg_seq)

theorem eqv_fr (p q : Fr) : PyData.eqv (fr p) (fr q) = decide (p = q) := qt_of (by simp (disch := with_unfolding_all
  show (p.1 == q.1 && (p.2 == q.2 && true)) = _
  rw [Bool.and_true]
  by_cases h : p = q
  · subst h; simp
  · rw [decide_eq_false h]
    cases h1 : (p.1 == q.1) with
    | false => rfl
    | true =>
      cases h2 : (p.2 == q.2) with
      | false => rfl
      | true => exact absurd (Prod.ext (eq_of_beq h1) (eq_of_beq h2)) h
  ) only [↓qt_eq])
theorem eqv_frs : ∀ ps qs : List Fr, PyData.eqvAll (ps.map fr) (qs.map fr) = decide (ps = qs)
  | [], [] => by simp [PyData.eqvAll]
  | [], q :: qs => by simp [PyData.eqvAll]
  | p :: ps, [] => by simp [PyData.eqvAll]
  | p :: ps, q :: qs => by
    show (PyData.eqv (fr p) (fr q) && PyData.eqvAll (ps.map fr) (qs.map fr)) = _
    rw [eqv_fr, eqv_frs ps qs]
    by_cases h1 : p = q <;> by_cases h2 : ps = qs <;> simp [h1, h2]
section
variable {K : Fg} {cs : Cs} {W : WX} {G : Gam} {s s1 s2 s3 s4 s' : Bag} {ta tb tc td te : TE} {x y : PyData} {E : XK} {E2 : St → XK}
-- slots of gone: 0 spot, 1 step, 2 many, 3 first, 4 second
/-! crossing -/
structure Sp2 where
  x : Fr
  y : Fr
  deriving DecidableEq
abbrev Sp2.l (p : Sp2) : List Fr := [p.x, p.y]
abbrev Sp2.d (p : Sp2) : PyData := frs p.l
abbrev Sp2.g (n : Nat) (p : Sp2) : Prop := Gds n p.l
theorem sp2_eq {p q : Sp2} : p.l = q.l ↔ p = q := by
  constructor
  · intro h
    cases p; cases q
    simp only [Sp2.l, List.cons.injEq, and_true] at h
    obtain ⟨rfl, rfl⟩ := h
    rfl
  · rintro rfl; rfl
-- slots of crossing: 0 start, 1 end, 2 other_start, 3 other_end, 4 step, 5 other_step, 6 span, 7 many
-- slots of told09: 0 _law_one, 1 _law_two, 2 _law_three, 3 _law_four, 4 why
/-! the law's own -/
-- slots of _law_mid: 0 _law_one, 1 _law_two, 2 _law_at
-- slots of _law_lowest: 0 _law_one, 1 _law_number
-- slots of _law_right: 0 _law_found, 1 _law_one, 2 _law_two, 3 _law_three, 4 _law_four, 5 _law_first, 6 _law_second
end
end U


end
section
namespace U
open PySem PyProof.Rows L2 Evl
local macro_rules | `(tactic| walk_at "ev1") => `(tactic| first
  | exact ev_int | exact ev_bl | exact ev_str | exact ev_non | exact ev_var rfl | exact ea_nil | exact eo_none
  | with_reducible apply ev_ixDisp | with_reducible apply ev_fst | with_reducible apply ev_snd
  | with_reducible apply ev_add | with_reducible apply ev_sub | with_reducible apply ev_mul | with_reducible apply ev_fdiv | with_reducible apply ev_mod | with_reducible apply ev_pow
  | with_reducible apply ev_lt | with_reducible apply ev_le | with_reducible apply ev_gt | with_reducible apply ev_ge
  | with_reducible apply ev_eqI | with_reducible apply ev_neI
  | with_reducible apply ev_neg | with_reducible apply ev_subB | with_reducible apply ev_isNo | with_reducible apply ev_noNo
  | with_reducible apply ev_not | with_reducible apply et_test | with_reducible apply et_B | with_reducible apply et_not
  | with_reducible apply ev_abs | with_reducible apply ev_max | with_reducible apply ev_min | with_reducible apply ev_intB
  | with_reducible apply ev_gcd | with_reducible apply ev_frac | with_reducible apply ev_fadd | with_reducible apply ev_sign | with_reducible apply ev_cmpF
  | with_reducible apply ev_pull rfl
  | with_reducible apply ev_like
  | with_reducible apply ev_tup | with_reducible apply ev_lst | with_reducible apply ea_cons | with_reducible apply eo_some
  | with_reducible apply ev_order | exact ev_part rfl | exact ev_far rfl | exact ev_farPart rfl
  | (with_reducible show List.length _ ≤ 16000000; (simp; done)) | (with_reducible show (0 : Int) < _; decide) | (with_reducible show (_ : Int) < 1000000000000; decide) | (with_reducible show CPow _ _; (unfold CPow; decide)) | (with_reducible show CNz _ _; (unfold CNz; decide))
  | with_reducible apply sg_ret | with_reducible apply sg_asg | with_reducible apply sg_next)
local macro_rules | `(tactic| walk_at "ln") => `(tactic| first | walk_at "ev1" | with_reducible apply sg_seq)

/-! ### lists or tuples -/
def itemsOf : PyData → Option (List PyData)
  | .list xs => some xs
  | .tuple xs => some xs
  | _ => none
theorem items_cases {x : PyData} {xs : List PyData} (h : itemsOf x = some xs) : x = .list xs ∨ x = .tuple xs := by
  cases x <;> first | cases h | skip
  · exact .inl rfl
  · exact .inr rfl
section
variable {K : Fg} {cs : Cs} {gs : Gs} {W : WX} {G : Gam} {s s1 s2 s3 s' : Bag} {ta tb tc te : TE} {x y : PyData} {E : XK} {xs : List PyData}
/-! ### maps -/
abbrev mp (m : List (List Fr)) : PyData := .tuple (m.map frs)
-- slots of map_of: 0 rows, 1 row, 2 one
end
end U


end
section
namespace U
open PySem PyProof.Rows L2 Evl
local macro_rules | `(tactic| walk_at "ev1") => `(tactic| first
  | exact ev_int | exact ev_bl | exact ev_str | exact ev_non | exact ev_var rfl | exact ea_nil | exact eo_none
  | with_reducible apply ev_ixDisp | with_reducible apply ev_fst | with_reducible apply ev_snd
  | with_reducible apply ev_add | with_reducible apply ev_sub | with_reducible apply ev_mul | with_reducible apply ev_fdiv | with_reducible apply ev_mod | with_reducible apply ev_pow
  | with_reducible apply ev_lt | with_reducible apply ev_le | with_reducible apply ev_gt | with_reducible apply ev_ge
  | with_reducible apply ev_eqI | with_reducible apply ev_neI
  | with_reducible apply ev_neg | with_reducible apply ev_subB | with_reducible apply ev_isNo | with_reducible apply ev_noNo
  | with_reducible apply ev_not | with_reducible apply et_test | with_reducible apply et_B | with_reducible apply et_not
  | with_reducible apply ev_abs | with_reducible apply ev_max | with_reducible apply ev_min | with_reducible apply ev_intB
  | with_reducible apply ev_gcd | with_reducible apply ev_frac | with_reducible apply ev_fadd | with_reducible apply ev_sign | with_reducible apply ev_cmpF
  | with_reducible apply ev_pull rfl
  | with_reducible apply ev_like
  | with_reducible apply ev_tup | with_reducible apply ev_lst | with_reducible apply ea_cons | with_reducible apply eo_some
  | with_reducible apply ev_order | exact ev_part rfl | exact ev_far rfl | exact ev_farPart rfl
  | (with_reducible show List.length _ ≤ 16000000; (simp; done)) | (with_reducible show (0 : Int) < _; decide) | (with_reducible show (_ : Int) < 1000000000000; decide) | (with_reducible show CPow _ _; (unfold CPow; decide)) | (with_reducible show CNz _ _; (unfold CNz; decide))
  | with_reducible apply sg_ret | with_reducible apply sg_asg | with_reducible apply sg_next)
local macro_rules | `(tactic| walk_at "ln") => `(tactic| first | walk_at "ev1" | with_reducible apply sg_seq)

theorem cutD_to (xs : List PyData) (k : Nat) : cutD xs none (some (k : Int)) = xs.take k := qt_of (by simp (disch := with_unfolding_all
  unfold cutD
  rw [HT.sIx_none, HT.sIx_nat, List.drop_zero, Nat.sub_zero]
  by_cases h : k ≤ xs.length
  · rw [Nat.min_eq_left h]
  · rw [Nat.min_eq_right (by omega), List.take_length, List.take_of_length_le (by omega)]
  ) only [↓qt_eq])
section
variable {K : Fg} {cs : Cs} {gs : Gs} {W : WX} {G : Gam} {s s1 s2 s3 s' : Bag} {ta tb tc te : TE} {x y : PyData} {E : XK} {xs : List PyData}
-- slots of still: 0 room
-- slots of straightened: 0 way, 1 row
/-! ### drawn maps -/
-- slots of _law_whole_part: 0 _law_bag_here
-- slots of _law_entry: 0 _law_bag_here
def drawFr (F : Bag → Fr) (N : Bag → Bag) (n : Nat) (s : Bag) : List Fr := (List.range n).map fun i => F (itB N i s)
theorem drawn_fr (F : Bag → Fr) (N : Bag → Bag) (n : Nat) (s : Bag) : drawn (fun s => fr (F s)) N n s = (drawFr F N n s).map fr := by
  unfold drawn drawFr
  rw [List.map_map]
  rfl
theorem drawFr_gd {k : Nat} {F : Bag → Fr} {N : Bag → Bag} (h : ∀ s, Gd k (F s)) (n : Nat) (s : Bag) : Gds k (drawFr F N n s) := fun p hp => by
  unfold drawFr at hp
  obtain ⟨i, _, rfl⟩ := List.mem_map.mp hp
  exact h _
theorem drawFr_len (F : Bag → Fr) (N : Bag → Bag) (n : Nat) (s : Bag) : (drawFr F N n s).length = n := by simp [drawFr]
theorem itB_ok {N : Bag → Bag} (h : ∀ {s : Bag}, s.ok → (N s).ok) {s : Bag} (hs : s.ok) : ∀ n, (itB N n s).ok
  | 0 => hs
  | n + 1 => h (itB_ok h hs n)
-- slots of _law_map: 0 _law_bag_here, 1 _law_start, 2 _law_goal, 3 _law_row, 4 _law_at
-- slots of told15: 0 _law_rows, 1 why
end
end U


end
section
namespace U
open PySem PyProof.Rows L2 Evl
section
variable {K : Fg} {cs : Cs} {gs : Gs} {W : WX} {G GI G1 : Gam} {s s1 s2 s3 s' : Bag} {ta tb tc te : TE} {x y : PyData} {E : XK} {xs : List PyData}
end
end U


end
section
namespace U.N
open PySem PyProof.Rows L2 Evl
section
variable {K : Fg} {cs : Cs} {W : WX} {G G' G1 G2 : Gam} {ta tb tc te : TE} {t u : TT} {φ : PyData → Prop} {ε : Xw → Prop} {ψ : Bool → Prop} {α : List PyData → Prop} {ι : List PyData → Prop} {χ : Own → Prop} {ω : Option Int → Prop}
variable {Wd : Addr → Prop} {B : Option (Addr × Addr)} {ad : Nat → Addr} {H0 H H1 H2 : Hp} {σ : St}
/-! ### items -/
/-- an item of a list or a tuple -/
theorem ew_ix (h : EW K cs W ta G (fun x => ∃ xs, itemsOf x = some xs ∧ EW K cs W tb G (fun y => ∃ j, y = .int j ∧ ∃ z, atI xs j = some z ∧ φ z) ε) ε) : EW K cs W (tOp (rIx K) ta tb) G φ ε :=
  ew_op (ew_mono h fun x ⟨xs, e, h⟩ => ew_mono h fun y ⟨j, e2, z, hz, p⟩ => fun Wd B ad H0 H σ v w S d1 d2 Q q => by
    subst e2
    cases d2
    rcases items_cases e with rfl | rfl
    · cases d1 with
      | lst g t =>
        obtain ⟨v, g1, g2⟩ := dpa_atI t hz
        exact .inl ⟨_, _, j, v, rfl, rfl, ex_l less_ex g, g1, q _ p _ H S Xb.refl g2⟩
    · cases d1 with
      | tup g t =>
        obtain ⟨v, g1, g2⟩ := dpa_atI t hz
        exact .inr (.inl ⟨_, _, j, v, rfl, rfl, ex_t less_ex g, g1, q _ p _ H S Xb.refl g2⟩))
/-- an item of a list of one's own -/
theorem ew_ixO {xs : List PyData} {i : Nat} (hi : G[i]? = some (.ow (ol xs))) (h : EW K cs W tb G (fun y => ∃ j, y = .int j ∧ ∃ z, atI xs j = some z ∧ φ z) ε) : EW K cs W (tOp (rIx K) (tVar i) tb) G φ ε := fun Wd B ad H0 H σ S Q q x => by
  obtain ⟨o, g1, rfl, _⟩ := S.at_ i _ hi
  refine ⟨_, g1, h Wd B ad H0 H σ S _ (fun y ⟨j, e, z, hz, p⟩ w H2 S2 e2 d2 => ?_) x⟩
  subst e
  cases d2
  obtain ⟨_, _, _, vs, g3, g4⟩ := S2.at_ i _ hi
  have g3 : H2 (ad i) = some (.lst vs) := g3
  have g4 : DpAll K _ vs xs := g4
  obtain ⟨v, g5, g6⟩ := dpa_atI g4 hz
  exact .inl ⟨_, _, j, v, rfl, rfl, sq_of g3, g5, q _ p _ H2 S2 e2 g6⟩
/-! ### tests -/
theorem tw_test (h : EW K cs W te G (fun x => ∃ b, x = .bool b ∧ ψ b) ε) : TW K cs W (tTest te) G ψ ε := fun Wd B ad H0 H σ S Q q x => h Wd B ad H0 H σ S _ (fun y ⟨b, e, p⟩ v H1 S1 e1 d1 => by
  subst e
  cases d1
  exact ⟨b, rfl, q b p H1 S1 e1⟩) x
theorem tw_B (h : EW K cs W te G (fun x => ∃ b, x = .bool b ∧ ψ b) ε) : TW K cs W (tB te) G ψ ε := tw_test h
theorem tw_yes (h : ψ true) : TW K cs W tYes G ψ ε := fun Wd B ad H0 H σ S Q q x => q true h H S Xb.refl
theorem tw_not (h : TW K cs W t G (fun b => ψ (!b)) ε) : TW K cs W (tNot t) G ψ ε := fun Wd B ad H0 H σ S Q q x => h Wd B ad H0 H σ S _ (fun b p => q (!b) p) x
theorem tw_and (h : TW K cs W t G (fun b => Cnd b (TW K cs W u G ψ ε) (ψ false)) ε) : TW K cs W (tAnd t u) G ψ ε := fun Wd B ad H0 H σ S Q q x => h Wd B ad H0 H σ S _ (fun b p H1 S1 e1 => by
  cases b with
  | true => exact iteT (p.1 rfl Wd B ad H0 H1 σ S1 _ (fun b p H2 S2 e2 => q b p H2 S2 (e1.trans e2)) (x.go e1))
  | false => exact iteF (q _ (p.2 rfl) H1 S1 e1)) x
theorem tw_or (h : TW K cs W t G (fun b => Cnd b (ψ true) (TW K cs W u G ψ ε)) ε) : TW K cs W (tOr t u) G ψ ε := fun Wd B ad H0 H σ S Q q x => h Wd B ad H0 H σ S _ (fun b p H1 S1 e1 => by
  cases b with
  | false => exact iteF (p.2 rfl Wd B ad H0 H1 σ S1 _ (fun b p H2 S2 e2 => q b p H2 S2 (e1.trans e2)) (x.go e1))
  | true => exact iteT (q _ (p.1 rfl) H1 S1 e1)) x
theorem ew_andV (h : EW K cs W ta G (fun x => ∃ b, x = .bool b ∧ Cnd b (EW K cs W tb G φ ε) (φ (.bool false))) ε) : EW K cs W (tAndV ta tb) G φ ε := fun Wd B ad H0 H σ S Q q x => h Wd B ad H0 H σ S _ (fun y ⟨b, e, p⟩ v H1 S1 e1 d1 => by
  subst e
  cases d1
  refine ⟨b, rfl, ?_⟩
  cases b with
  | true => exact iteT (p.1 rfl Wd B ad H0 H1 σ S1 _ (fun b p v H2 S2 e2 d2 => q b p v H2 S2 (e1.trans e2) d2) (x.go e1))
  | false => exact iteF (q _ (p.2 rfl) _ H1 S1 e1 (.bl _))) x
theorem ew_orV (h : EW K cs W ta G (fun x => ∃ b, x = .bool b ∧ Cnd b (φ (.bool true)) (EW K cs W tb G φ ε)) ε) : EW K cs W (tOrV ta tb) G φ ε := fun Wd B ad H0 H σ S Q q x => h Wd B ad H0 H σ S _ (fun y ⟨b, e, p⟩ v H1 S1 e1 d1 => by
  subst e
  cases d1
  refine ⟨b, rfl, ?_⟩
  cases b with
  | false => exact iteF (p.2 rfl Wd B ad H0 H1 σ S1 _ (fun b p v H2 S2 e2 d2 => q b p v H2 S2 (e1.trans e2) d2) (x.go e1))
  | true => exact iteT (q _ (p.1 rfl) _ H1 S1 e1 (.bl _))) x
theorem ew_notV (h : EW K cs W ta G (fun x => ∃ b, x = .bool b ∧ φ (.bool (!b))) ε) : EW K cs W (tNotV ta) G φ ε := fun Wd B ad H0 H σ S Q q x => h Wd B ad H0 H σ S _ (fun y ⟨b, e, p⟩ v H1 S1 e1 d1 => by
  subst e
  cases d1
  exact ⟨b, rfl, q _ p _ H1 S1 e1 (.bl _)⟩) x
/-! ### promises -/
inductive Rs where
  | ok (x : PyData)
  | fl (c : Own)
  | er (e : Xw)
abbrev Pr := List PyData → (Rs → Prop) → Prop
def okRs (H : Hp) (K : Fg) (Wd : Addr → Prop) (Q : VK) (A : Rs → Prop) : Prop :=
  (∀ x, A (.ok x) → ∀ v H', Ex H H' → Dp K (less H' Wd) v x → Q v H') ∧
  (∀ c, A (.fl c) → ∀ a vs H', Ex H H' → H a = none → H' a = some (c.obj a vs) → DpAll K (less H' fun b => Wd b ∨ b = a) vs c.flat → Q (.ref a) H')
/-- what is wanted of an answer of the first layer -/
def rX (φ : PyData → Prop) (ε : Xw → Prop) : Except Xw PyData → Prop
  | .ok x => φ x
  | .error e => ε e
/-- a def that never raises -/
def spW0 (K : Fg) (P : Pr) : Sp := fun vs H Q _ => ∃ (Wd : Addr → Prop) (ds : List PyData) (A : Rs → Prop), (∀ a, Wd a → ∃ o, H a = some o) ∧ DpAll K (less H Wd) vs ds ∧ P ds A ∧ okRs H K Wd Q A
/-- a def that may raise -/
def spW (K : Fg) (cs : Cs) (P : Pr) : Sp := fun vs H Q E => ∃ (Wd : Addr → Prop) (ds : List PyData) (A : Rs → Prop), (∀ a, Wd a → ∃ o, H a = some o) ∧ DpAll K (less H Wd) vs ds ∧ P ds A ∧ okRs H K Wd Q A ∧
  ∀ e, A (.er e) → ∀ d H', Ex H H' → H d = none → H' d = some (.xd e.fs) → E (.ref (cs e.cls)) (some d) H'
/-- a def that draws, the bag its first argument -/
def spWB (K : Fg) (P : Pr) : Sp := fun vs H Q _ => ∃ (Wd : Addr → Prop) (b c : Addr) (us : List V) (ds : List PyData) (A : Rs → Prop), (∀ a, Wd a → ∃ o, H a = some o) ∧ vs = .ref b :: us ∧ BagOk H (some (b, c)) ∧
  DpAll K (less H fun a => Wd a ∨ InB (some (b, c)) a) us ds ∧ P ds A ∧
  (∀ x, A (.ok x) → ∀ v H', Xb (some (b, c)) H H' → BagOk H' (some (b, c)) → Dp K (less H' fun a => Wd a ∨ InB (some (b, c)) a) v x → Q v H') ∧
  (∀ l, A (.fl l) → ∀ a vs H', Xb (some (b, c)) H H' → BagOk H' (some (b, c)) → H a = none → H' a = some (l.obj a vs) → DpAll K (less H' fun b' => (Wd b' ∨ InB (some (b, c)) b') ∨ b' = a) vs l.flat → Q (.ref a) H')
/-- what is wanted of a call's answer -/
def rE (φ : PyData → Prop) (ε : Xw → Prop) : Rs → Prop
  | .ok x => φ x
  | .fl c => ∃ xs, c = ol xs ∧ φ (.list xs)
  | .er e => ε e
def rF (χ : Own → Prop) (ε : Xw → Prop) : Rs → Prop
  | .ok _ => False
  | .fl c => χ c
  | .er e => ε e
theorem fl_upd {a : Addr} {o : HO} (h : H a = some o) : upd (less H fun b => b = a) a o = H := by
  funext b
  by_cases e : b = a
  · rw [e, upd_same, h]
  · rw [upd_ne e]; exact less_no (Z := fun b => b = a) e
theorem less_less {Z Z' : Addr → Prop} : less (less H Z) Z' = less H fun b => Z b ∨ Z' b := qt_of (by simp (disch := with_unfolding_all
  funext b
  by_cases z' : Z' b
  · rw [less_yes z', less_yes (.inr z')]
  · rw [less_no z']
    by_cases z : Z b
    · rw [less_yes z, less_yes (.inl z)]
    · rw [less_no z, less_no (fun h => h.elim z z')]
  ) only [↓qt_eq])
/-- the answer of a call, a new thing: what stood before stands without it -/
theorem fl_go {a : Addr} {o : HO} (S : Sta K Wd B ad H0 H σ G) (e : Xb B H H2) (b : BagOk H2 B) (hn : H a = none) (ho : H2 a = some o) : Sta K Wd B ad H0 (less H2 fun b => b = a) σ G ∧ Xb B H (less H2 fun b => b = a) ∧ (less H2 fun b => b = a) a = none ∧ (less (less H2 fun b => b = a) (Zs Wd B ad G)) = less H2 (fun b => Zs Wd B ad G b ∨ b = a) := qt_of (by simp (disch := with_unfolding_all
  have x : Xb B H (less H2 fun b => b = a) := fun p u h n => less_of (fun z => by rw [z, hn] at h; cases h) (e p u h n)
  have nb : ¬ InB B a := (S.fresh hn).2.1
  refine ⟨S.drawn x (b.xb fun p z => less_no fun e => nb (e ▸ z)), x, less_yes rfl, ?_⟩
  rw [less_less]
  exact congrArg (less H2) (funext fun b => propext Or.comm)
  ) only [↓qt_eq])
theorem ew_callP {P : List PyData → PyData → Prop} {ta : TA} {dvs : List V} {des : List PyData} {E : XK} (hd : ∀ H, DpAll K H dvs des) (h : AW K cs W ta G (fun ds => ∃ r, P (ds ++ des) r ∧ φ r) ε) : EW K cs W (tCall (spP K P) dvs E ta) G φ ε := fun Wd B ad H0 H σ S Q q x =>
  h Wd B ad H0 H σ S _ (fun ds ⟨r, hp, p⟩ vs H1 S1 e1 d1 => ⟨Zs Wd B ad G, ds ++ des, r, S1.there, dpa_app d1 (hd _), hp, fun v H' e d => q r p v H' (S1.ext e) (e1.trans (.of e)) d⟩) x
theorem bag_zl {b c : Addr} (H : Hp) : (less H fun a => (Wd a ∨ ∃ i c, G[i]? = some (En.ow c) ∧ a = ad i) ∨ InB (some (b, c)) a) = less H (Zs Wd (some (b, c)) ad G) := congrArg (less H) (funext fun a => propext or_assoc)
theorem ew_callB {P : Bag → List PyData → PyData → Bag → Prop} {tr : TA} {i : Nat} {E : XK} (hi : G[i]? = some .bag) (h : AW K cs W tr G (fun ds => ∀ s : Bag, s.ok → ∃ r s', P s ds r s' ∧ s'.ok ∧ φ r) ε) : EW K cs W (tCall (spB K P) [] E (tCons (tVar i) tr)) G φ ε := fun Wd B ad H0 H σ S Q q x => by
  obtain ⟨o, g1, b, c, rfl, rfl⟩ := S.at_ i _ hi
  refine ⟨_, g1, h Wd _ ad H0 H σ S _ (fun ds hp vs H1 S1 e1 d1 => ?_) x⟩
  obtain ⟨s, ok, hb⟩ := S1.bag
  obtain ⟨r, s', hp, ok', p⟩ := hp s ok
  refine ⟨fun a => Wd a ∨ ∃ i c, G[i]? = some (En.ow c) ∧ a = ad i, b, c, vs, s, ds, r, s', fun a z => S1.there a (or_assoc.mp (.inl z)), ?_, hb, ?_, hp, fun v H' e hb d => ?_⟩
  · rw [List.append_nil]
  · rw [bag_zl]; exact d1
  · rw [bag_zl] at d
    exact q r p v H' (S1.drawn e ⟨s', ok', hb⟩) (e1.trans e) d
section
variable {P : Pr} {ta : TA} {dvs : List V} {des : List PyData} {E : XK}
theorem ew_call0 (hd : ∀ H, DpAll K H dvs des) (h : AW K cs W ta G (fun ds => P (ds ++ des) (rE φ fun _ => False)) ε) : EW K cs W (tCall (spW0 K P) dvs E ta) G φ ε := fun Wd B ad H0 H σ S Q q x =>
  h Wd B ad H0 H σ S _ (fun ds hp vs H1 S1 e1 d1 => ⟨Zs Wd B ad G, ds ++ des, _, S1.there, dpa_app d1 (hd _), hp, fun y p v H' e d => q y p v H' (S1.ext e) (e1.trans (.of e)) d, fun c p a us H' e hn ho d => by
    obtain ⟨xs, rfl, p⟩ := p
    have S2 := S1.ext e
    refine q _ p _ H' S2 (e1.trans (.of e)) (.lst (sq_of (less_of (S1.fresh hn).2.2 ho)) (dpa_mono (less_sub fun b z => .inl z) d))⟩) x
theorem ew_callW (hd : ∀ H, DpAll K H dvs des) (h : AW K cs W ta G (fun ds => P (ds ++ des) (rE φ ε)) ε) : EW K cs W (tCallSD (spW K cs P) dvs (WE W) ta) G φ ε := fun Wd B ad H0 H σ S Q q x =>
  h Wd B ad H0 H σ S _ (fun ds hp vs H1 S1 e1 d1 => ⟨Zs Wd B ad G, ds ++ des, _, S1.there, dpa_app d1 (hd _), hp, ⟨fun y p v H' e d => q y p v H' (S1.ext e) (e1.trans (.of e)) d, fun c p a us H' e hn ho d => by
    obtain ⟨xs, rfl, p⟩ := p
    have S2 := S1.ext e
    refine q _ p _ H' S2 (e1.trans (.of e)) (.lst (sq_of (less_of (S1.fresh hn).2.2 ho)) (dpa_mono (less_sub fun b z => .inl z) d))⟩, fun e p d H' e2 hn hx => x e p d H' (S1.ext e2) (e1.trans (.of e2)) (S1.fresh hn).1 (less_of (S1.fresh hn).2.2 hx)⟩) x
theorem ef_callWB {i : Nat} {tr : TA} (hi : G[i]? = some .bag) (h : AW K cs W tr G (fun ds => P ds (rF χ fun _ => False)) ε) : EF K cs W (tCall (spWB K P) [] E (tCons (tVar i) tr)) G χ ε := fun Wd B ad H0 H σ S Q q x => by
  obtain ⟨o, g1, b, c, rfl, rfl⟩ := S.at_ i _ hi
  refine ⟨_, g1, h Wd _ ad H0 H σ S _ (fun ds hp vs H1 S1 e1 d1 => ?_) x⟩
  refine ⟨fun a => Wd a ∨ ∃ i c, G[i]? = some (En.ow c) ∧ a = ad i, b, c, vs, ds, _, fun a z => S1.there a (or_assoc.mp (.inl z)), by rw [List.append_nil], S1.bag, by rw [bag_zl]; exact d1, hp, fun y p => p.elim, fun l p a us H' e hb hn ho d => ?_⟩
  obtain ⟨S2, e2, hn2, hl⟩ := fl_go S1 e hb hn ho
  have k := q l p a us _ S2 (e1.trans e2) hn2 (by rw [hl]; exact dpa_mono (less_sub fun b z => z.elim (fun z => .inl (or_assoc.mpr z)) .inr) d)
  rw [fl_upd ho] at k
  exact k
end
/-! ### built-ins -/
theorem ew_cb {r : List V → Hp → VK → Prop} {ta : TA} (h : AW K cs W ta G (fun xs => ∀ Wd B ad H0 H σ vs, Sta K Wd B ad H0 H σ G → DpAll K (less H (Zs Wd B ad G)) vs xs → ∀ Q : VK, (∀ z, φ z → ∀ v H2, Sta K Wd B ad H0 H2 σ G → Xb B H H2 → Dp K (less H2 (Zs Wd B ad G)) v z → Q v H2) → r vs H Q) ε) : EW K cs W (tCB r ta) G φ ε := fun Wd B ad H0 H σ S Q q x =>
  h Wd B ad H0 H σ S _ (fun xs p vs H1 S1 e1 d1 => p Wd B ad H0 H1 σ vs S1 d1 Q fun z p v H2 S2 e2 d2 => q z p v H2 S2 (e1.trans e2) d2) x
theorem ef_cb {r : List V → Hp → VK → Prop} {ta : TA} (h : AW K cs W ta G (fun xs => ∀ Wd B ad H0 H σ vs, Sta K Wd B ad H0 H σ G → DpAll K (less H (Zs Wd B ad G)) vs xs → ∀ Q : VK, (∀ c, χ c → ∀ a vs H2, Sta K Wd B ad H0 H2 σ G → Xb B H H2 → H2 a = none → DpAll K (less H2 (Zs Wd B ad G)) vs c.flat → Q (.ref a) (upd H2 a (c.obj a vs))) → r vs H Q) ε) : EF K cs W (tCB r ta) G χ ε := fun Wd B ad H0 H σ S Q q x =>
  h Wd B ad H0 H σ S _ (fun xs p vs H1 S1 e1 d1 => p Wd B ad H0 H1 σ vs S1 d1 Q fun c p a us H2 S2 e2 hn d2 => q c p a us H2 S2 (e1.trans e2) hn d2) x
theorem ew_len {ta : TA} (h : AW K cs W ta G (fun xs => ∃ x ys, xs = [x] ∧ itemsOf x = some ys ∧ φ (.int ys.length)) ε) : EW K cs W (tCB (rLenQ K) ta) G φ ε := ew_cb (aw_mono h fun xs ⟨x, ys, e, hx, p⟩ Wd B ad H0 H σ vs S d Q q => by
  subst e
  obtain ⟨v, rfl, d1⟩ := dp1 d
  rcases items_cases hx with rfl | rfl
  · cases d1 with
    | lst g t => exact ⟨_, _, rfl, .inl (ex_l less_ex g), by rw [dpa_len t]; exact q _ p _ H S Xb.refl (.int _)⟩
  · cases d1 with
    | tup g t => exact ⟨_, _, rfl, .inr (ex_t less_ex g), by rw [dpa_len t]; exact q _ p _ H S Xb.refl (.int _)⟩)
theorem ef_list {ta : TA} (h : AW K cs W ta G (fun xs => ∃ x ys, xs = [x] ∧ itemsOf x = some ys ∧ χ (ol ys)) ε) : EF K cs W (tCB (rListQ K) ta) G χ ε := ef_cb (aw_mono h fun xs ⟨x, ys, e, hx, p⟩ Wd B ad H0 H σ vs S d Q q => by
  subst e
  obtain ⟨v, rfl, d1⟩ := dp1 d
  rcases items_cases hx with rfl | rfl
  · cases d1 with
    | lst g t => exact ⟨_, _, rfl, .inl (ex_l less_ex g), fun l hl => q _ p l _ H S Xb.refl hl t⟩
  · cases d1 with
    | tup g t => exact ⟨_, _, rfl, .inr (ex_t less_ex g), fun l hl => q _ p l _ H S Xb.refl hl t⟩)
theorem ew_list {ta : TA} (h : AW K cs W ta G (fun xs => ∃ x ys, xs = [x] ∧ itemsOf x = some ys ∧ φ (.list ys)) ε) : EW K cs W (tCB (rListQ K) ta) G φ ε := ew_ef (ef_list (aw_mono h fun xs ⟨x, ys, e, hx, p⟩ => ⟨x, ys, e, hx, ys, rfl, p⟩))
theorem new_tupW {vs : List V} {xs : List PyData} (S : Sta K Wd B ad H0 H σ G) (d : DpAll K (less H (Zs Wd B ad G)) vs xs) {l : Addr} (hl : H l = none) {Q : VK} (p : φ (.tuple xs))
    (q : ∀ z, φ z → ∀ v H2, Sta K Wd B ad H0 H2 σ G → Xb B H H2 → Dp K (less H2 (Zs Wd B ad G)) v z → Q v H2) : Q (.ref l) (upd H l (.tup vs)) := by
  obtain ⟨S2, e2, g⟩ := new_ex (o := .tup vs) S hl
  exact q _ p _ _ S2 e2 (.tup (st_of g) (dpa_mono (Xb.lz e2) d))
theorem ew_tuple {ta : TA} (h : AW K cs W ta G (fun xs => ∃ x ys, xs = [x] ∧ itemsOf x = some ys ∧ φ (.tuple ys)) ε) : EW K cs W (tCB (rTupQ K) ta) G φ ε := ew_cb (aw_mono h fun xs ⟨x, ys, e, hx, p⟩ Wd B ad H0 H σ vs S d Q q => by
  subst e
  obtain ⟨v, rfl, d1⟩ := dp1 d
  rcases items_cases hx with rfl | rfl
  · cases d1 with
    | lst g t => exact ⟨_, _, rfl, .inl ⟨ex_l less_ex g, fun l hl => new_tupW S t hl p q⟩⟩
  · cases d1 with
    | tup g t => exact ⟨_, _, rfl, .inr ⟨ex_t less_ex g, q _ p _ H S Xb.refl (.tup g t)⟩⟩)
def AllB (xs : List PyData) (b : Bool) : Prop := ∃ bs : List Bool, xs = [.list (bs.map PyData.bool)] ∧ b = bs.all id
theorem ew_all {ta : TA} (h : AW K cs W ta G (fun xs => ∃ b, AllB xs b ∧ φ (.bool b)) ε) : EW K cs W (tCB (rAll K) ta) G φ ε := ew_cb (aw_mono h fun xs ⟨b, ⟨bs, e, eb⟩, p⟩ Wd B ad H0 H σ vs S d Q q => by
  subst e
  subst eb
  obtain ⟨v, rfl, d1⟩ := dp1 d
  cases d1 with
  | lst g t =>
    have e := dpa_bools t
    subst e
    exact ⟨_, bs, rfl, ex_l less_ex g, q _ p _ H S Xb.refl (.bl _)⟩)
theorem ew_isi {n : String} (h : EW K cs W ta G (fun x => ∃ b, kitB (tyN x) n = some b ∧ φ (.bool b)) ε) : EW K cs W (tCB (rIsi K) (tCons ta (tCons (tC (.ty n)) tNil))) G φ ε := fun Wd B ad H0 H σ S Q q x =>
  h Wd B ad H0 H σ S _ (fun y ⟨b, hb, p⟩ v H1 S1 e1 d1 => ⟨v, .ty n, _, _, b, rfl, .ty n, dp_ty d1, kit_ty hb, q _ p _ H1 S1 e1 (.bl _)⟩) x
/-! ### slices, joins -/
theorem ow_none (p : ω none) : OW K cs W tNoPart G ω ε := fun Wd B ad H0 H σ S Q q _ => q _ p H S Xb.refl
theorem ow_some (h : EW K cs W te G (fun x => ∃ i, x = .int i ∧ ω (some i)) ε) : OW K cs W (tPart te) G ω ε := fun Wd B ad H0 H σ S Q q x => h Wd B ad H0 H σ S _ (fun y ⟨i, e, p⟩ v H1 S1 e1 d1 => by
  subst e
  cases d1
  exact ⟨i, rfl, q _ p H1 S1 e1⟩) x
theorem ef_slL {tl th : TO} (h : EW K cs W te G (fun x => ∃ xs, x = .list xs ∧ OW K cs W tl G (fun lo => OW K cs W th G (fun hi => χ (ol (cutD xs lo hi))) ε) ε) ε) : EF K cs W (tSl (rSlL K) te tl th) G χ ε := fun Wd B ad H0 H σ S Q q x =>
  h Wd B ad H0 H σ S _ (fun y ⟨xs, e, p⟩ v H1 S1 e1 d1 => p Wd B ad H0 H1 σ S1 _ (fun lo p H2 S2 e2 => p Wd B ad H0 H2 σ S2 _ (fun hi p H3 S3 e3 => by
    subst e
    cases dp_mono (Xb.lz (e2.trans e3)) d1 with
    | lst g t => exact ⟨_, _, rfl, ex_l less_ex g, fun l hl => q _ p l _ H3 S3 (e1.trans (e2.trans e3)) hl (dpa_cut t lo hi)⟩) ((x.go e1).go e2)) (x.go e1)) x
theorem ew_slL {tl th : TO} (h : EW K cs W te G (fun x => ∃ xs, x = .list xs ∧ OW K cs W tl G (fun lo => OW K cs W th G (fun hi => φ (.list (cutD xs lo hi))) ε) ε) ε) : EW K cs W (tSl (rSlL K) te tl th) G φ ε :=
  ew_ef (ef_slL (ew_mono h fun x ⟨xs, e, p⟩ => ⟨xs, e, fun Wd B ad H0 H σ S Q q x => p Wd B ad H0 H σ S Q (fun lo p => q lo (fun Wd B ad H0 H σ S Q q x => p Wd B ad H0 H σ S Q (fun hi p => q hi ⟨_, rfl, p⟩) x)) x⟩))
theorem ew_slA {tl th : TO} (h : EW K cs W te G (fun x => ∃ xs, x = .tuple xs ∧ OW K cs W tl G (fun lo => OW K cs W th G (fun hi => φ (.tuple (cutD xs lo hi))) ε) ε) ε) : EW K cs W (tSl (rSlA K) te tl th) G φ ε := fun Wd B ad H0 H σ S Q q x =>
  h Wd B ad H0 H σ S _ (fun y ⟨xs, e, p⟩ v H1 S1 e1 d1 => p Wd B ad H0 H1 σ S1 _ (fun lo p H2 S2 e2 => p Wd B ad H0 H2 σ S2 _ (fun hi p H3 S3 e3 => by
    subst e
    cases dp_mono (Xb.lz (e2.trans e3)) d1 with
    | tup g t =>
      have l := dpa_len t
      refine ⟨_, _, rfl, ex_t less_ex g, fun z => ?_, fun z l hl => new_tupW S3 (dpa_cut t lo hi) hl p fun z p v H4 S4 e4 d4 => q z p v H4 S4 ((e1.trans (e2.trans e3)).trans e4) d4⟩
      rw [l] at z
      exact q _ p _ H3 S3 (e1.trans (e2.trans e3)) (by rw [cutD_whole z]; exact .tup g t)) ((x.go e1).go e2)) (x.go e1)) x
theorem ef_catL (h : EW K cs W ta G (fun x => ∃ xs, x = .list xs ∧ EW K cs W tb G (fun y => ∃ ys, y = .list ys ∧ xs.length + ys.length ≤ 16000000 ∧ χ (ol (xs ++ ys))) ε) ε) : EF K cs W (tOp (rCatL K) ta tb) G χ ε := fun Wd B ad H0 H σ S Q q x =>
  h Wd B ad H0 H σ S _ (fun y ⟨xs, e, p⟩ v H1 S1 e1 d1 => p Wd B ad H0 H1 σ S1 _ (fun y ⟨ys, e', hl, p⟩ w H2 S2 e2 d2 => by
    subst e; subst e'
    cases dp_mono (Xb.lz e2) d1 with
    | lst g t =>
      cases d2 with
      | lst g2 t2 =>
        exact ⟨_, _, _, _, rfl, rfl, ex_l less_ex g, ex_l less_ex g2, by rw [dpa_len t, dpa_len t2]; exact sz_line hl, fun l hn => q _ p l _ H2 S2 (e1.trans e2) hn (dpa_app t t2)⟩) (x.go e1)) x
theorem ew_catL (h : EW K cs W ta G (fun x => ∃ xs, x = .list xs ∧ EW K cs W tb G (fun y => ∃ ys, y = .list ys ∧ xs.length + ys.length ≤ 16000000 ∧ φ (.list (xs ++ ys))) ε) ε) : EW K cs W (tOp (rCatL K) ta tb) G φ ε :=
  ew_ef (ef_catL (ew_mono h fun x ⟨xs, e, p⟩ => ⟨xs, e, ew_mono p fun y ⟨ys, e, hl, p⟩ => ⟨ys, e, hl, _, rfl, p⟩⟩))
/-! ### in, of whole numbers -/
end
end U.N

end
section
namespace U.N
open PySem PyProof.Rows L2 Evl
/-! ### statements -/
def sq (K : Fg) (cs : Cs) (W : WX) (tz : TS) (Φ : Out → Prop) : Out → Prop
  | .nx G => SW K cs W tz G Φ
  | .rt x => Φ (.rt x)
  | .rl c => Φ (.rl c)
  | .bk G => Φ (.bk G)
  | .ct G => Φ (.ct G)
  | .ex e G => Φ (.ex e G)
/-- what a turn of a loop may end with -/
def lp (I : Gam → Prop) (Φ : Out → Prop) : Out → Prop
  | .nx G => I G
  | .ct G => I G
  | .bk G => Φ (.nx G)
  | .rt x => Φ (.rt x)
  | .rl c => Φ (.rl c)
  | .ex e G => Φ (.ex e G)
section
variable {K : Fg} {cs : Cs} {W : WX} {G G' G1 G2 : Gam} {ta tb tc te : TE} {t u : TT} {tu tw tz : TS} {φ : PyData → Prop} {ε : Xw → Prop} {ψ : Bool → Prop} {α : List PyData → Prop} {ι : List PyData → Prop} {χ : Own → Prop} {Φ Ψ : Out → Prop}
variable {Wd : Addr → Prop} {B : Option (Addr × Addr)} {ad : Nat → Addr} {H0 H H1 H2 : Hp} {σ : St}
theorem PostO.mono {M M' : Hp} {D : Ends} {o : Out} (e : Ex M M') (h : PostO K cs W Wd B H0 M D o) : PostO K cs W Wd B H0 M' D o := qt_of (by simp (disch := with_unfolding_all
  cases o with
  | nx G => exact fun ad H σ S x => h ad H σ S (e.trans x)
  | rt x => exact h
  | rl c => exact h
  | bk G => exact fun ad H σ S x => h ad H σ S (e.trans x)
  | ct G => exact fun ad H σ S x => h ad H σ S (e.trans x)
  | ex e' G => exact fun d ad H σ S x => h d ad H σ S (e.trans x)
  ) only [↓qt_eq])
theorem post_xp {D : Ends} (q : ∀ o, Φ o → PostO K cs W Wd B H0 (less H (Zs Wd B ad G)) D o) : XP K cs W Wd B ad H0 H σ G (fun e => Φ (.ex e G)) := fun e he d H2 S x hd hx => q _ he d ad H2 σ S (Xb.lz x) hd hx
theorem sw_mono (h : SW K cs W tu G Φ) (m : ∀ o, Φ o → Ψ o) : SW K cs W tu G Ψ := fun Wd B ad H0 H σ D S q => h Wd B ad H0 H σ D S fun o p => q o (m o p)
theorem sw_seq (h : SW K cs W tu G (sq K cs W tz Φ)) : SW K cs W (tSeq tu tz) G Φ := fun Wd B ad H0 H σ D S q =>
  h Wd B ad H0 H σ { D with nx := tz D } S fun o p => by
    cases o with
    | nx G1 => exact fun ad' H' σ' S' e => p Wd B ad' H0 H' σ' D S' fun o p => (q o p).mono e
    | rt x => exact q _ p
    | rl c => exact q _ p
    | bk G => exact q _ p
    | ct G => exact q _ p
    | ex e G => exact q _ p
theorem sq_nx (h : SW K cs W tz G Φ) : sq K cs W tz Φ (.nx G) := h
theorem sq_rt {x : PyData} (h : Φ (.rt x)) : sq K cs W tz Φ (.rt x) := h
theorem lp_nx {I : Gam → Prop} (h : I G) : lp I Φ (.nx G) := h
theorem sw_next (h : Φ (.nx G)) : SW K cs W tNext G Φ := fun Wd B ad H0 H σ D S q => q _ h ad H σ S (Ex.refl _)
theorem sw_asg {i : Nat} (h : EW K cs W te G (fun x => Φ (.nx (G.set i (.d x)))) (fun e => Φ (.ex e G))) : SW K cs W (tAsg te (gName i)) G Φ := fun Wd B ad H0 H σ D S q =>
  h Wd B ad H0 H σ S _ (fun x p v H1 S1 e1 d1 => q _ p ad H1 _ (S1.setD d1) ((Xb.lz e1).trans (less_sub fun a z => Zs.set_of (fun _ z => by cases z) z))) (post_xp q)
/-- a new thing of one's own -/
theorem sw_asgF {i : Nat} (h : EF K cs W te G (fun c => Φ (.nx (G.set i (.ow c)))) (fun e => Φ (.ex e G))) : SW K cs W (tAsg te (gName i)) G Φ := fun Wd B ad H0 H σ D S q =>
  h Wd B ad H0 H σ S _ (fun c p a vs H1 S1 e1 hn d => q _ p _ _ _ (S1.setOwn (i := i) hn d) ((Xb.lz e1).trans (own_ex hn))) (post_xp q)
theorem sw_ret (h : EW K cs W te G (fun x => Φ (.rt x)) (fun e => Φ (.ex e G))) : SW K cs W (tRet te) G Φ := fun Wd B ad H0 H σ D S q =>
  h Wd B ad H0 H σ S _ (fun x p v H1 S1 e1 d1 => q _ p v H1 S1.base S1.bag (dp_mono (less_sub fun a z => z.elim .inl fun z => .inr (.inr z)) d1)) (post_xp q)
/-- a new list is told -/
theorem sw_retF (h : EF K cs W te G (fun c => Φ (.rl c)) (fun e => Φ (.ex e G))) : SW K cs W (tRet te) G Φ := fun Wd B ad H0 H σ D S q =>
  h Wd B ad H0 H σ S _ (fun c p a vs H1 S1 e1 hn d => by
    obtain ⟨S2, e2, g⟩ := new_ex (o := c.obj a vs) S1 hn
    refine q _ p a vs _ S2.base S2.bag (S1.fresh hn).1 upd_same (dpa_mono ?_ d)
    intro b o hb
    obtain ⟨z, hb⟩ := less_some hb
    refine less_of (fun y => ?_) (e2 _ _ hb fun y => z (.inr (.inr y)))
    rcases y with (y | y) | y
    · exact z (.inl y)
    · exact z (.inr (.inr y))
    · rw [y, hn] at hb; cases hb) (post_xp q)
/-- a thing of one's own is told -/
theorem sw_retO {i : Nat} {c : Own} (hi : G[i]? = some (.ow c)) (h : Φ (.rl c)) : SW K cs W (tRet (tVar i)) G Φ := fun Wd B ad H0 H σ D S q => by
  obtain ⟨o, g1, rfl, vs, g3, g4⟩ := S.at_ i _ hi
  refine ⟨_, g1, q _ h _ vs H S.base S.bag (S.sep i c hi).1 g3 (dpa_mono (less_sub fun b z => ?_) g4)⟩
  rcases z with (z | z) | z
  · exact .inl z
  · exact .inr (.inr z)
  · exact .inr (.inl ⟨i, c, hi, z⟩)
theorem sw_if (h : TW K cs W t G (fun b => Cnd b (SW K cs W tu G Φ) (SW K cs W tw G Φ)) (fun e => Φ (.ex e G))) : SW K cs W (tIfS t tu tw) G Φ := fun Wd B ad H0 H σ D S q =>
  h Wd B ad H0 H σ S _ (fun b p H1 S1 e1 => by
    cases b with
    | true => exact iteT (p.1 rfl Wd B ad H0 H1 σ D S1 fun o p => (q o p).mono (Xb.lz e1))
    | false => exact iteF (p.2 rfl Wd B ad H0 H1 σ D S1 fun o p => (q o p).mono (Xb.lz e1))) (post_xp q)
/-- x, y = a, b -/
theorem sw_par {i j : Nat} {ta : TA} (h : AW K cs W ta G (fun xs => ∃ x y, xs = [x, y] ∧ Φ (.nx ((G.set i (.d x)).set j (.d y)))) (fun e => Φ (.ex e G))) : SW K cs W (tPar i j ta) G Φ := fun Wd B ad H0 H σ D S q =>
  h Wd B ad H0 H σ S _ (fun xs ⟨x, y, e, p⟩ vs H1 S1 e1 d1 => by
    subst e
    obtain ⟨v, w, rfl, d, d2⟩ := dp2 d1
    have e2 : Ex (less H1 (Zs Wd B ad G)) (less H1 (Zs Wd B ad (G.set i (.d x)))) := less_sub fun a q => Zs.set_of (fun _ z => by cases z) q
    have S2 := S1.setD (i := i) d
    exact ⟨v, w, rfl, q _ p ad H1 _ (S2.setD (i := j) (dp_mono e2 d2)) ((Xb.lz e1).trans (e2.trans (less_sub fun a q => Zs.set_of (fun _ z => by cases z) q)))⟩) (post_xp q)
theorem sw_freeze {i : Nat} {xs : List PyData} (hi : G[i]? = some (.ow (ol xs))) (h : SW K cs W tu (G.set i (.d (.list xs))) Φ) (hx : ∀ e G', Φ (.ex e G') → True := by intros; trivial) : SW K cs W tu G Φ := fun Wd B ad H0 H σ D S q =>
  h Wd B ad H0 H σ D (S.freeze hi) fun o p => (q o p).mono (less_sub fun a z => Zs.set_of (fun _ z => by cases z) z)
/-! ### lists of one's own -/
theorem sw_app {i : Nat} {xs : List PyData} (hi : G[i]? = some (.ow (ol xs))) (hl : xs.length < 16000000) (h : EW K cs W te G (fun x => Φ (.nx (G.set i (.ow (ol (xs ++ [x])))))) (fun e => Φ (.ex e G))) : SW K cs W (tDrop (tBM K "list" rAppend (tVar i) (tCons te tNil))) G Φ := fun Wd B ad H0 H σ D S q => by
  obtain ⟨o, g1, rfl, vs, g3, g4⟩ := S.at_ i _ hi
  have g3 : H (ad i) = some (.lst vs) := g3
  refine ⟨_, g1, Or.inl ⟨rfl, vs, sq_of g3⟩, h Wd B ad H0 H σ S _ (fun x p v H1 S1 e1 d1 => ?_) (post_xp q)⟩
  obtain ⟨_, _, _, us, g5, g6⟩ := S1.at_ i _ hi
  have g6 : DpAll K _ us xs := g6
  exact ⟨_, us, v, rfl, rfl, g5, by rw [dpa_len g6]; exact Nat.lt_of_lt_of_le hl (by decide), q _ p ad _ σ (S1.chg (c' := ol (xs ++ [x])) hi (dpa_app g6 (.cons d1 .nil))) ((Xb.lz e1).trans (chg_ex hi))⟩
/-! ### what is forgotten -/
/-! ### targets -/
/-- targets that only set names: vs tells which -/
def GC (K : Fg) (g : TG) (vs : List Nat) (G : Gam) (x : PyData) (γ : Gam → Prop) : Prop :=
  ∀ Wd B ad H0 H σ v, Sta K Wd B ad H0 H σ G → Dp K (less H (Zs Wd B ad G)) v x → ∀ Q : St → Hp → Prop,
  (∀ G' σ', γ G' → G.length = G'.length → (∀ i, i ∉ vs → G'[i]? = G[i]?) → (∀ i c, i ∈ vs → G'[i]? = some (.ow c) → G[i]? = some (.ow c)) → Sta K Wd B ad H0 H σ' G' → Ex (less H (Zs Wd B ad G)) (less H (Zs Wd B ad G')) → wipe σ' vs = wipe σ vs → Q σ' H) → g v σ H Q
def GsC (K : Fg) (g : TGs) (vs : List Nat) (G : Gam) (xs : List PyData) (γ : Gam → Prop) : Prop :=
  ∀ Wd B ad H0 H σ us, Sta K Wd B ad H0 H σ G → DpAll K (less H (Zs Wd B ad G)) us xs → ∀ Q : St → Hp → Prop,
  (∀ G' σ', γ G' → G.length = G'.length → (∀ i, i ∉ vs → G'[i]? = G[i]?) → (∀ i c, i ∈ vs → G'[i]? = some (.ow c) → G[i]? = some (.ow c)) → Sta K Wd B ad H0 H σ' G' → Ex (less H (Zs Wd B ad G)) (less H (Zs Wd B ad G')) → wipe σ' vs = wipe σ vs → Q σ' H) → g us σ H Q
variable {γ : Gam → Prop} {vs : List Nat}
theorem gc_name {i : Nat} {x : PyData} (hi : i ∈ vs) (h : γ (G.set i (.d x))) : GC K (gName i) vs G x γ := fun Wd B ad H0 H σ v S d Q q => by
  refine q _ _ h (by rw [List.length_set]) (fun j hj => List.getElem?_set_ne fun (e : i = j) => hj (by rw [← e]; exact hi)) (fun j c _ g => ?_) (S.setD d) (less_sub fun a z => Zs.set_of (fun _ z => by cases z) z) (wipe_set hi)
  rcases get_set g with ⟨rfl, _, e⟩ | ⟨_, g⟩
  · cases e
  · exact g
theorem gsc_nil (h : γ G) : GsC K gNil vs G [] γ := fun Wd B ad H0 H σ us S d Q q => by
  cases d
  exact ⟨rfl, q _ _ h rfl (fun _ _ => rfl) (fun _ _ _ g => g) S (Ex.refl _) rfl⟩
theorem gsc_cons {g : TG} {gs : TGs} {x : PyData} {xs : List PyData} (h : GC K g vs G x (fun G' => GsC K gs vs G' xs γ)) : GsC K (gCons g gs) vs G (x :: xs) γ := fun Wd B ad H0 H σ us S d Q q => by
  cases d with
  | cons a b =>
    refine ⟨_, _, rfl, h Wd B ad H0 H σ _ S a _ fun G1 σ1 p l1 o1 w1 S1 e1 x1 => ?_⟩
    exact p Wd B ad H0 H σ1 _ S1 (dpa_mono e1 b) _ fun G2 σ2 p l2 o2 w2 S2 e2 x2 => q G2 σ2 p (l1.trans l2) (fun i hi => (o2 i hi).trans (o1 i hi)) (fun i c hi g => w1 i c hi (w2 i c hi g)) S2 (e1.trans e2) (x2.trans x1)
theorem gc_tup {n : Nat} {gs : TGs} {xs : List PyData} (hn : xs.length = n) (h : GsC K gs vs G xs γ) : GC K (gTup K n gs) vs G (.tuple xs) γ := fun Wd B ad H0 H σ v S d Q q => by
  cases d with
  | tup g t => exact ⟨_, _, rfl, ex_t less_ex g, (dpa_len t).trans hn, h Wd B ad H0 H σ _ S t Q q⟩
/-- targets at large -/
def GW (K : Fg) (g : TG) (G : Gam) (x : PyData) (γ : Gam → Prop) : Prop :=
  ∀ Wd B ad H0 H σ v, Sta K Wd B ad H0 H σ G → Dp K (less H (Zs Wd B ad G)) v x → ∀ Q : St → Hp → Prop,
  (∀ G' ad' H' σ', γ G' → Sta K Wd B ad' H0 H' σ' G' → Ex (less H (Zs Wd B ad G)) (less H' (Zs Wd B ad' G')) → Q σ' H') → g v σ H Q
theorem gw_gc (vs : List Nat) {g : TG} {x : PyData} (h : GC K g vs G x γ) : GW K g G x γ := fun Wd B ad H0 H σ v S d Q q => h Wd B ad H0 H σ v S d Q fun G' σ' p _ _ _ S' e _ => q G' ad H σ' p S' e
theorem gw_name {i : Nat} {x : PyData} (h : γ (G.set i (.d x))) : GW K (gName i) G x γ := gw_gc [i] (gc_name (List.mem_singleton.mpr rfl) h)
theorem sw_asgT {g : TG} (h : EW K cs W te G (fun x => GW K g G x (fun G' => Φ (.nx G'))) (fun e => Φ (.ex e G))) : SW K cs W (tAsg te g) G Φ := fun Wd B ad H0 H σ D S q =>
  h Wd B ad H0 H σ S _ (fun x p v H1 S1 e1 d1 => p Wd B ad H0 H1 σ v S1 d1 _ fun G' ad' H' σ' p S' e' => q _ p ad' H' σ' S' ((Xb.lz e1).trans e')) (post_xp q)
/-! ### what is walked -/
theorem dp_itL {v : V} {ds : List PyData} {M : Hp} (d : Dp K M v (.list ds)) : ∃ a vs, v = .ref a ∧ SqL K M a vs ∧ ItOk K (Itl K a) ds M := qt_of (by simp (disch := with_unfolding_all
  cases d with
  | @lst a vs _ g t =>
    refine ⟨a, vs, rfl, g, fun H' Z hz e i => ?_⟩
    have g' : SqL K H' a vs := ex_l less_ex (ex_l e g)
    refine ⟨fun d hd => ?_, fun hl => ⟨vs, g', by rw [dpa_len t]; exact hl⟩, fun x H'' hy => ?_⟩
    · obtain ⟨v, hv, _⟩ := dpa_get t hd
      exact ⟨vs, v, g', hv⟩
    · obtain ⟨rfl, hy⟩ := hy
      refine ⟨Ex.refl _, fun d hd => ?_⟩
      obtain ⟨v, hv, hd⟩ := dpa_get t hd
      have ev : v = x := Option.some.inj (hv.symm.trans (hy vs g'))
      rw [← ev]
      exact dp_mono e hd
  ) only [↓qt_eq])
theorem dp_itT {v : V} {ds : List PyData} {M : Hp} (d : Dp K M v (.tuple ds)) : ∃ a vs, v = .ref a ∧ SqT K M a vs ∧ ItOk K (Itt K a) ds M := qt_of (by simp (disch := with_unfolding_all
  cases d with
  | @tup a vs _ g t =>
    refine ⟨a, vs, rfl, g, fun H' Z hz e i => ?_⟩
    have g' : SqT K H' a vs := ex_t less_ex (ex_t e g)
    refine ⟨fun d hd => ?_, fun hl => ⟨vs, g', by rw [dpa_len t]; exact hl⟩, fun x H'' hy => ?_⟩
    · obtain ⟨v, hv, _⟩ := dpa_get t hd
      exact ⟨vs, v, g', hv⟩
    · obtain ⟨rfl, hy⟩ := hy
      refine ⟨Ex.refl _, fun d hd => ?_⟩
      obtain ⟨v, hv, hd⟩ := dpa_get t hd
      have ev : v = x := Option.some.inj (hv.symm.trans (hy vs g'))
      rw [← ev]
      exact dp_mono e hd
  ) only [↓qt_eq])
theorem iw_list (h : EW K cs W te G (fun x => ∃ ds, x = .list ds ∧ ι ds) ε) : IW K cs W (iList K te) G ι ε := fun Wd B ad H0 H σ S R q x => h Wd B ad H0 H σ S _ (fun y ⟨ds, e, p⟩ v H1 S1 e1 d1 => by
  subst e
  obtain ⟨a, vs, rfl, g, ok⟩ := dp_itL d1
  exact ⟨a, rfl, ⟨vs, ex_l less_ex g⟩, q ds p _ H1 S1 e1 ok⟩) x
theorem iw_tup (h : EW K cs W te G (fun x => ∃ ds, x = .tuple ds ∧ ι ds) ε) : IW K cs W (iTup K te) G ι ε := fun Wd B ad H0 H σ S R q x => h Wd B ad H0 H σ S _ (fun y ⟨ds, e, p⟩ v H1 S1 e1 d1 => by
  subst e
  obtain ⟨a, vs, rfl, g, ok⟩ := dp_itT d1
  exact ⟨a, rfl, ⟨vs, ex_t less_ex g⟩, q ds p _ H1 S1 e1 ok⟩) x
theorem iw_seq (h : EW K cs W te G (fun x => ∃ ds, itemsOf x = some ds ∧ ι ds) ε) : IW K cs W (iSeq K te) G ι ε := fun Wd B ad H0 H σ S R q x => h Wd B ad H0 H σ S _ (fun y ⟨ds, e, p⟩ v H1 S1 e1 d1 => by
  rcases items_cases e with rfl | rfl
  · obtain ⟨a, vs, rfl, g, ok⟩ := dp_itL d1
    exact ⟨a, rfl, .inl ⟨⟨vs, ex_l less_ex g⟩, q ds p _ H1 S1 e1 ok⟩⟩
  · obtain ⟨a, vs, rfl, g, ok⟩ := dp_itT d1
    exact ⟨a, rfl, .inr ⟨⟨vs, ex_t less_ex g⟩, q ds p _ H1 S1 e1 ok⟩⟩) x
theorem iw_rng1 {ta : TA} (h : AW K cs W ta G (fun xs => ∃ n : Int, xs = [.int n] ∧ (-1000000 ≤ n ∧ n ≤ 1000000) ∧ ι (rngD 0 n.toNat)) ε) : IW K cs W (iRng1 ta) G ι ε := fun Wd B ad H0 H σ S R q x => h Wd B ad H0 H σ S _ (fun xs ⟨n, e, hn, p⟩ vs H1 S1 e1 d1 => by
  subst e
  obtain ⟨v, rfl, d⟩ := dp1 d1
  cases d
  exact ⟨n, rfl, by omega, by omega, q _ p _ H1 S1 e1 it_rng⟩) x
/-! ### loops -/
/-- what is asked of a loop over ds: an invariant of the turn and the slots -/
def ForI (K : Fg) (cs : Cs) (W : WX) (g : TG) (tb : TS) (G : Gam) (Φ : Out → Prop) (ds : List PyData) : Prop :=
  ∃ I : Nat → Gam → Prop, I 0 G ∧ (∀ i x G1, ds[i]? = some x → I i G1 → GW K g G1 x (fun Gt => SW K cs W tb Gt (lp (I (i + 1)) Φ))) ∧ ∀ G1, I ds.length G1 → Φ (.nx G1)
theorem sw_for {wi : TI} {g : TG} {tb : TS} (h : IW K cs W wi G (ForI K cs W g tb G Φ) (fun e => Φ (.ex e G))) : SW K cs W (tFor wi g tb) G Φ := fun Wd B ad H0 H σ D S q =>
  h Wd B ad H0 H σ S _ (fun ds ⟨I, i0, hs, hd⟩ J H1 S1 e1 ok => by
    refine ⟨fun i m σ' H' => m = ds.length - i ∧ i ≤ ds.length ∧ ∃ ad' G1, I i G1 ∧ Sta K Wd B ad' H0 H' σ' G1 ∧ Ex (less H1 (Zs Wd B ad G)) (less H' (Zs Wd B ad' G1)), ⟨ds.length, rfl, Nat.zero_le _, ad, G, i0, S1, Ex.refl _⟩, ?_⟩
    rintro i m σ' H' ⟨rfl, hi, ad', G1, hI, S', e'⟩
    obtain ⟨k1, k2, k3⟩ := ok H' (Zs Wd B ad' G1) S'.there e' i
    by_cases hlt : i < ds.length
    · have hx : ds[i]? = some ds[i] := List.getElem?_eq_getElem hlt
      refine .inr ⟨k1 _ hx, fun σ3 H3 => ∃ ad3 G3, I (i + 1) G3 ∧ Sta K Wd B ad3 H0 H3 σ3 G3 ∧ Ex (less H1 (Zs Wd B ad G)) (less H3 (Zs Wd B ad3 G3)), ?_, fun v H'' hy => ?_⟩
      · rintro σ3 H3 ⟨ad3, G3, h3, S3, e3⟩
        exact ⟨ds.length - (i + 1), by omega, rfl, hlt, ad3, G3, h3, S3, e3⟩
      · obtain ⟨ex, dx⟩ := k3 v H'' hy
        have S2 := S'.ext ex
        refine hs i _ G1 hx hI Wd B ad' H0 H'' σ' v S2 (dx _ hx) _ fun Gt ad2 H2 σ2 hb S3 e3 => ?_
        have e4 : Ex (less H1 (Zs Wd B ad G)) (less H2 (Zs Wd B ad2 Gt)) := (e'.trans (less_mono ex)).trans e3
        have e5 := (Xb.lz (W := Wd) (ad := ad) (G := G) e1).trans e4
        refine hb Wd B ad2 H0 H2 σ2 _ S3 fun o p => ?_
        cases o with
        | nx G4 => exact fun ad4 H4 σ4 S4 x4 => ⟨ad4, G4, p, S4, e4.trans x4⟩
        | ct G4 => exact fun ad4 H4 σ4 S4 x4 => ⟨ad4, G4, p, S4, e4.trans x4⟩
        | bk G4 => exact fun ad4 H4 σ4 S4 x4 => q _ p ad4 H4 σ4 S4 (e5.trans x4)
        | rt x => exact q _ p
        | rl c => exact q _ p
        | ex e G4 => exact fun d ad4 H4 σ4 S4 x4 => q _ p d ad4 H4 σ4 S4 (e5.trans x4)
    · have en : i = ds.length := by omega
      subst en
      exact .inl ⟨k2 (Nat.le_refl _), q _ (hd G1 hI) ad' H' σ' S' ((Xb.lz e1).trans e')⟩) (post_xp q)
/-- by what is done already -/
theorem forP {β : Type} {g : TG} {tb : TS} {xs : List β} {f : β → PyData} (I : List β → Gam → Prop) (h0 : I [] G) (hs : ∀ pre x post G1, xs = pre ++ x :: post → I pre G1 → GW K g G1 (f x) (fun Gt => SW K cs W tb Gt (lp (I (pre ++ [x])) Φ))) (he : ∀ G1, I xs G1 → Φ (.nx G1)) : ForI K cs W g tb G Φ (xs.map f) := by
  refine ⟨fun i G1 => I (xs.take i) G1, h0, fun i x G1 hx hI => ?_, fun G1 hI => he G1 (by rw [List.length_map, List.take_length] at hI; exact hI)⟩
  rw [List.getElem?_map] at hx
  cases hb : xs[i]? with
  | none => rw [hb] at hx; cases hx
  | some b =>
    rw [hb] at hx
    cases hx
    obtain ⟨hlt, hbe⟩ := List.getElem?_eq_some_iff.mp hb
    have e : xs = xs.take i ++ b :: xs.drop (i + 1) := by rw [← hbe, List.getElem_cons_drop, List.take_append_drop]
    have e2 : xs.take (i + 1) = xs.take i ++ [b] := by rw [List.take_succ, hb]; rfl
    show GW K g G1 (f b) (fun Gt => SW K cs W tb Gt (lp (fun G1 => I (xs.take (i + 1)) G1) Φ))
    rw [e2]
    exact hs _ b _ G1 e hI
end
end U.N

end
section
namespace U.N
open PySem PyProof.Rows L2 Evl
inductive All2 {α β : Type} (R : α → β → Prop) : List α → List β → Prop
  | nil : All2 R [] []
  | cons {x : α} {y : β} {xs : List α} {ys : List β} : R x y → All2 R xs ys → All2 R (x :: xs) (y :: ys)
namespace All2
variable {α β γ : Type} {R : α → β → Prop}
theorem len : ∀ {xs : List α} {ys : List β}, All2 R xs ys → xs.length = ys.length
  | _, _, .nil => rfl
  | _, _, .cons _ t => congrArg (· + 1) t.len
theorem mem_r : ∀ {xs : List α} {ys : List β}, All2 R xs ys → ∀ y ∈ ys, ∃ x ∈ xs, R x y
  | _, _, .nil, y, h => by cases h
  | _, _, .cons a t, y, h => by
    rcases List.mem_cons.mp h with rfl | h
    · exact ⟨_, List.mem_cons_self .., a⟩
    · obtain ⟨x, hx, r⟩ := t.mem_r y h
      exact ⟨x, List.mem_cons_of_mem _ hx, r⟩
/-- y's that all are of one form -/
theorem exists_map {δ : Type} {g : δ → β} {P : α → δ → Prop} : ∀ {xs : List α} {ys : List β}, All2 (fun x y => ∃ d, y = g d ∧ P x d) xs ys → ∃ ds : List δ, ys = ds.map g ∧ All2 P xs ds
  | _, _, .nil => ⟨[], rfl, .nil⟩
  | _, _, .cons ⟨d, e, p⟩ t => by
    obtain ⟨ds, e2, p2⟩ := t.exists_map
    exact ⟨d :: ds, by rw [e, e2]; rfl, .cons p p2⟩
end All2
section
variable {K : Fg} {cs : Cs} {W : WX} {G G' G1 G2 : Gam} {ta tb tc te : TE} {t u tt tt1 : TT} {φ : PyData → Prop} {ε : Xw → Prop} {ψ : Bool → Prop} {α : List PyData → Prop} {ι : List PyData → Prop} {χ : Own → Prop} {Φ Ψ : Out → Prop}
variable {Wd : Addr → Prop} {B : Option (Addr × Addr)} {ad : Nat → Addr} {H0 H H1 H2 : Hp} {σ σ' : St} {vs vs1 : List Nat} {wi wi1 : TI} {g g1 : TG}
abbrev noX : Xw → Prop := fun _ => False
theorem xp_no : XP K cs W Wd B ad H0 H σ G noX := fun _ h => h.elim
theorem Sta.slots (S : Sta K Wd B ad H0 H σ G) (hl : G.length = G'.length) (ho : ∀ i, i ∉ vs → G'[i]? = G[i]?) (hu : ∀ i e, i ∈ vs → G'[i]? = some e → e = .un) (hg : ∀ i c, i ∈ vs → G[i]? ≠ some (.ow c)) (hw : wipe σ vs = wipe σ' vs) : Sta K Wd B ad H0 H σ' G' := qt_of (by simp (disch := with_unfolding_all
  have hls : σ.length = σ'.length := by
    have := congrArg List.length hw
    rw [wipe_length, wipe_length] at this
    exact this
  have own : ∀ (i : Nat) (c : Own), G'[i]? = some (En.ow c) ↔ G[i]? = some (En.ow c) := fun i c => by
    by_cases hi : i ∈ vs
    · exact ⟨fun g => absurd (hu i _ hi g) (fun e => by cases e), fun g => absurd g (hg i c hi)⟩
    · rw [ho i hi]
  have zl : Zs Wd B ad G' = Zs Wd B ad G := funext fun a => propext (by
    constructor
    · rintro (z | ⟨i, c, g, r⟩ | z)
      · exact .inl z
      · exact .inr (.inl ⟨i, c, (own i c).mp g, r⟩)
      · exact .inr (.inr z)
    · rintro (z | ⟨i, c, g, r⟩ | z)
      · exact .inl z
      · exact .inr (.inl ⟨i, c, (own i c).mpr g, r⟩)
      · exact .inr (.inr z))
  refine ⟨hls ▸ (S.len.trans hl), fun i e g => ?_, fun i j c c' g g' q => S.inj i j c c' ((own i c).mp g) ((own j c').mp g') q, fun i c g => S.sep i c ((own i c).mp g), S.base, S.bag, S.wd⟩
  by_cases hi : i ∈ vs
  · have e := hu i e hi g
    subst e
    have il : i < σ'.length := by rw [← hls, S.len, hl]; exact (List.getElem?_eq_some_iff.mp g).1
    exact ⟨σ'[i], List.getElem?_eq_getElem il, trivial⟩
  · rw [ho i hi] at g
    obtain ⟨o, g1, g2⟩ := S.at_ i e g
    refine ⟨o, ?_, by rw [zl]; exact g2⟩
    rw [← wipe_get hi, ← hw, wipe_get hi]
    exact g1
  ) only [↓qt_eq])
theorem zs_same {G' : Gam} (hl : ∀ (i : Nat) (c : Own), G'[i]? = some (En.ow c) ↔ G[i]? = some (En.ow c)) : Zs Wd B ad G' = Zs Wd B ad G := funext fun a => propext (by
  constructor
  · rintro (z | ⟨i, c, g, r⟩ | z)
    · exact .inl z
    · exact .inr (.inl ⟨i, c, (hl i c).mp g, r⟩)
    · exact .inr (.inr z)
  · rintro (z | ⟨i, c, g, r⟩ | z)
    · exact .inl z
    · exact .inr (.inl ⟨i, c, (hl i c).mpr g, r⟩)
    · exact .inr (.inr z))
theorem zs_lend {p : Addr} : Zs (fun a => Wd a ∨ a = p) B ad G = fun a => Zs Wd B ad G a ∨ a = p := funext fun a => propext (by
  constructor
  · rintro ((z | z) | z | z)
    · exact .inl (.inl z)
    · exact .inr z
    · exact .inl (.inr (.inl z))
    · exact .inl (.inr (.inr z))
  · rintro ((z | z | z) | z)
    · exact .inl (.inl z)
    · exact .inr (.inl z)
    · exact .inr (.inr z)
    · exact .inl (.inr z))
def opts (os : List (Option PyData)) : List PyData := os.filterMap id
theorem opts_snoc {os : List (Option PyData)} {o : Option PyData} : opts (os ++ [o]) = opts os ++ o.toList := by
  unfold opts
  rw [List.filterMap_append]
  cases o <;> rfl
theorem opts_len (os : List (Option PyData)) : (opts os).length ≤ os.length := List.length_filterMap_le ..
/-- one for each turn -/
def Each {β : Type} (R : Nat → β → Prop) (n : Nat) (os : List β) : Prop := os.length = n ∧ ∀ i o, os[i]? = some o → R i o
theorem each_nil {β : Type} {R : Nat → β → Prop} : Each R 0 [] := ⟨rfl, fun i o h => by simp at h⟩
theorem Each.snoc {β : Type} {R : Nat → β → Prop} {n : Nat} {os : List β} {o : β} (h : Each R n os) (r : R n o) : Each R (n + 1) (os ++ [o]) := by
  refine ⟨by simp [h.1], fun i o' hi => ?_⟩
  by_cases hl : i < os.length
  · rw [List.getElem?_append_left hl] at hi
    exact h.2 i o' hi
  · rw [List.getElem?_append_right (by omega)] at hi
    have e : i - os.length = 0 := by
      have := (List.getElem?_eq_some_iff.mp hi).1
      simp at this
      omega
    rw [e] at hi
    cases hi
    have : i = n := by have := h.1; omega
    rw [this]; exact r
theorem Each.all2 {α β : Type} {R : Nat → β → Prop} : ∀ {xs : List α} {os : List β}, Each R xs.length os → ∀ {S : α → β → Prop}, (∀ i x o, xs[i]? = some x → R i o → S x o) → All2 S xs os := fun {xs} => by
  induction xs generalizing R with
  | nil =>
    intro os h S m
    have := h.1
    have e : os = [] := List.eq_nil_of_length_eq_zero this
    rw [e]; exact .nil
  | cons x xs ih =>
    intro os h S m
    cases os with
    | nil => have := h.1; simp at this
    | cons o os =>
      refine .cons (m 0 x o rfl (h.2 0 o rfl)) (ih (R := fun i => R (i + 1)) ⟨by have := h.1; simpa using this, fun i o' hi => h.2 (i + 1) o' hi⟩ fun i x o hx r => m (i + 1) x o hx r)
/-- the names that the comprehension sets are of no use before -/
def Unk (vs : List Nat) (G : Gam) : Prop := ∀ i e, i ∈ vs → G[i]? = some e → e = .un
def LcI (K : Fg) (cs : Cs) (W : WX) (g : TG) (tt : TT) (te : TE) (vs : List Nat) (G : Gam) (χ : Own → Prop) (ds : List PyData) : Prop :=
  ds.length ≤ 16000000 ∧ Unk vs G ∧ ∃ R : Nat → Option PyData → Prop, (∀ i x, ds[i]? = some x → GC K g vs G x (fun Gt => TW K cs W tt Gt (fun b => Cnd b (EW K cs W te Gt (fun y => R i (some y)) noX) (R i none)) noX)) ∧ ∀ os, Each R ds.length os → χ (ol (opts os))
theorem ef_lc (h : IW K cs W wi G (LcI K cs W g tt te vs G χ) ε) : EF K cs W (tLc wi g tt te vs) G χ ε := fun Wd B ad H0 H σ S Q q x =>
  h Wd B ad H0 H σ S _ (fun ds ⟨hz, hu, R, hs, hd⟩ J H1 S1 e1 ok Dl hD => by
    have hgu : ∀ i c, i ∈ vs → G[i]? ≠ some (.ow c) := fun i c hi g => by cases hu i _ hi g
    obtain ⟨L0, el0⟩ := S1.lend (o := .lst []) hD
    have fr := S1.fresh hD
    refine ⟨fun i m H' => m = ds.length - i ∧ i ≤ ds.length ∧ Sta K (fun a => Wd a ∨ a = Dl) B ad H0 H' σ G ∧ Ex (less H1 (Zs Wd B ad G)) (less H' (Zs (fun a => Wd a ∨ a = Dl) B ad G)) ∧ Xb B H1 H' ∧
      ∃ os acc, Each R i os ∧ H' Dl = some (.lst acc) ∧ DpAll K (less H' (Zs (fun a => Wd a ∨ a = Dl) B ad G)) acc (opts os), ⟨ds.length, rfl, Nat.zero_le _, L0, by rw [el0]; exact Ex.refl _, .of (Ex.new hD), [], [], each_nil, upd_same, .nil⟩, ?_⟩
    rintro i m H' ⟨rfl, hi, S', e', xb, os, acc, ha2, ha, hda⟩
    obtain ⟨k1, k2, k3⟩ := ok H' (Zs (fun a => Wd a ∨ a = Dl) B ad G) S'.there e' i
    by_cases hlt : i < ds.length
    · have hx : ds[i]? = some ds[i] := List.getElem?_eq_getElem hlt
      refine .inr ⟨k1 _ hx, fun H3 => Sta K (fun a => Wd a ∨ a = Dl) B ad H0 H3 σ G ∧ Ex (less H1 (Zs Wd B ad G)) (less H3 (Zs (fun a => Wd a ∨ a = Dl) B ad G)) ∧ Xb B H1 H3 ∧
        ∃ os acc, Each R (i + 1) os ∧ H3 Dl = some (.lst acc) ∧ DpAll K (less H3 (Zs (fun a => Wd a ∨ a = Dl) B ad G)) acc (opts os), fun H3 h3 => ⟨ds.length - (i + 1), by omega, rfl, hlt, h3⟩, fun v H'' hyl => ?_⟩
      obtain ⟨ex, dx⟩ := k3 v H'' hyl
      have S2 := (S'.ext ex).slots (σ' := wipe σ vs) (G' := G) (vs := vs) rfl (fun _ _ => rfl) hu hgu wipe_wipe.symm
      refine hs i _ hx _ B ad H0 H'' _ v S2 (dx _ hx) _ fun Gt σ2 hte hl ho hw S3 e3 ew => ⟨by rw [ew, wipe_wipe], ?_⟩
      have own : ∀ (i : Nat) (c : Own), Gt[i]? = some (En.ow c) ↔ G[i]? = some (En.ow c) := fun i c => by
        by_cases hi : i ∈ vs
        · exact ⟨fun g => hw i c hi g, fun g => absurd g (hgu i c hi)⟩
        · rw [ho i hi]
      have eZ : Zs (fun a => Wd a ∨ a = Dl) B ad Gt = Zs (fun a => Wd a ∨ a = Dl) B ad G := zs_same own
      have back : ∀ {H5 : Hp}, Sta K (fun a => Wd a ∨ a = Dl) B ad H0 H5 σ2 Gt → Sta K (fun a => Wd a ∨ a = Dl) B ad H0 H5 σ G := fun {H5} S5 =>
        S5.slots (G' := G) (vs := vs) hl.symm (fun i hi => (ho i hi).symm) hu (fun i c hi g => hgu i c hi (hw i c hi g)) (by rw [ew, wipe_wipe])
      have hB : ¬ InB B Dl := fr.2.1
      have ha3 : H'' Dl = some (.lst acc) := ex _ _ ha
      have al : acc.length < sizeLine := by
        have h1 := dpa_len hda
        have h2 := opts_len os
        have h3 := ha2.1
        exact Nat.lt_of_lt_of_le (show acc.length < 16777216 by omega) (by decide)
      refine hte _ B ad H0 H'' σ2 S3 _ (fun b p H3 S4 e4 => ?_) xp_no
      have e4' : Ex (less H'' (Zs (fun a => Wd a ∨ a = Dl) B ad G)) (less H3 (Zs (fun a => Wd a ∨ a = Dl) B ad G)) := by
        have := Xb.lz (W := fun a => Wd a ∨ a = Dl) (ad := ad) (G := G) e4
        exact this
      have e5 : Ex (less H' (Zs (fun a => Wd a ∨ a = Dl) B ad G)) (less H3 (Zs (fun a => Wd a ∨ a = Dl) B ad G)) := (less_mono ex).trans e4'
      cases b with
      | false =>
        refine iteF ⟨back S4, e'.trans e5, (xb.trans (.of ex)).trans e4, os ++ [none], acc, ?_, e4 _ _ ha3 hB, ?_⟩
        · exact ha2.snoc (p.2 rfl)
        · rw [opts_snoc]
          show DpAll K _ acc (_ ++ [])
          rw [List.append_nil]
          exact dpa_mono e5 hda
      | true =>
        refine iteT ?_
        refine p.1 rfl _ B ad H0 H3 σ2 S4 _ (fun y py w H4 S5 e6 dw => ?_) xp_no
        rw [eZ] at dw
        have S6 := back S5
        obtain ⟨S7, el7⟩ := S6.foreign (o := .lst (acc ++ [w])) (p := Dl) (.inr rfl) fr.1 hB
        have e6' := Xb.lz (W := fun a => Wd a ∨ a = Dl) (ad := ad) (G := G) e6
        refine ⟨acc, e6 _ _ (e4 _ _ ha3 hB) hB, al, S7, ?_, ?_, os ++ [some y], acc ++ [w], ?_, upd_same, ?_⟩
        · rw [el7]
          exact e'.trans (e5.trans e6')
        · intro a o g n
          have na : a ≠ Dl := ne_of_none g hD
          rw [upd_ne na]
          exact ((((xb.trans (.of ex)).trans e4).trans e6) a o g n)
        · exact ha2.snoc py
        · rw [el7, opts_snoc]
          exact dpa_app (dpa_mono (e5.trans e6') hda) (.cons dw .nil)
    · have en : i = ds.length := by omega
      subst en
      obtain ⟨S5, e5⟩ := S'.back
      obtain ⟨S6, x6, n6, l6⟩ := fl_go S1 xb S'.bag hD ha
      refine .inl ⟨k2 (Nat.le_refl _), ?_⟩
      have k := q _ (hd os ha2) Dl acc _ S6 (e1.trans x6) n6 (by rw [l6, ← zs_lend]; exact hda)
      have k2 : Q (.ref Dl) (upd (less H' fun b => b = Dl) Dl (.lst acc)) := k
      rw [fl_upd ha] at k2
      exact k2) x
theorem ew_lc (h : IW K cs W wi G (LcI K cs W g tt te vs G (fun c => ∃ xs, c = ol xs ∧ φ (.list xs))) ε) : EW K cs W (tLc wi g tt te vs) G φ ε := ew_ef (ef_lc h)
theorem opts_map {β : Type} {f : β → PyData} : ∀ {xs : List β} {os : List (Option PyData)}, All2 (fun x o => o = some (f x)) xs os → opts os = xs.map f
  | _, _, .nil => rfl
  | x :: xs, _, .cons a t => by
    rw [a]
    show f x :: opts _ = _
    rw [opts_map t]; rfl
theorem opts_filter {β : Type} {p : β → Bool} {f : β → PyData} : ∀ {xs : List β} {os : List (Option PyData)}, All2 (fun x o => o = if p x then some (f x) else none) xs os → opts os = (xs.filter p).map f
  | _, _, .nil => rfl
  | x :: xs, _, .cons a t => by
    have ih := opts_filter t
    cases h : p x with
    | true =>
      rw [a, List.filter_cons, h, if_pos rfl, if_pos rfl]
      show f x :: opts _ = _
      rw [ih]; rfl
    | false =>
      rw [a, List.filter_cons, h, if_neg (by decide), if_neg (by decide)]
      show opts _ = _
      exact ih
variable {β : Type} {xs : List β} {f : β → PyData}
theorem map_at {i : Nat} {x : PyData} (h : (xs.map f)[i]? = some x) : ∃ b, xs[i]? = some b ∧ f b = x ∧ b ∈ xs := by
  rw [List.getElem?_map] at h
  cases hb : xs[i]? with
  | none => rw [hb] at h; cases h
  | some b => rw [hb] at h; exact ⟨b, rfl, Option.some.inj h, List.mem_of_getElem? hb⟩
theorem gc_mono {x : PyData} {γ γ' : Gam → Prop} (h : GC K g vs G x γ) (m : ∀ G', γ G' → γ' G') : GC K g vs G x γ' := fun Wd B ad H0 H σ v S d Q q => h Wd B ad H0 H σ v S d Q fun G' σ' k => q G' σ' (m G' k)
/-- [.. for x in xs if ..], each turn by a relation -/
theorem lcR0 (R : β → Option PyData → Prop) (hz : xs.length ≤ 16000000) (hu : Unk vs G) (hs : ∀ x, x ∈ xs → GC K g vs G (f x) (fun Gt => TW K cs W tt Gt (fun b => Cnd b (EW K cs W te Gt (fun y => R x (some y)) noX) (R x none)) noX)) (p : ∀ os, All2 R xs os → χ (ol (opts os))) : LcI K cs W g tt te vs G χ (xs.map f) := by
  refine ⟨by rw [List.length_map]; exact hz, hu, fun i o => ∃ b, xs[i]? = some b ∧ R b o, fun i x hx => ?_, fun os ha => ?_⟩
  · obtain ⟨b, hb, rfl, hm⟩ := map_at hx
    exact gc_mono (hs b hm) fun Gt k => tw_mono k fun c q => ⟨fun hc => ew_mono (q.1 hc) fun y r => ⟨b, hb, r⟩, fun hc => ⟨b, hb, q.2 hc⟩⟩
  · rw [List.length_map] at ha
    exact p os (ha.all2 fun i x o hx ⟨b, hb, r⟩ => by rw [hx] at hb; cases hb; exact r)
/-- [h x for x in xs] -/
theorem lcM (h : β → PyData) (hz : xs.length ≤ 16000000) (hu : Unk vs G) (hs : ∀ x, x ∈ xs → GC K g vs G (f x) (fun Gt => EW K cs W te Gt (fun y => y = h x) noX)) (p : χ (ol (xs.map h))) : LcI K cs W g tYes te vs G χ (xs.map f) :=
  lcR0 (fun x o => o = some (h x)) hz hu (fun x hx => gc_mono (hs x hx) fun Gt k => tw_yes (cnd_t (ew_mono k fun y e => by rw [e]))) fun os ha => by rw [opts_map ha]; exact p
/-- [h x for x in xs if p x] -/
theorem lcF (pt : β → Bool) (h : β → PyData) (hz : xs.length ≤ 16000000) (hu : Unk vs G) (hs : ∀ x, x ∈ xs → GC K g vs G (f x) (fun Gt => TW K cs W tt Gt (fun b => b = pt x ∧ (b = true → EW K cs W te Gt (fun y => y = h x) noX)) noX)) (p : χ (ol ((xs.filter pt).map h))) : LcI K cs W g tt te vs G χ (xs.map f) :=
  lcR0 (fun x o => o = if pt x then some (h x) else none) hz hu (fun x hx => gc_mono (hs x hx) fun Gt k => tw_mono k fun b ⟨e, q⟩ => ⟨fun hb => ew_mono (q hb) fun y ey => by rw [← e, hb, ey]; rfl, fun hb => by rw [← e, hb]; rfl⟩) fun os ha => by rw [opts_filter ha]; exact p
/-- [.. for x in xs], each by a relation (draws) -/
theorem lcR (R : β → PyData → Prop) (hz : xs.length ≤ 16000000) (hu : Unk vs G) (hs : ∀ x, x ∈ xs → GC K g vs G (f x) (fun Gt => EW K cs W te Gt (fun y => R x y) noX)) (p : ∀ ys, All2 R xs ys → χ (ol ys)) : LcI K cs W g tYes te vs G χ (xs.map f) :=
  lcR0 (fun x o => ∃ y, o = some y ∧ R x y) hz hu (fun x hx => gc_mono (hs x hx) fun Gt k => tw_yes (cnd_t (ew_mono k fun y r => ⟨y, rfl, r⟩))) fun os ha => by
    obtain ⟨ys, e, h2⟩ := ha.exists_map
    rw [e]
    have : opts (ys.map some) = ys := by
      unfold opts
      rw [List.filterMap_map]
      show ys.filterMap some = ys
      exact List.filterMap_some
    rw [this]
    exact p ys h2
/-- [.. for x in xs], each drawn -/
theorem lcD {δ : Type} (gd : δ → PyData) (P : δ → Prop) (hz : xs.length ≤ 16000000) (hu : Unk vs G) (hs : ∀ x, x ∈ xs → GC K g vs G (f x) (fun Gt => EW K cs W te Gt (fun y => ∃ d, y = gd d ∧ P d) noX)) (p : ∀ ds : List δ, ds.length = xs.length → (∀ d ∈ ds, P d) → χ (ol (ds.map gd))) : LcI K cs W g tYes te vs G χ (xs.map f) :=
  lcR (fun _ y => ∃ d, y = gd d ∧ P d) hz hu hs fun ys ha => by
    obtain ⟨ds, e, h2⟩ := ha.exists_map
    rw [e]
    exact p ds h2.len.symm fun d hd => by obtain ⟨x, _, h⟩ := h2.mem_r d hd; exact h
end
end U.N

end
section
/-! zip of two things, each a list or a tuple, strict or not. -/
namespace U
open PySem PySem.W PyProof.Rows L2 Evl
inductive Kd where
  | L
  | T
def ItK : Kd → Heap → Addr → Addr → Nat → Prop
  | .L, h, it, l, i => h.IsListIter it l i
  | .T, h, it, l, i => h.IsTupleIter it l i
def SqK : Kd → Heap → Addr → Array Value → Prop
  | .L, h, l, xs => h.IsList l xs
  | .T, h, l, xs => h.IsTuple l xs
theorem ItK.at_ {k : Kd} {h h' : Heap} {it l : Addr} {i : Nat} (x : ItK k h it l i) (e : ∀ o, h.get? it = some o → h'.get? it = some o) : ItK k h' it l i := by
  cases k with
  | L => exact Heap.IsListIter.at x e
  | T => exact Heap.IsTupleIter.at x e
theorem ItK.obj {k : Kd} {h : Heap} {it l : Addr} {i : Nat} (x : ItK k h it l i) : ∃ o, h.get? it = some o ∧ ∀ v, o.data ≠ .cell v := by
  cases k with
  | L => obtain ⟨o, e, _, d⟩ := x; exact ⟨o, e, fun v q => by rw [d] at q; cases q⟩
  | T => obtain ⟨o, e, _, d⟩ := x; exact ⟨o, e, fun v q => by rw [d] at q; cases q⟩
section
variable {prog : Program} {w : World} {A : Around} {E : Value → Shared → Prop} {s : Shared}
theorem nx_end {k : Kd} {it l : Addr} {i : Nat} {xs : Array Value} {Q : Value → Shared → Prop} (hh : A.handled = none) (hit : ItK k s.heap it l i) (hl : SqK k s.heap l xs) (hx : xs[i]? = none)
    (hE : ∀ h' e, Heap.ExtBut it s.heap h' → (∃ o, h'.get? e = some o ∧ o.cls = .type "StopIteration") → E (.ref e) { s with heap := h' }) : wpAny (model prog w) A (Builtin.SmallTypes.nextOf (.ref it)) Q E s := by
  cases k with
  | L => exact wpAny_nextOf_list_end hh hit hl hx hE
  | T => exact RZ.nextOf_tuple_end hh hit hl hx hE
end
end U

end
section
/-! zip(a, b, strict=True) and zip(a, b): the end, the making. -/
namespace U
open PySem PySem.W PyProof.Rows L2 Evl
section
variable {prog : Program} {w : World} {A : Around} {E : Value → Shared → Prop} {s : Shared}
/-! ### the making -/
def itN : Kd → String
  | .L => "list_iterator"
  | .T => "tuple_iterator"
end
section
variable {prog : Program} {w : World} {A : Around} {E : Value → Shared → Prop} {s : Shared}
end
end U

end
section
namespace U
open PySem PySem.W PyProof.Rows L2 Evl
section
variable {prog : Program} {w : World} {A : Around} {E : Value → Shared → Prop} {s : Shared}
end
end U

end
section
namespace U
open PySem PySem.W PyProof.Rows L2 Evl
section
variable {prog : Program} {w : World} {A : Around} {E : Value → Shared → Prop} {s : Shared}
end
def SqV (K : Fg) : Kd → Hp → Addr → List V → Prop
  | .L, H, a, xs => SqL K H a xs
  | .T, H, a, xs => SqT K H a xs
theorem SqV.inv {X : Cx} {pins : List (Addr × Obj)} {σ : St} {H : Hp} {s : Shared} {k : Kd} {a : Addr} {xs : List V} (I : Inv X pins σ H s) (h : SqV X.K k H a xs) : ∃ its, Vals xs its ∧ SqK k s.heap a its.toArray ∧ a < s.heap.objs.size := qt_of (by simp (disch := with_unfolding_all
  cases k with
  | L =>
    obtain ⟨its, rv, p, _⟩ := I.list h
    exact ⟨its, rv, p.isList, p.lt⟩
  | T =>
    obtain ⟨its, rv, p, _⟩ := I.tuple h
    obtain ⟨o, ho, _⟩ := id p
    exact ⟨its, rv, p, Heap.lt_size ho⟩
  ) only [↓qt_eq])
theorem SqV.inj {X : Cx} {pins : List (Addr × Obj)} {σ : St} {H : Hp} {s : Shared} {k : Kd} {a : Addr} {xs ys : List V} (I : Inv X pins σ H s) (h : SqV X.K k H a xs) (g : SqV X.K k H a ys) : xs = ys := by
  cases k with
  | L => exact I.list_inj h g
  | T => exact I.tuple_inj h g
section
variable {M : Model} {A : Around} {E : Value → Shared → Prop} {s : Shared}
end
section
variable {X : Cx} {e e2 : Expr} {ta : TA} {p pos tpos kpos cpos : Pos} {elts : List Expr} {kk cn : Nat}
end
end U

end
section
/-! try with several clauses, each with a name -/
namespace U
open PySem PySem.Spec PyProof.Rows L2
abbrev Hd := Value × Nat × (Addr → Value → Option Addr → TS)
section
variable {X : Cx} {body : List Stmt} {h₀ : ExceptHandler} {hds : List ExceptHandler} {l : List Hd} {pos : Pos} {tb : WX → TS} {Wout : WX}
end
end U

end
section
namespace U.N
open PySem PyProof.Rows L2 Evl
section
variable {K : Fg} {cs : Cs} {W : WX} {G G' G1 G2 : Gam} {ta tb tc te : TE} {φ : PyData → Prop} {ε : Xw → Prop} {Φ Ψ : Out → Prop}
variable {Wd : Addr → Prop} {B : Option (Addr × Addr)} {ad : Nat → Addr} {H0 H H1 H2 : Hp} {σ σ' : St}
/-! ### raising -/
theorem sw_raise0 {c : Str} {nm : List Str} {g : List V → Option (List (Str × V))} {fs : List (Str × V)} (cf : ClsF K cs c nm) (hg : g [] = some fs) (h : Φ (.ex ⟨c, fs⟩ G)) : SW K cs W (tRaiseX (cs c) (spIn K nm g) [] tNil W) G Φ := fun Wd B ad H0 H σ D S q => by
  refine mk_read cf.ox cf.no ⟨by show 0 ≤ 1000; decide, hg, fun d hd => ?_⟩ (fun Q1 Q2 m h => m _ _ h)
  have e : Ex H (upd H d (.xd fs)) := Ex.new hd
  exact q _ h d ad _ σ (S.ext e) (less_mono e) (S.fresh hd).1 (less_of (S.fresh hd).2.2 upd_same)
/-! ### try .. except C as why -/
end
/-! ### several clauses -/
section
variable {K : Fg} {cs : Cs} {W : WX} {G : Gam} {Φ : Out → Prop}
end
/-! ### defs -/
def rts0 (A : Rs → Prop) : Out → Prop
  | .rt x => A (.ok x)
  | .rl c => A (.fl c)
  | .nx _ => A (.ok .none)
  | _ => False
def rts (A : Rs → Prop) : Out → Prop
  | .rt x => A (.ok x)
  | .rl c => A (.fl c)
  | .nx _ => A (.ok .none)
  | .ex e _ => A (.er e)
  | _ => False
def frame (n : Nat) (ds : List PyData) : Gam := ds.map .d ++ List.replicate (n - ds.length) .un
section
variable {Pg : Program} {w : World} {K : Fg} {mg : Str → Option Value} {base : Heap} {cs : Cs}
theorem frame_get {n i : Nat} {ds : List PyData} {e : En} (h : (frame n ds)[i]? = some e) : (∃ d, ds[i]? = some d ∧ e = .d d) ∨ (ds.length ≤ i ∧ e = .un) := qt_of (by simp (disch := with_unfolding_all
  unfold frame at h
  by_cases hi : i < ds.length
  · rw [List.getElem?_append_left (by rw [List.length_map]; exact hi), List.getElem?_map, List.getElem?_eq_getElem hi] at h
    exact .inl ⟨ds[i], List.getElem?_eq_getElem hi, (Option.some.inj h).symm⟩
  · have hi : ds.length ≤ i := by omega
    rw [List.getElem?_append_right (by rw [List.length_map]; exact hi)] at h
    exact .inr ⟨hi, (List.mem_replicate.mp (List.mem_of_getElem? h)).2⟩
  ) only [↓qt_eq])
theorem frame_len {n : Nat} {ds : List PyData} : (frame n ds).length = ds.length + (n - ds.length) := by
  unfold frame
  rw [List.length_append, List.length_map, List.length_replicate]
theorem bag_ok0 : Bag.ok ⟨[], 0, 0⟩ := ⟨by simp, by decide, by decide⟩
/-- the state at a def's entry -/
theorem sta0 {N : List Str} {Wd : Addr → Prop} {H : Hp} {vs : List V} {ds : List PyData} (hW : ∀ a, Wd a → ∃ o, H a = some o) (hd : DpAll K (less H Wd) vs ds) : Sta K Wd none (fun _ => 0) H H (L2.start N vs) (frame N.length ds) := qt_of (by simp (disch := with_unfolding_all
  have no : ∀ (i : Nat) (c : Own), (frame N.length ds)[i]? ≠ some (En.ow c) := fun i c h => by
    rcases frame_get h with ⟨d, _, e⟩ | ⟨_, e⟩ <;> cases e
  have zz : ∀ a, Zs Wd none (fun _ => 0) (frame N.length ds) a → Wd a := by
    rintro a (z | ⟨i, c, g, _⟩ | ⟨b, c, z, _⟩)
    · exact z
    · exact absurd g (no i c)
    · cases z
  refine ⟨?_, fun i e h => ?_, fun i j c c' g => absurd g (no i c), fun i c g => absurd g (no i c), fun a o h _ => h, ⟨_, bag_ok0, trivial⟩, hW⟩
  · rw [start_len, dpa_len hd, frame_len]
  · rcases frame_get h with ⟨d, hi, rfl⟩ | ⟨hi, rfl⟩
    · obtain ⟨v, hv, dv⟩ := dpa_get hd hi
      exact ⟨some v, start_get hv, v, rfl, dp_mono (less_sub zz) dv⟩
    · have il : i < (L2.start N vs).length := by
        rw [start_len, dpa_len hd]
        have := (List.getElem?_eq_some_iff.mp h).1
        rw [frame_len] at this
        exact this
      exact ⟨(L2.start N vs)[i], List.getElem?_eq_getElem il, trivial⟩
  ) only [↓qt_eq])
theorem xb_none {H H' : Hp} (h : Xb none H H') : Ex H H' := fun a o g => h a o g fun ⟨_, _, z, _⟩ => by cases z
theorem sz_none {Wd : Addr → Prop} {H : Hp} : (less H fun a => Wd a ∨ InB none a) = less H Wd := congrArg (less H) (funext fun a => propext ⟨fun z => z.elim id (fun ⟨_, _, z, _⟩ => (by cases z)), Or.inl⟩)
theorem run0 {N : List Str} {Wd : Addr → Prop} {H : Hp} {vs : List V} {ds : List PyData} {A : Rs → Prop} {t : TS} {Q : VK} (hW : ∀ a, Wd a → ∃ o, H a = some o) (hd : DpAll K (less H Wd) vs ds) (h : SW K cs W0 t (frame N.length ds) (rts0 A)) (q : okRs H K Wd Q A) :
    t { nx := fun _ H' => Q .non H', rt := Q } (L2.start N vs) H := qt_of (by simp (disch := with_unfolding_all
  refine h Wd none (fun _ => 0) H H _ _ (sta0 hW hd) fun o p => ?_
  cases o with
  | rt x => exact fun v H' e _ d => q.1 x p v H' (xb_none e) (by rw [sz_none] at d; exact d)
  | rl c => exact fun a us H' e _ hn ho d => q.2 c p a us H' (xb_none e) hn ho (dpa_mono (less_sub fun b z => by rcases z with z | z; exact .inl (.inl z); exact .inr z) d)
  | nx G => exact fun ad H' σ S _ => q.1 _ p _ H' (xb_none fun a o h n => S.base a o h n) .non
  | bk G => exact p.elim
  | ct G => exact p.elim
  | ex e G => exact p.elim
  ) only [↓qt_eq])
theorem runX {N : List Str} {Wd : Addr → Prop} {H : Hp} {vs : List V} {ds : List PyData} {A : Rs → Prop} {t : TS} {Q : VK} {E : XK} (hW : ∀ a, Wd a → ∃ o, H a = some o) (hd : DpAll K (less H Wd) vs ds) (h : SW K cs (WD E) t (frame N.length ds) (rts A)) (q : okRs H K Wd Q A) (x : ∀ e, A (.er e) → ∀ d H', Ex H H' → H d = none → H' d = some (.xd e.fs) → E (.ref (cs e.cls)) (some d) H') :
    t { nx := fun _ H' => Q .non H', rt := Q } (L2.start N vs) H := qt_of (by simp (disch := with_unfolding_all
  refine h Wd none (fun _ => 0) H H _ _ (sta0 hW hd) fun o p => ?_
  cases o with
  | rt x => exact fun v H' e _ d => q.1 x p v H' (xb_none e) (by rw [sz_none] at d; exact d)
  | rl c => exact fun a us H' e _ hn ho d => q.2 c p a us H' (xb_none e) hn ho (dpa_mono (less_sub fun b z => by rcases z with z | z; exact .inl (.inl z); exact .inr z) d)
  | nx G => exact fun ad H' σ S _ => q.1 _ p _ H' (xb_none fun a o h n => S.base a o h n) .non
  | bk G => exact p.elim
  | ct G => exact p.elim
  | ex e G => exact fun d ad H' σ S _ hn hx => x e p d H' (xb_none fun a o h n => S.base a o h n) hn (less_some hx).2
  ) only [↓qt_eq])
/-- a def that never raises -/
theorem okW {x qual : Str} {st : Stmt} {f : Addr} {fd : FuncData} {N ps : List Str} {k : Nat} {P : Pr} (cs : Cs) (F : Fun K x qual st f fd) (S : FnScope N ps (defScope st)) (hl : ∀ ds A, P ds A → ds.length = ps.length)
    (hb : ∀ ds A, P ds A → ∀ (cdv : Value) (Ar : Around) (outer : List Env) (sh : Shared) (H : Hp) (E : XK), Room k (Ar.deeper (envOfC qual (defScope st) sh.heap.objs.size f cdv)) →
      ∃ t, PSs (cxOf CX0 Pg w K mg base N qual (defScope st) f cdv Ar outer sh H E).nox (defBody st) t ∧ SW K cs W0 t (frame N.length ds) (rts0 A)) : FnOk Pg w K mg base CX0 (k + 1) f fd ps (spW0 K P) := qt_of (by simp (disch := with_unfolding_all
  refine F.ok S (fun vs H Q E h => ?_) (fun cdv Ar outer sh H vs Q E hr h => ?_)
  · obtain ⟨Wd, ds, A, _, hd, hp, _⟩ := h
    rw [dpa_len hd]
    exact hl ds A hp
  · obtain ⟨Wd, ds, A, hW, hd, hp, q⟩ := h
    obtain ⟨t, ht, g⟩ := hb ds A hp cdv Ar outer sh H E hr
    exact ⟨t, ht, run0 hW hd g q⟩
  ) only [↓qt_eq])
/-- a def that may raise -/
theorem okWX {x qual : Str} {st : Stmt} {f : Addr} {fd : FuncData} {N ps : List Str} {k : Nat} {P : Pr} (F : Fun K x qual st f fd) (S : FnScope N ps (defScope st)) (hl : ∀ ds A, P ds A → ds.length = ps.length)
    (hb : ∀ ds A, P ds A → ∀ (cdv : Value) (Ar : Around) (outer : List Env) (sh : Shared) (H : Hp) (E : XK), Room k (Ar.deeper (envOfC qual (defScope st) sh.heap.objs.size f cdv)) →
      ∃ t, PSs (cxOf (L2.CX Pg w) Pg w K mg base N qual (defScope st) f cdv Ar outer sh H E) (defBody st) t ∧ SW K cs (WD E) t (frame N.length ds) (rts A)) :
    FnOk Pg w K mg base (L2.CX Pg w) (k + 1) f fd ps (spW K cs P) := qt_of (by simp (disch := with_unfolding_all
  refine F.okX S (fun vs H Q E h => ?_) (fun cdv Ar outer sh H vs Q E hr h => ?_)
  · obtain ⟨Wd, ds, A, _, hd, hp, _⟩ := h
    rw [dpa_len hd]
    exact hl ds A hp
  · obtain ⟨Wd, ds, A, hW, hd, hp, q, x⟩ := h
    obtain ⟨t, ht, g⟩ := hb ds A hp cdv Ar outer sh H E hr
    exact ⟨t, ht, runX hW hd g q x⟩
  ) only [↓qt_eq])
theorem staB {N : List Str} {Wd : Addr → Prop} {H : Hp} {b c : Addr} {vs : List V} {ds : List PyData} (hW : ∀ a, Wd a → ∃ o, H a = some o) (hB : BagOk H (some (b, c))) (hd : DpAll K (less H fun a => Wd a ∨ InB (some (b, c)) a) vs ds) :
    Sta K Wd (some (b, c)) (fun _ => 0) H H (L2.start N (.ref b :: vs)) (.bag :: frame (N.length - 1) ds) := qt_of (by simp (disch := with_unfolding_all
  have no : ∀ (i : Nat) (l : Own), (En.bag :: frame (N.length - 1) ds)[i]? ≠ some (En.ow l) := fun i l h => by
    cases i with
    | zero => cases h
    | succ i => rcases frame_get h with ⟨d, _, e⟩ | ⟨_, e⟩ <;> cases e
  have zz : ∀ a, Zs Wd (some (b, c)) (fun _ => 0) (En.bag :: frame (N.length - 1) ds) a → Wd a ∨ InB (some (b, c)) a := by
    rintro a (z | ⟨i, l, g, _⟩ | z)
    · exact .inl z
    · exact absurd g (no i l)
    · exact .inr z
  have ln : (L2.start N (.ref b :: vs)).length = (En.bag :: frame (N.length - 1) ds).length := by
    rw [start_len, List.length_cons, List.length_cons, dpa_len hd, frame_len]
    omega
  refine ⟨ln, fun i e h => ?_, fun i j c c' g => absurd g (no i c), fun i c g => absurd g (no i c), fun a o h _ => h, hB, hW⟩
  cases i with
  | zero =>
    cases h
    exact ⟨some (.ref b), rfl, b, c, rfl, rfl⟩
  | succ i =>
    rcases frame_get h with ⟨d, hi, rfl⟩ | ⟨hi, rfl⟩
    · obtain ⟨v, hv, dv⟩ := dpa_get hd hi
      exact ⟨some v, start_get (show (V.ref b :: vs)[i + 1]? = some v from hv), v, rfl, dp_mono (less_sub zz) dv⟩
    · have il : i + 1 < (L2.start N (.ref b :: vs)).length := by
        rw [ln]; exact (List.getElem?_eq_some_iff.mp h).1
      exact ⟨_, List.getElem?_eq_getElem il, trivial⟩
  ) only [↓qt_eq])
/-- a def that draws -/
theorem okWB {x qual : Str} {st : Stmt} {f : Addr} {fd : FuncData} {N ps : List Str} {k : Nat} {P : Pr} (cs : Cs) (F : Fun K x qual st f fd) (S : FnScope N ps (defScope st)) (hl : ∀ ds A, P ds A → ds.length + 1 = ps.length)
    (hb : ∀ ds A, P ds A → ∀ (cdv : Value) (Ar : Around) (outer : List Env) (sh : Shared) (H : Hp) (E : XK), Room k (Ar.deeper (envOfC qual (defScope st) sh.heap.objs.size f cdv)) →
      ∃ t, PSs (cxOf CX0 Pg w K mg base N qual (defScope st) f cdv Ar outer sh H E).nox (defBody st) t ∧ SW K cs W0 t (.bag :: frame (N.length - 1) ds) (rts0 A)) : FnOk Pg w K mg base CX0 (k + 1) f fd ps (spWB K P) := qt_of (by simp (disch := with_unfolding_all
  refine F.ok S (fun vs H Q E h => ?_) (fun cdv Ar outer sh H vs Q E hr h => ?_)
  · obtain ⟨Wd, b, c, us, ds, A, _, rfl, _, hd, hp, _⟩ := h
    rw [List.length_cons, dpa_len hd]
    exact hl ds A hp
  · obtain ⟨Wd, b, c, us, ds, A, hW, rfl, hB, hd, hp, q1, q2⟩ := h
    obtain ⟨t, ht, g⟩ := hb ds A hp cdv Ar outer sh H E hr
    refine ⟨t, ht, g Wd (some (b, c)) (fun _ => 0) H H _ _ (staB hW hB hd) fun o p => ?_⟩
    cases o with
    | rt x => exact fun v H' e hb d => q1 x p v H' e hb d
    | rl l => exact fun a us H' e hb hn ho d => q2 l p a us H' e hb hn ho d
    | nx G => exact fun ad H' σ S _ => q1 _ p _ H' (fun a o h n => S.base a o h n) S.bag .non
    | bk G => exact p.elim
    | ct G => exact p.elim
    | ex e G => exact p.elim
  ) only [↓qt_eq])
theorem bag0_okN {ns : List Int} (h : ns.length ≤ 63) : (bag0 ns).ok := ⟨h, by show (0 : Int) ≤ 20011; decide, by show (20011 : Int) < 2147483647; decide⟩
/-- the law itself -/
theorem okLawW {x qual : Str} {st : Stmt} {f : Addr} {fd : FuncData} {N : List Str} {a : Str} {k j : Nat} (cs : Cs) (F : Fun K x qual st f fd) (S : FnScope N [a] (defScope st)) (hj : j = 1) (hN : 2 ≤ N.length)
    (hb : ∀ (ns : List Int), ns.length ≤ 63 → ∀ (cdv : Value) (A : Around) (outer : List Env) (sh : Shared) (H : Hp) (E : XK), Room k (A.deeper (envOfC qual (defScope st) sh.heap.objs.size f cdv)) →
      ∃ t, PSs (cxOf CX0 Pg w K mg base N qual (defScope st) f cdv A outer sh H E).nox (defBody st) (tSeq (tAsg (tCall (spBag K) [] E0 (tCons (tVar 0) tNil)) (gName j)) t) ∧ SW K cs W0 t (.d (.list (ns.map PyData.int)) :: .bag :: List.replicate (N.length - 2) .un) (fun o => o = .rt (.bool true))) : FnOk Pg w K mg base CX0 (k + 1) f fd [a] (spP K PLaw) := qt_of (by simp (disch := with_unfolding_all
  subst hj
  refine F.ok S (fun vs H Q E h => ?_) (fun cdv A outer sh H vs Q E hr h => ?_)
  · obtain ⟨W, ds, r, _, hd, ⟨ns, rfl, _⟩, _⟩ := h
    exact dpa_len hd
  · obtain ⟨W, ds, r, hW, hd, ⟨ns, rfl, hl, rfl⟩, q⟩ := h
    obtain ⟨t, ht, g⟩ := hb ns hl cdv A outer sh H E hr
    obtain ⟨v, rfl, dv⟩ := dp1 hd
    obtain ⟨N0, N1, N', rfl⟩ : ∃ a b r, N = a :: b :: r := by
      match N, hN with
      | a :: b :: r, _ => exact ⟨a, b, r, rfl⟩
    refine ⟨_, ht, ?_⟩
    refine ⟨v, rfl, W, ns, hW, hd, hl, fun b c H' e fb fc hB => ?_⟩
    have nb : ∀ a o, H a = some o → ¬ InB (some (b, c)) a := by
      rintro a o h ⟨b', c', e, z⟩
      cases e
      rcases z with rfl | rfl
      · rw [fb] at h; cases h
      · rw [fc] at h; cases h
    have no : ∀ (i : Nat) (l : Own), (En.d (.list (ns.map PyData.int)) :: En.bag :: List.replicate N'.length En.un)[i]? ≠ some (En.ow l) := fun i l h => by
      match i, h with
      | 0, h => cases h
      | 1, h => cases h
      | i + 2, h => cases (List.mem_replicate.mp (List.mem_of_getElem? h)).2
    have hW' : ∀ a, W a → ∃ o, H' a = some o := fun a z => (hW a z).elim fun o q => ⟨o, e a o q⟩
    have S0 : Sta K W (some (b, c)) (fun _ => 0) H H' ((L2.start (N0 :: N1 :: N') [v]).set 1 (some (.ref b))) (En.d (.list (ns.map PyData.int)) :: En.bag :: List.replicate N'.length En.un) := by
      refine ⟨?_, fun i en h => ?_, fun i j c c' g => absurd g (no i c), fun i c g => absurd g (no i c), fun a o h _ => e a o h, ⟨_, bag0_okN hl, hB⟩, hW'⟩
      · rw [List.length_set, start_len]
        simp
        omega
      · match i, h with
        | 0, h =>
          cases h
          refine ⟨some v, rfl, v, rfl, dp_mono ?_ dv⟩
          intro a o q
          obtain ⟨q1, q2⟩ := less_some q
          refine less_of ?_ (e a o q2)
          rintro (z | ⟨i, l, g, _⟩ | z)
          · exact q1 z
          · exact no i l g
          · exact nb a o q2 z
        | 1, h =>
          cases h
          exact ⟨some (.ref b), rfl, b, c, rfl, rfl⟩
        | i + 2, h =>
          have en := (List.mem_replicate.mp (List.mem_of_getElem? h)).2
          subst en
          have il : i + 2 < ((L2.start (N0 :: N1 :: N') [v]).set 1 (some (.ref b))).length := by
            have := (List.getElem?_eq_some_iff.mp h).1
            rw [List.length_set, start_len]
            simp at this ⊢
            omega
          exact ⟨_, List.getElem?_eq_getElem il, trivial⟩
    refine g W (some (b, c)) (fun _ => 0) H H' _ _ S0 fun o p => ?_
    subst p
    exact fun v' H2 e2 _ d => by
      cases d
      exact q _ H2 (fun a o h => e2 a o h (nb a o h)) (.bl true)
  ) only [↓qt_eq])
end
end U.N

end
section
namespace U.N
open PySem PyProof.Rows L2 Evl
section
variable {K : Fg} {cs : Cs} {W : WX} {G G' G1 G2 : Gam} {ta tb tc td te tf tg : TE} {φ : PyData → Prop} {ε : Xw → Prop} {ι : List PyData → Prop} {χ : Own → Prop} {γ : Gam → Prop} {Φ Ψ : Out → Prop}
variable {Wd : Addr → Prop} {B : Option (Addr × Addr)} {ad : Nat → Addr} {H0 H H1 H2 : Hp} {σ σ' : St}
/-! ### what a value is -/
section
variable {P : Int → Prop} {Pb : Bool → Prop} {Ps : Str → Prop} {Pl : List PyData → Prop} {i j : Int} {b : Bool} {x y z : PyData} {xs ys : List PyData}
theorem xi_int (p : P i) : ∃ j, PyData.int i = .int j ∧ P j := ⟨_, rfl, p⟩
theorem xi_bool (p : Pb b) : ∃ j, PyData.bool b = .bool j ∧ Pb j := ⟨_, rfl, p⟩
theorem xi_tup (p : Pl xs) : ∃ j, PyData.tuple xs = .tuple j ∧ Pl j := ⟨_, rfl, p⟩
theorem xi_list (p : Pl xs) : ∃ j, PyData.list xs = .list j ∧ Pl j := ⟨_, rfl, p⟩
theorem xi_it (h : itemsOf x = some xs) (p : Pl xs) : ∃ j, itemsOf x = some j ∧ Pl j := ⟨_, h, p⟩
theorem x2_any {P : PyData → PyData → Prop} (p : P x y) : ∃ k l, [x, y] = [k, l] ∧ P k l := ⟨_, _, rfl, p⟩
theorem x1_it (h : itemsOf x = some xs) (p : Pl xs) : ∃ (y : PyData) (ys : List PyData), [x] = [y] ∧ itemsOf y = some ys ∧ Pl ys := ⟨_, _, rfl, h, p⟩
theorem x1_rng {P : Int → Prop} (hb : -1000000 ≤ i ∧ i ≤ 1000000) (p : P i) : ∃ n : Int, [PyData.int i] = [.int n] ∧ (-1000000 ≤ n ∧ n ≤ 1000000) ∧ P n := ⟨_, rfl, hb, p⟩
theorem allB_map {α : Type} {f : α → Bool} {l : List α} : AllB [PyData.list (l.map fun a => .bool (f a))] (l.all f) := ⟨l.map f, by rw [List.map_map]; rfl, by rw [List.all_map]; rfl⟩
theorem x_all (h : AllB xs b) (p : Pb b) : ∃ b, AllB xs b ∧ Pb b := ⟨b, h, p⟩
theorem sc_int (p : Pb (decide (i = j))) : ∃ b, scEq (.int i) (.int j) = some b ∧ Pb b := ⟨_, rfl, p⟩
theorem x_ol (p : Pl xs) : ∃ ys, ol xs = ol ys ∧ Pl ys := ⟨_, rfl, p⟩
theorem unk1 {G : Gam} {i : Nat} (h : G[i]? = some .un) : Unk [i] G := fun j e hj g => by
  rw [List.mem_singleton.mp hj, h] at g
  exact (Option.some.inj g).symm
theorem unk2 {G : Gam} {i j : Nat} (h : G[i]? = some .un) (h2 : G[j]? = some .un) : Unk [i, j] G := fun k e hk g => by
  rcases List.mem_cons.mp hk with rfl | hk
  · rw [h] at g; exact (Option.some.inj g).symm
  · rw [List.mem_singleton.mp hk, h2] at g; exact (Option.some.inj g).symm
end
/-! ### displays of a known length -/
theorem ew_tup1 (h : EW K cs W ta G (fun a => φ (.tuple [a])) ε) : EW K cs W (tTup (tCons ta tNil)) G φ ε := ew_tup (aw_cons (ew_mono h fun a p => aw_nil ⟨by show 1 ≤ 16000000; decide, p⟩))
theorem ew_tup2 (h : EW K cs W ta G (fun a => EW K cs W tb G (fun b => φ (.tuple [a, b])) ε) ε) : EW K cs W (tTup (tCons ta (tCons tb tNil))) G φ ε := ew_tup (aw_cons (ew_mono h fun a h => aw_cons (ew_mono h fun b p => aw_nil ⟨by show 2 ≤ 16000000; decide, p⟩)))
theorem ew_tup3 (h : EW K cs W ta G (fun a => EW K cs W tb G (fun b => EW K cs W tc G (fun c => φ (.tuple [a, b, c])) ε) ε) ε) : EW K cs W (tTup (tCons ta (tCons tb (tCons tc tNil)))) G φ ε := ew_tup (aw_cons (ew_mono h fun a h => aw_cons (ew_mono h fun b h => aw_cons (ew_mono h fun c p => aw_nil ⟨by show 3 ≤ 16000000; decide, p⟩))))
theorem ef_lst0 (p : χ (ol [])) : EF K cs W (tLst tNil) G χ ε := ef_lst (aw_nil ⟨by show 0 ≤ 16000000; decide, p⟩)
theorem ef_lst1 (h : EW K cs W ta G (fun a => χ (ol [a])) ε) : EF K cs W (tLst (tCons ta tNil)) G χ ε := ef_lst (aw_cons (ew_mono h fun a p => aw_nil ⟨by show 1 ≤ 16000000; decide, p⟩))
theorem ef_lst3 (h : EW K cs W ta G (fun a => EW K cs W tb G (fun b => EW K cs W tc G (fun c => χ (ol [a, b, c])) ε) ε) ε) : EF K cs W (tLst (tCons ta (tCons tb (tCons tc tNil)))) G χ ε := ef_lst (aw_cons (ew_mono h fun a h => aw_cons (ew_mono h fun b h => aw_cons (ew_mono h fun c p => aw_nil ⟨by show 3 ≤ 16000000; decide, p⟩))))
theorem ew_lst0 (p : φ (.list [])) : EW K cs W (tLst tNil) G φ ε := ew_ef (ef_lst0 ⟨_, rfl, p⟩)
theorem ew_lst1 (h : EW K cs W ta G (fun a => φ (.list [a])) ε) : EW K cs W (tLst (tCons ta tNil)) G φ ε := ew_ef (ef_lst1 (ew_mono h fun a p => ⟨_, rfl, p⟩))
theorem ew_lst3 (h : EW K cs W ta G (fun a => EW K cs W tb G (fun b => EW K cs W tc G (fun c => φ (.list [a, b, c])) ε) ε) ε) : EW K cs W (tLst (tCons ta (tCons tb (tCons tc tNil)))) G φ ε := ew_ef (ef_lst3 (ew_mono h fun a h => ew_mono h fun b h => ew_mono h fun c p => ⟨_, rfl, p⟩))
/-! ### calls without defaults -/
section
variable {ta : TA} {P : Pr} {E : XK}
theorem ew_cP {P : List PyData → PyData → Prop} (h : AW K cs W ta G (fun ds => ∃ r, P ds r ∧ φ r) ε) : EW K cs W (tCall (spP K P) [] E ta) G φ ε := ew_callP (des := []) (fun _ => .nil) (aw_mono h fun ds p => by rw [List.append_nil]; exact p)
theorem ew_c0 (h : AW K cs W ta G (fun ds => P ds (rE φ noX)) ε) : EW K cs W (tCall (spW0 K P) [] E ta) G φ ε := ew_call0 (des := []) (fun _ => .nil) (aw_mono h fun ds p => by rw [List.append_nil]; exact p)
theorem ew_cW (h : AW K cs W ta G (fun ds => P ds (rE φ ε)) ε) : EW K cs W (tCallSD (spW K cs P) [] (WE W) ta) G φ ε := ew_callW (des := []) (fun _ => .nil) (aw_mono h fun ds p => by rw [List.append_nil]; exact p)
end
theorem rE_ok {x : PyData} (h : φ x) : rE φ ε (.ok x) := h
theorem rE_fl {xs : List PyData} (h : φ (.list xs)) : rE φ ε (.fl (ol xs)) := ⟨xs, rfl, h⟩
theorem rF_fl {c : Own} (h : χ c) : rF χ ε (.fl c) := h
/-! ### zip -/
theorem dp_sqv {M : Hp} {v : V} {x : PyData} {xs : List PyData} (hx : itemsOf x = some xs) (d : Dp K M v x) : ∃ k a vs, v = .ref a ∧ SqV K k M a vs ∧ DpAll K M vs xs := by
  rcases items_cases hx with rfl | rfl
  · cases d with
    | lst g t => exact ⟨.L, _, _, rfl, g, t⟩
  · cases d with
    | tup g t => exact ⟨.T, _, _, rfl, g, t⟩
theorem ex_v {M M' : Hp} {k : Kd} {a : Addr} {vs : List V} (e : Ex M M') (h : SqV K k M a vs) : SqV K k M' a vs := by
  cases k with
  | L => exact ex_l e h
  | T => exact ex_t e h
/-! ### stars -/
def GsW (K : Fg) (g : TGs) (G : Gam) (xs : List PyData) (γ : Gam → Prop) : Prop :=
  ∀ Wd B ad H0 H σ us, Sta K Wd B ad H0 H σ G → DpAll K (less H (Zs Wd B ad G)) us xs → ∀ Q : St → Hp → Prop,
  (∀ G' ad' H' σ', γ G' → Sta K Wd B ad' H0 H' σ' G' → Ex (less H (Zs Wd B ad G)) (less H' (Zs Wd B ad' G')) → Q σ' H') → g us σ H Q
theorem gsw_nil (h : γ G) : GsW K gNil G [] γ := fun Wd B ad H0 H σ us S d Q q => by
  cases d
  exact ⟨rfl, q _ _ _ _ h S (Ex.refl _)⟩
theorem gsw_cons {g : TG} {gs : TGs} {x : PyData} {xs : List PyData} (h : GW K g G x (fun G' => GsW K gs G' xs γ)) : GsW K (gCons g gs) G (x :: xs) γ := fun Wd B ad H0 H σ us S d Q q => by
  cases d with
  | cons a b =>
    refine ⟨_, _, rfl, h Wd B ad H0 H σ _ S a _ fun G1 ad1 H1 σ1 p S1 e1 => ?_⟩
    exact p Wd B ad1 H0 H1 σ1 _ S1 (dpa_mono e1 b) _ fun G2 ad2 H2 σ2 p S2 e2 => q G2 ad2 H2 σ2 p S2 (e1.trans e2)
theorem gw_tup {n : Nat} {gs : TGs} {xs : List PyData} (hn : xs.length = n) (h : GsW K gs G xs γ) : GW K (gTup K n gs) G (.tuple xs) γ := fun Wd B ad H0 H σ v S d Q q => by
  cases d with
  | tup g t => exact ⟨_, _, rfl, ex_t less_ex g, (dpa_len t).trans hn, h Wd B ad H0 H σ _ S t Q q⟩
/-- for i in range(n) -/
theorem forN {g : TG} {tb : TS} {k : Nat} (I : Nat → Gam → Prop) (h0 : I 0 G) (hs : ∀ i G1, i < k → I i G1 → GW K g G1 (.int i) (fun Gt => SW K cs W tb Gt (lp (I (i + 1)) Φ))) (he : ∀ G1, I k G1 → Φ (.nx G1)) : ForI K cs W g tb G Φ (rngD 0 k) := by
  refine ⟨I, h0, fun i x G1 hx hI => ?_, fun G1 hI => he G1 (by rw [rngD_len] at hI; exact hI)⟩
  have hl := (List.getElem?_eq_some_iff.mp hx).1
  rw [rngD_len] at hl
  rw [rngD_get hl] at hx
  cases hx
  rw [Int.zero_add]
  exact hs i G1 hl hI
section
variable {tz tu tw : TS} {g : TG} {wi : TI} {t : TT} {ti : TIp} {i j : Nat} {ta : TA}
theorem sw_seqA (h : SW K cs W (tAsg te g) G (sq K cs W tz Φ)) : SW K cs W (tSeq (tAsg te g) tz) G Φ := sw_seq h
theorem sw_seqF (h : SW K cs W (tFor wi g tu) G (sq K cs W tz Φ)) : SW K cs W (tSeq (tFor wi g tu) tz) G Φ := sw_seq h
end
theorem sw_cut {tu tz : TS} (J : Gam → Prop) (h : SW K cs W tu G (fun o => ∃ G1, o = .nx G1 ∧ J G1)) (k : ∀ G1, J G1 → SW K cs W tz G1 Φ) : SW K cs W (tSeq tu tz) G Φ := sw_seq (sw_mono h fun o ⟨G1, e, j⟩ => by rw [e]; exact k G1 j)
theorem x_nx {J : Gam → Prop} (h : J G) : ∃ G1, Out.nx G = .nx G1 ∧ J G1 := ⟨G, rfl, h⟩
/-! ### more of lists of one's own -/
end
end U.N

end
section
namespace U.N
open PySem PyProof.Rows L2 Evl
section
variable {φ : PyData → Prop} {n m : Nat} {p q : Fr}
/-! ### items by literal places -/
section
variable {α : Type} {ψ : α → Prop} {xs : List α} {z : α}
theorem at_nat {i : Nat} (h : xs[i]? = some z) (p : ψ z) : ∃ z, atI xs (i : Int) = some z ∧ ψ z := ⟨z, atI_nat h, p⟩
theorem at0 (h : xs[0]? = some z) (p : ψ z) : ∃ z, atI xs 0 = some z ∧ ψ z := at_nat (i := 0) h p
theorem at1 (h : xs[1]? = some z) (p : ψ z) : ∃ z, atI xs 1 = some z ∧ ψ z := at_nat (i := 1) h p
theorem at2 (h : xs[2]? = some z) (p : ψ z) : ∃ z, atI xs 2 = some z ∧ ψ z := at_nat (i := 2) h p
theorem atm {k : Nat} (hk : k ≤ xs.length) (hk0 : 0 < k) (h : xs[xs.length - k]? = some z) : atI xs (-(k : Int)) = some z := by
  unfold atI
  have e : ixN xs.length (-(k : Int)) = some (xs.length - k) := by
    unfold ixN
    split
    · omega
    · split
      · congr 1
        omega
      · omega
  rw [e]
  exact h
end
/-! ### what calls of the first layer's defs give -/
theorem c_pull {k : Int} (h0 : 0 < k) (h1 : k < 1000000000000) (h : ∀ v : Int, 0 ≤ v → v < k → φ (.int v)) (s : Bag) (ok : s.ok) : ∃ r s', P_pull s [.int k] r s' ∧ s'.ok ∧ φ r :=
  ⟨_, _, ⟨k, rfl, h0, h1, rfl, rfl⟩, pullS_ok _ ok, h _ (pullV_range s h0).1 (pullV_range s h0).2⟩
theorem c_part (h : ∀ p, Gd 10 p → φ (fr p)) (s : Bag) (ok : s.ok) : ∃ r s', P_part s [] r s' ∧ s'.ok ∧ φ r := ⟨_, _, ⟨rfl, rfl, rfl⟩, partS_ok ok, h _ (partOf_gd s)⟩
theorem c_plus (hp : Gd n p) (hq : Gd m q) (hl : n + m ≤ 7800) (h : Gd (n + m + 1) (addF p q) → φ (fr (addF p q))) : ∃ r, P_plus [fr p, fr q] r ∧ φ r := ⟨_, ⟨n, m, p, q, rfl, hp.sz, hq.sz, hl, ⟨hp.ne, hq.ne⟩, rfl⟩, h (hp.add hq)⟩
theorem c_minus (hp : Gd n p) (hq : Gd m q) (hl : n + m ≤ 7800) (h : Gd (n + m + 1) (subF p q) → φ (fr (subF p q))) : ∃ r, P_minus [fr p, fr q] r ∧ φ r := ⟨_, ⟨n, m, p, q, rfl, hp.sz, hq.sz, hl, ⟨hp.ne, hq.ne⟩, rfl⟩, h (hp.sub hq)⟩
theorem c_times (hp : Gd n p) (hq : Gd m q) (hl : n + m ≤ 7800) (h : Gd (n + m) (mulF p q) → φ (fr (mulF p q))) : ∃ r, P_times [fr p, fr q] r ∧ φ r := ⟨_, ⟨n, m, p, q, rfl, hp.sz, hq.sz, hl, ⟨hp.ne, hq.ne⟩, rfl⟩, h (hp.mul hq)⟩
theorem c_frac {a b : Int} (ha : Bd 4000 a) (hb : Bd 4000 b) (h : φ (fr (fracF a b))) : ∃ r, P_frac [.int a, .int b] r ∧ φ r := ⟨_, ⟨a, b, rfl, ha.mono (by decide), hb.mono (by decide), rfl⟩, h⟩
theorem c_over {ε : Xw → Prop} (hp : Gd n p) (hq : Gd m q) (hl : max n m ≤ 3900) (hne : q.1 ≠ 0) (h : Gd (n + m) (divF p q) → φ (fr (divF p q))) : ∃ r, P_over [fr p, fr q] r ∧ rX φ ε r := by
  refine ⟨_, ⟨p, q, rfl, hp.sz.mono (by omega), hq.sz.mono (by omega), hp.ne, rfl⟩, ?_⟩
  unfold overR
  rw [if_neg hne]
  exact h (hp.div hq hne)
end
end U.N


end
section
/-! Spots in order: the common number below, the keys, the order by worth. -/
namespace U
open PySem PyProof.Rows L2 Evl
theorem gi_cop {a b : Int} (h : gI a b = 1) (hb : b ≠ 0) : Nat.Coprime a.natAbs b.natAbs := by
  have h1 : gN a b = 1 := by unfold gI at h; omega
  unfold gN at h1
  have : 0 < Nat.gcd a.natAbs b.natAbs := Nat.gcd_pos_of_pos_right _ (by omega)
  unfold Nat.Coprime
  omega
theorem val_eq_iff {p q : Fr} (hp : 0 < p.2) (hq : 0 < q.2) : val p = val q ↔ p.1 * q.2 = q.1 * p.2 := qt_of (by simp (disch := with_unfolding_all
  have h1 := qne (Int.ne_of_gt hp)
  have h2 := qne (Int.ne_of_gt hq)
  unfold val
  constructor
  · intro h
    have : (p.1 : Rat) * q.2 = q.1 * p.2 := by grind
    exact_mod_cast this
  · intro h
    have : (p.1 : Rat) * q.2 = q.1 * p.2 := by exact_mod_cast h
    grind
  ) only [↓qt_eq])
theorem gd_inj {n m : Nat} {p q : Fr} (hp : Gd n p) (hq : Gd m q) (h : val p = val q) : p = q := qt_of (by simp (disch := with_unfolding_all
  have e := (val_eq_iff hp.pos hq.pos).mp h
  have c1 := gi_cop hp.low hp.ne
  have c2 := gi_cop hq.low hq.ne
  have en : p.1.natAbs * q.2.natAbs = q.1.natAbs * p.2.natAbs := by
    have := congrArg Int.natAbs e
    rwa [Int.natAbs_mul, Int.natAbs_mul] at this
  have d1 : p.2.natAbs ∣ q.2.natAbs := by
    have : p.2.natAbs ∣ p.1.natAbs * q.2.natAbs := en ▸ Nat.dvd_mul_left _ _
    exact Nat.Coprime.dvd_of_dvd_mul_left c1.symm this
  have d2 : q.2.natAbs ∣ p.2.natAbs := by
    have : q.2.natAbs ∣ q.1.natAbs * p.2.natAbs := en ▸ Nat.dvd_mul_left _ _
    exact Nat.Coprime.dvd_of_dvd_mul_left c2.symm this
  have e2 := Nat.dvd_antisymm d1 d2
  have p1 := hp.pos
  have p2 := hq.pos
  have e3 : p.2 = q.2 := by omega
  rw [e3] at e
  have e4 : p.1 = q.1 := Int.eq_of_mul_eq_mul_right (by omega) e
  exact Prod.ext e4 e3
  ) only [↓qt_eq])
/-! ### the common number -/
def lcI (a b : Int) : Int := (a * b).fdiv (gI a b)
theorem lcI_spec {a b : Int} (ha : 0 < a) (hb : 0 < b) : 0 < lcI a b ∧ a ∣ lcI a b ∧ b ∣ lcI a b := qt_of (by simp (disch := with_unfolding_all
  have e : gI a b = (Nat.gcd a.natAbs b.natAbs : Int) := by
    unfold gI gN
    have : 0 < Nat.gcd a.natAbs b.natAbs := Nat.gcd_pos_of_pos_right _ (by omega)
    omega
  obtain ⟨x, rfl⟩ : ∃ x : Nat, a = x := ⟨a.toNat, by omega⟩
  obtain ⟨y, rfl⟩ : ∃ y : Nat, b = y := ⟨b.toNat, by omega⟩
  have e1 : lcI x y = (Nat.lcm x y : Int) := by
    unfold lcI
    rw [e, Int.fdiv_eq_ediv_of_nonneg _ (Int.natCast_nonneg _)]
    show ((x : Int) * y) / ((Nat.gcd x y : Nat) : Int) = _
    unfold Nat.lcm
    norm_cast
  rw [e1]
  refine ⟨?_, ?_, ?_⟩
  · have := Nat.lcm_pos (m := x) (n := y) (by omega) (by omega)
    omega
  · exact_mod_cast Nat.dvd_lcm_left x y
  · exact_mod_cast Nat.dvd_lcm_right x y
  ) only [↓qt_eq])
theorem lcI_bd {n m : Nat} {a b : Int} (ha : Bd n a) (hb : Bd m b) : Bd (n + m) (lcI a b) := (ha.mul hb).fdiv _
def cbS (acc : Int) (s : List Fr) : Int := s.foldl (fun c f => lcI c f.2) acc
def cb (acc : Int) (ss : List (List Fr)) : Int := ss.foldl cbS acc
abbrev Gds' (a : Nat) (s : List Fr) : Prop := ∀ f ∈ s, Gd a f
theorem cbS_spec {a : Nat} : ∀ {s : List Fr} {n : Nat} {acc : Int}, Gds' a s → 0 < acc → Bd n acc → 0 < cbS acc s ∧ acc ∣ cbS acc s ∧ (∀ f ∈ s, f.2 ∣ cbS acc s) ∧ Bd (n + s.length * a) (cbS acc s)
  | [], n, acc, _, h, b => ⟨h, Int.dvd_refl _, (fun _ h => nomatch h), by simpa [cbS] using b⟩
  | f :: s, n, acc, g, h, b => by
    have gf := g f (List.mem_cons_self ..)
    obtain ⟨l1, l2, l3⟩ := lcI_spec h gf.pos
    obtain ⟨k1, k2, k3, k4⟩ := cbS_spec (s := s) (acc := lcI acc f.2) (fun x hx => g x (List.mem_cons_of_mem _ hx)) l1 (lcI_bd b gf.sz.2)
    refine ⟨k1, Int.dvd_trans l2 k2, fun x hx => ?_, ?_⟩
    · rcases List.mem_cons.mp hx with rfl | hx
      · exact Int.dvd_trans l3 k2
      · exact k3 x hx
    · refine k4.mono ?_
      rw [List.length_cons, Nat.succ_mul]; omega
/-! ### the keys -/
def kyF (c : Int) (f : Fr) : Int := f.1 * c.fdiv f.2
theorem kyF_val {c : Int} {f : Fr} (hp : 0 < f.2) (hd : f.2 ∣ c) : (kyF c f : Rat) = val f * c := qt_of (by simp (disch := with_unfolding_all
  obtain ⟨k, rfl⟩ := hd
  have e : (f.2 * k).fdiv f.2 = k := Int.mul_fdiv_cancel_left k (Int.ne_of_gt hp)
  unfold kyF val
  rw [e, Rat.intCast_mul, Rat.intCast_mul]
  have := qne (Int.ne_of_gt hp)
  grind
  ) only [↓qt_eq])
theorem ky_lt {c : Int} {f g : Fr} (hc : 0 < c) (hf : 0 < f.2) (hg : 0 < g.2) (df : f.2 ∣ c) (dg : g.2 ∣ c) : kyF c f < kyF c g ↔ val f < val g := qt_of (by simp (disch := with_unfolding_all
  have h0 := qpos hc
  have e1 := kyF_val hf df
  have e2 := kyF_val hg dg
  have k : kyF c f < kyF c g ↔ (kyF c f : Rat) < (kyF c g : Rat) := Rat.intCast_lt_intCast.symm
  rw [k, e1, e2]
  exact Rat.mul_lt_mul_right h0
  ) only [↓qt_eq])
theorem ky_eq {c : Int} {f g : Fr} (hc : 0 < c) (hf : 0 < f.2) (hg : 0 < g.2) (df : f.2 ∣ c) (dg : g.2 ∣ c) : kyF c f = kyF c g ↔ val f = val g := qt_of (by simp (disch := with_unfolding_all
  have h0 := qne (Int.ne_of_gt hc)
  have e1 := kyF_val hf df
  have e2 := kyF_val hg dg
  constructor
  · intro h
    have : (kyF c f : Rat) = (kyF c g : Rat) := by rw [h]
    rw [e1, e2] at this
    grind
  · intro h
    have : (kyF c f : Rat) = (kyF c g : Rat) := by rw [e1, e2, h]
    exact_mod_cast this
  ) only [↓qt_eq])
end U

end
section
/-! Dicts whose keys are tuples, nested ones too: by what they hold. -/
namespace U
open PySem PySem.Spec PyProof.Rows L2 Evl
abbrev NK := NestedKey
mutual
/-- data as keys -/
def toK : PyData → Option NK
  | .none => some .none
  | .int i => some (.num i)
  | .str x => some (.text x)
  | .tuple xs => (toKs xs).map .tup
  | _ => none
def toKs : List PyData → Option (List NK)
  | [] => some []
  | x :: xs => (toK x).bind fun k => (toKs xs).map (k :: ·)
end
section
variable {X : Cx} {pins : List (Addr × Obj)} {σ : L2.St} {H : Hp} {s : Shared}
mutual
theorem nk_is (I : Inv X pins σ H s) : ∀ {x : PyData} {v : V} {u : Value} {k : NK}, Dp X.K H v x → RelV v u → toK x = some k → NestedIs s.heap k u
  | _, _, _, _, .non, r, e => by cases e; cases r; exact .none
  | _, _, _, _, .bl b, r, e => by cases e
  | _, _, _, _, .int i, r, e => by
    cases e
    obtain ⟨t, rfl⟩ := r
    exact .int i t
  | _, _, _, _, .str x, r, e => by
    cases e
    obtain ⟨t, rfl⟩ := r
    exact .text x t
  | _, _, _, _, .lst h t, r, e => by cases e
  | .tuple xs, _, _, _, .tup h t, r, e => by
    have e : (toKs xs).map NestedKey.tup = some _ := e
    obtain ⟨ks, hks, rfl⟩ := Option.map_eq_some_iff.mp e
    cases r
    obtain ⟨its, rv, ⟨o, h1, h2, n, h3⟩, _⟩ := I.tuple h
    exact .tup h1 h2 h3 (by rw [List.toList_toArray]; exact nk_all I t rv hks)
theorem nk_all (I : Inv X pins σ H s) : ∀ {xs : List PyData} {vs : List V} {us : List Value} {ks : List NK}, DpAll X.K H vs xs → Vals vs us → toKs xs = some ks → NestedAll s.heap ks us
  | _, _, _, _, .nil, r, e => by cases e; cases r; exact .nil
  | x :: xs, _, _, _, .cons h t, r, e => by
    have e : ((toK x).bind fun k => (toKs xs).map (k :: ·)) = some _ := e
    obtain ⟨k, hk, e⟩ := Option.bind_eq_some_iff.mp e
    obtain ⟨ks, hks, rfl⟩ := Option.map_eq_some_iff.mp e
    cases r with
    | cons a b => exact .cons (nk_is I h a hk) (nk_all I t b hks)
end
/-- the tuple at b is the key k -/
def KeyIs (K : Fg) (H : Hp) (k : NK) (b : Addr) : Prop := ∃ x, Dp K H (.ref b) x ∧ toK x = some k ∧ k.depth ≤ 8
theorem KeyIs.nk {k : NK} {b : Addr} (I : Inv X pins σ H s) (h : KeyIs X.K H k b) : (nestedKind X.prog X.w).is s.heap k b := by
  obtain ⟨x, hd, hk, hl⟩ := h
  exact ⟨nk_is I hd rfl hk, hl⟩
end
abbrev Ent := NK × Addr × V
inductive Es : List Ent → List (NK × Addr × Value) → Prop
  | nil : Es [] []
  | cons {k : NK} {b : Addr} {v : V} {u : Value} {es : List Ent} {xs : List (NK × Addr × Value)} : RelV v u → Es es xs → Es ((k, b, v) :: es) ((k, b, u) :: xs)
theorem Es.len : ∀ {es : List Ent} {xs : List (NK × Addr × Value)}, Es es xs → es.length = xs.length
  | _, _, .nil => rfl
  | _, _, .cons _ t => congrArg (· + 1) t.len
theorem Es.keys : ∀ {es : List Ent} {xs : List (NK × Addr × Value)}, Es es xs → es.map (·.1) = xs.map (·.1)
  | _, _, .nil => rfl
  | _, _, .cons _ t => by rw [List.map_cons, List.map_cons, t.keys]
theorem Es.snoc : ∀ {es : List Ent} {xs : List (NK × Addr × Value)} {k : NK} {b : Addr} {v : V} {u : Value}, Es es xs → RelV v u → Es (es ++ [(k, b, v)]) (xs ++ [(k, b, u)])
  | _, _, _, _, _, _, .nil, r => .cons r .nil
  | _, _, _, _, _, _, .cons a t, r => .cons a (t.snoc r)
def findE (es : List Ent) (k : NK) : Option V := (es.find? fun e => decide (e.1 = k)).map (·.2.2)
def putE (es : List Ent) (k : NK) (b : Addr) (v : V) : List Ent := if (findE es k).isSome then es.map (fun e => if e.1 = k then (e.1, e.2.1, v) else e) else es ++ [(k, b, v)]
theorem Es.find : ∀ {es : List Ent} {xs : List (NK × Addr × Value)} {k : NK}, Es es xs → (findE es k = none ∧ atKey xs k = none) ∨ ∃ v p, findE es k = some v ∧ atKey xs k = some p ∧ RelV v p.2
  | _, _, _, .nil => .inl ⟨rfl, rfl⟩
  | (k', b, v) :: es, (_, _, u) :: xs, k, .cons r t => by
    by_cases h : k' = k
    · exact .inr ⟨v, (b, u), by simp [findE, h], by simp [atKey, h], r⟩
    · have e1 : findE ((k', b, v) :: es) k = findE es k := by simp [findE, h]
      have e2 : atKey ((k', b, u) :: xs) k = atKey xs k := by simp [atKey, h]
      rw [e1, e2]
      exact t.find
theorem Es.mput {k : NK} {v : V} {u : Value} (r : RelV v u) : ∀ {es : List Ent} {xs : List (NK × Addr × Value)}, Es es xs → Es (es.map (fun e => if e.1 = k then (e.1, e.2.1, v) else e)) (xs.map (putAt k u))
  | _, _, .nil => .nil
  | (k', b, v') :: es, (_, _, u') :: xs, .cons a t => by
    rw [List.map_cons, List.map_cons, putAt]
    by_cases h : k' = k
    · rw [if_pos h, if_pos h]
      exact .cons r (t.mput r)
    · rw [if_neg h, if_neg h]
      exact .cons a (t.mput r)
theorem Es.put {k : NK} {b : Addr} {v : V} {u : Value} {es : List Ent} {xs : List (NK × Addr × Value)} (h : Es es xs) (r : RelV v u) : Es (putE es k b v) (storedH xs k b u) := by
  unfold putE storedH
  rcases h.find (k := k) with ⟨e1, e2⟩ | ⟨v', p, e1, e2, _⟩
  · rw [e1, e2]
    exact h.snoc r
  · rw [e1, e2]
    exact h.mput r
theorem putE_len {es : List Ent} {k : NK} {b : Addr} {v : V} : (putE es k b v).length ≤ es.length + 1 := by
  unfold putE
  split
  · rw [List.length_map]; omega
  · rw [List.length_append]; exact Nat.le_refl _
/-- a key that may stand in a dict -/
def KGood (k : NK) : Prop := k.depth ≤ 8 ∧ ∃ ks, k = .tup ks
def toKd (x : PyData) : NK := (toK x).getD .none
theorem toKd_good {x : PyData} (h : KGood (toKd x)) : toK x = some (toKd x) := by
  obtain ⟨_, ks, h⟩ := h
  unfold toKd at h ⊢
  cases e : toK x with
  | none => rw [e] at h; cases h
  | some k => rfl
/-- the tuple at b is the key k, if k is one -/
def KeyW (K : Fg) (H : Hp) (k : NK) (b : Addr) : Prop := ∃ x, Dp K H (.ref b) x ∧ toKd x = k
theorem KeyW.is {K : Fg} {H : Hp} {k : NK} {b : Addr} (h : KeyW K H k b) (g : KGood k) : KeyIs K H k b := by
  obtain ⟨x, hd, rfl⟩ := h
  exact ⟨x, hd, toKd_good g, g.1⟩
theorem KeyIs.good {K : Fg} {H : Hp} {k : NK} {b : Addr} (h : KeyIs K H k b) : KGood k := qt_of (by simp (disch := with_unfolding_all
  obtain ⟨x, hd, hk, hl⟩ := h
  refine ⟨hl, ?_⟩
  cases hd with
  | lst a b => cases hk
  | tup a b =>
    obtain ⟨ks, _, e⟩ := Option.map_eq_some_iff.mp (show (toKs _).map NestedKey.tup = some k from hk)
    exact ⟨ks, e.symm⟩
  ) only [↓qt_eq])
/-- the dict at a holds es; ep its epoch -/
def DctN (w : World) (h : Heap) (a : Addr) (ep : Nat) (es : List Ent) : Prop := es.length ≤ sizeLine ∧ (a == sysModules) = false ∧ ((es.map (·.1)).Nodup ∧ ∀ e ∈ es, KGood e.1) ∧
  ∃ o ent xs, h.get? a = some o ∧ o.ExactDict ∧ o.data = .dict ent ep ∧ Es es xs ∧ ent.toList = xs.map fun x => ⟨x.1.hash w, .ref x.2.1, x.2.2⟩
def DctO (w : World) (a : Addr) (ep : Nat) (es : List Ent) : HO := .ext fun h => DctN w h a ep es
/-- the dict at a, its keys tuples that H holds -/
def DctH (K : Fg) (w : World) (H : Hp) (a : Addr) (ep : Nat) (es : List Ent) : Prop := H a = some (DctO w a ep es) ∧ ∀ e ∈ es, KeyW K H e.1 e.2.1
section
variable {X : Cx} {pins : List (Addr × Obj)} {σ : L2.St} {H : Hp} {s : Shared} {a b : Addr} {ep : Nat} {es : List Ent} {k : NK}
theorem dct_ok {P : Program} {w : World} {h : Heap} (R : DctN w h a ep es) : ObjOk P w H h a (DctO w a ep es) := by
  obtain ⟨h1, h2, h3, o, ent, xs, ho, r⟩ := id R
  refine ⟨R, ⟨o, ho⟩, fun h1 h2 p q => ?_⟩
  obtain ⟨k1, k2, k3, o', ent', xs', ho', r'⟩ := p
  exact ⟨k1, k2, k3, o', ent', xs', q _ ho', r'⟩
theorem dct_at (I : Inv X pins σ H s) (hD : H a = some (DctO X.w a ep es)) : DctN X.w s.heap a ep es :=
  have ok : ObjOk X.prog X.w H s.heap a (DctO X.w a ep es) := I.hok a _ hD
  ok.1
theorem es_keys {P : NK → Addr → Prop} : ∀ {es : List Ent} {xs : List (NK × Addr × Value)}, Es es xs → (∀ e ∈ es, P e.1 e.2.1) → ∀ x ∈ xs, P x.1 x.2.1
  | _, _, .nil, _, x, hx => nomatch hx
  | _, _, .cons (k := k) (b := b) (v := v) (es := es) r t, hk, x, hx => by
    rcases List.mem_cons.mp hx with rfl | hx
    · exact hk _ (List.mem_cons_self ..)
    · exact es_keys t (fun e he => hk e (List.mem_cons_of_mem _ he)) x hx
theorem dct_h (I : Inv X pins σ H s) (hD : DctH X.K X.w H a ep es) : ∃ xs, Es es xs ∧ s.heap.DictOfH (nestedKind X.prog X.w) a xs ∧ (a == sysModules) = false ∧ xs.length ≤ sizeLine := qt_of (by simp (disch := with_unfolding_all
  obtain ⟨hD, hk⟩ := hD
  obtain ⟨h1, h2, h3, o, ent, xs, ho, hc, hd, he, hl⟩ := dct_at I hD
  refine ⟨xs, he, ⟨o, ent, ep, ho, hc, hd, hl, fun x hx => ?_, by rw [← he.keys]; exact h3.1⟩, h2, by rw [← he.len]; exact h1⟩
  exact (es_keys (P := fun k b => KeyIs X.K H k b) he (fun e m => (hk e m).is (h3.2 e m)) x hx).nk I
  ) only [↓qt_eq])
theorem dct_of (hg : ∀ e ∈ es, KGood e.1) {P : Program} {w : World} {h : Heap} {xs : List (NK × Addr × Value)} (he : Es es xs) (hm : h.DictOfH (nestedKind P w) a xs) (hd : (a == sysModules) = false) (hl : es.length ≤ sizeLine) : ∃ ep, DctN w h a ep es := by
  obtain ⟨o, ent, ep, ho, hc, hdat, e, his, hn⟩ := hm
  exact ⟨ep, hl, hd, ⟨by rw [he.keys]; exact hn, hg⟩, o, ent, xs, ho, hc, hdat, he, e⟩
/-! ### {}, d[k], d[k] = v, d.get(k, x) -/
theorem dct_new (h : Heap) (w : World) (hb : sysModules < h.objs.size) : DctN w (h.push { cls := .type "dict", data := .dict #[] }) h.objs.size 0 [] :=
  ⟨Nat.zero_le _, beq_eq_false_iff_ne.mpr (Ne.symm (Nat.ne_of_lt hb)), ⟨List.nodup_nil, fun _ h => nomatch h⟩, _, #[], [], Heap.get?_push_size _ rfl, ⟨rfl, rfl, rfl⟩, rfl, .nil, rfl⟩
/-- d[k] -/
def rDx (K : Fg) (w : World) : R2 := fun x y H Q => ∃ a b ep es k v, x = .ref a ∧ y = .ref b ∧ DctH K w H a ep es ∧ KeyIs K H k b ∧ findE es k = some v ∧ Q v H
theorem room_in1 {A : Around} (hu : A.units + 9 < cLine) : (nestedKind X.prog X.w).room A.in1 := by
  show A.in1.units + 8 < cLine
  have : A.in1.units = A.units + 1 := rfl
  omega
theorem ix_dct (hu : X.A.units + 9 < cLine) : IxR X (rDx X.K X.w) := by
  intro value slice pins s σ H x y v u Q I rx ry h hs
  obtain ⟨a, b, ep, es, k, r, rfl, rfl, hD, hk, hf, q⟩ := h
  obtain rfl : v = Value.ref a := rx
  obtain rfl : u = Value.ref b := ry
  obtain ⟨xs, he, hm, h1, h2⟩ := dct_h I hD
  rcases he.find (k := k) with ⟨e, _⟩ | ⟨v', p, e1, e2, e3⟩
  · rw [hf] at e; cases e
  · rw [hf] at e1
    cases e1
    exact tail_any hm.typeIs PySem.F.slot_dict_getitem.lookup (wpAny_getItem_heap (room_in1 hu) (hk.nk I) hm e2 ⟨r, H, I.tok _, e3, q⟩) hs
theorem putE_good {v : V} (hg : ∀ e ∈ es, KGood e.1) (hk : KGood k) : ∀ e ∈ putE es k b v, KGood e.1 := fun e he => by
  unfold putE at he
  split at he
  · obtain ⟨e', h1, rfl⟩ := List.mem_map.mp he
    by_cases z : e'.1 = k
    · rw [if_pos z]; exact hg e' h1
    · rw [if_neg z]; exact hg e' h1
  · rcases List.mem_append.mp he with h | h
    · exact hg e h
    · rw [List.mem_singleton.mp h]; exact hk
theorem dct_put (hk : KGood k) {h' : Heap} {xs : List (NK × Addr × Value)} {t' : Nat} {v : V} {r : Value} (I : Inv X pins σ H s) (hD : H a = some (DctO X.w a ep es)) (he : Es es xs) (rv : RelV v r) (h1 : (a == sysModules) = false) (hl : es.length < sizeLine) (hm' : h'.DictOfH (nestedKind X.prog X.w) a (storedH xs k b r)) (hs : Heap.SameBut a s.heap h') : ∃ ep', Inv X pins σ (upd H a (DctO X.w a ep' (putE es k b v))) { s with heap := h', toks := t' } := qt_of (by simp (disch := with_unfolding_all
  have hz : (putE es k b v).length ≤ sizeLine := Nat.le_trans putE_len hl
  obtain ⟨ep', hN⟩ := dct_of (putE_good (dct_at I hD).2.2.1.2 hk) (he.put (k := k) (b := b) rv) hm' h1 hz
  have hq : ∃ q, h'.get? a = some q := let ⟨q, _, _, hq, _⟩ := hm'; ⟨q, hq⟩
  exact ⟨ep', d_write I (by rw [hD]; exact True.intro) hs hq (dct_ok hN)⟩
  ) only [↓qt_eq])
end
end U

end
section
/-! Dicts with tuple keys: walked, and made by a comprehension. -/
namespace U
open PySem PySem.Spec PyProof.Rows L2 Evl
/-- the keys of a dict, in order -/
def ItKd (w : World) (a : Addr) (ep : Nat) (es : List Ent) : It :=
  ⟨fun i H => H a = some (DctO w a ep es) ∧ i < es.length, fun i H x H' => H' = H ∧ ∃ k b v, es[i]? = some (k, b, v) ∧ x = .ref b, fun i H => H a = some (DctO w a ep es) ∧ es.length ≤ i⟩
theorem Es.at_ : ∀ {es : List Ent} {xs : List (NK × Addr × Value)}, Es es xs → ∀ {i : Nat} {k : NK} {b : Addr} {v : V}, es[i]? = some (k, b, v) → ∃ u, xs[i]? = some (k, b, u) ∧ RelV v u
  | _, _, .nil, i, _, _, _, h => by simp at h
  | _, _, .cons r t, 0, _, _, _, h => by
    simp only [List.getElem?_cons_zero, Option.some.injEq, Prod.mk.injEq] at h
    obtain ⟨rfl, rfl, rfl⟩ := h
    exact ⟨_, rfl, r⟩
  | _, _, .cons r t, i + 1, _, _, _, h => by
    obtain ⟨u, h1, h2⟩ := t.at_ (i := i) (by simpa using h)
    exact ⟨u, by simpa using h1, h2⟩
section
variable {P : Program} {w : World} {K : Fg} {tg : Expr} {d : Addr} {ep : Nat} {es : List Ent}
theorem turn_dct (it : Addr) : L2.Turn P w K tg (ItKd w d ep es) [it] it (fun i h => h.IsKeyIter it d i es.length ep) where
  mem := by simp
  obj := fun i h st b hb => by
    have e : b = it := by simpa using hb
    subst e
    obtain ⟨oi, e, c, dd⟩ := st
    exact ⟨oi, e, fun v z => by rw [dd] at z; cases z⟩
  keep := fun i h h' st k => st.at fun oi e => k it (by simp) oi e
  item := by
    intro X hP hw hK hc i pins s σ H E I hf st hg
    subst hP hw hK
    obtain ⟨hd, hi⟩ := hg
    obtain ⟨f0, f1, f2, f3, f4, f5⟩ := hf it (by simp)
    obtain ⟨n1, n2, n3, o, ent, xs, ho, hx, hdt, he, hl⟩ := dct_at I hd
    obtain ⟨⟨k, b, v⟩, hkv⟩ : ∃ p, es[i]? = some p := ⟨es[i], List.getElem?_eq_getElem hi⟩
    obtain ⟨u, hu, _⟩ := he.at_ hkv
    have hsz : ent.size = es.length := by rw [← Array.length_toList, hl, List.length_map, he.len]
    have hen : ent[i]? = some ⟨k.hash X.w, .ref b, u⟩ := by rw [← Array.getElem?_toList, hl, List.getElem?_map, hu] <;> rfl
    refine next_key_item st ho hdt hsz hen fun h' st' sb => ?_
    have I1 : Inv X pins σ H { s with heap := h' } := I.turned (t' := s.toks) (fun b ob hb e => (sb.2 b hb).trans e) f0 f1 f3 f4 f5
    obtain ⟨oi, e, c, dd⟩ := id st'
    exact ⟨_, rfl, go_of (s := { s with heap := h' }) e c dd (by decide) ⟨.ref b, H, I1, rfl, ⟨rfl, k, b, v, hkv, rfl⟩, st', fun b hb => (hf b hb).1⟩⟩
  done := by
    intro X hP hw hK hc i pins s σ H E I hf st hg
    subst hP hw hK
    obtain ⟨hd, hi⟩ := hg
    obtain ⟨f0, f1, f2, f3, f4, f5⟩ := hf it (by simp)
    obtain ⟨n1, n2, n3, o, ent, xs, ho, hx, hdt, he, hl⟩ := dct_at I hd
    have hsz : ent.size = es.length := by rw [← Array.length_toList, hl, List.length_map, he.len]
    exact next_key_end (I.ok.hd hc) st ho hdt hsz hi fun h' eb => ⟨rfl, I.turned (t' := s.toks) (fun b ob hb e => eb b ob hb e) f0 f1 f3 f4 f5⟩
  self := fun A i s Q E st h => by
    refine wpAny_pyIter_slot st.typeIs F.slot_dict_keyiterator_iter (wpAny_call_entry F.slot_dict_keyiterator_iter st.typeIs F.entry_dict_keyiterator_iter ?_ (F.args_dict_keyiterator_iter_1 _))
    show wpAny _ _ (ret (.ref it)) _ _ s
    exact wpAny_pure ⟨_, rfl, "dict_keyiterator", _, st.typeIs, F.slot_dict_keyiterator_next.lookup, h⟩
end
/-- for k in d -/
def iDct (w : World) (td : TE) : TI := fun σ H R => td σ H fun x H1 => ∃ d ep es, x = .ref d ∧ H1 d = some (DctO w d ep es) ∧ R (ItKd w d ep es) H1
section
variable {X : Cx} {tg e : Expr} {td : TE}
theorem pi_dct (he : PE X e td) : PI X tg e (iDct X.w td) := qt_of (by simp (disch := with_unfolding_all
  refine ⟨fun pins s σ H R I h => ?_⟩
  refine thn (he.run pins s σ H _ I h) fun u s1 ⟨x, H1, I1, rx, d, ep, es, ex, hd, q⟩ => ?_
  subst ex
  obtain rfl : u = Value.ref d := rx
  obtain ⟨n1, n2, n3, o, ent, xs, ho, hx, hdt, hee, hl⟩ := dct_at I1 hd
  have hsz : ent.size = es.length := by rw [← Array.length_toList, hl, List.length_map, hee.len]
  refine iter_keys n2 ho hx hdt (pi_one (tk := s1.toks) I1 _ (turn_dct _) ⟨_, Heap.get?_push_size _ rfl, rfl, ?_⟩ q)
  rw [hsz] <;> rfl
  ) only [↓qt_eq])
end
section
variable {X : Cx} {pins : List (Addr × Obj)} {σ : L2.St} {H : Hp} {s : Shared}
theorem dct_dset {E : Value → Shared → Prop} {D b : Addr} {ep : Nat} {es : List Ent} {k : NK} {v : V} {u r : Value} {Q : Unit → Shared → Prop} (hu : X.A.units + 9 < cLine) (I : Inv X pins σ H s) (hD : DctH X.K X.w H D ep es) (hk : KeyIs X.K H k b) (hz : es.length < sizeLine)
    (ry : RelV (.ref b) u) (rv : RelV v r) (h : ∀ ep' s', Inv X pins σ (upd H D (DctO X.w D ep' (putE es k b v))) s' → Q () s') : wpAny (model X.prog X.w) X.A (dictSet D u r) Q E s := qt_of (by simp (disch := with_unfolding_all
  obtain rfl : u = Value.ref b := ry
  obtain ⟨xs, he, hm, h1, h2⟩ := dct_h I hD
  have hr : (nestedKind X.prog X.w).room X.A := by
    show X.A.units + 8 < cLine
    omega
  refine wpAny_dictSet_heap (hsz := h2) hr (hk.nk I) hm fun h' hm' hs => ?_
  obtain ⟨ep', I'⟩ := dct_put hk.good (t' := s.toks + (nestedKind X.prog X.w).draws k) I hD.1 he rv h1 hz hm' hs
  exact h ep' _ I'
  ) only [↓qt_eq])
end
section
variable {X : Cx}
/-- {k: v for target in iter if ..}, keys tuples: D the new dict (follows HandS.DictComp, whose keys are ints and texts) -/
def tDcd (K : Fg) (w : World) (wi : TI) (g : TG) (tt : TT) (tk tv : TE) (vs : List Nat) : TE := fun σ H Q => wi σ H fun J H1 => ∀ D, H1 D = none → ∃ W : Nat → Nat → Hp → Prop, (∃ m, W 0 m (upd H1 D (DctO w D 0 []))) ∧ ∀ i m H, W i m H →
  (J.stop i H ∧ Q (.ref D) H) ∨ (J.go i H ∧ ∃ Nx : Hp → Prop, (∀ H', Nx H' → ∃ m', m' < m ∧ W (i + 1) m' H') ∧ ∀ x H', J.yld i H x H' → g x (wipe σ vs) H' fun σ2 H2 => wipe σ2 vs = wipe σ vs ∧ tt σ2 H2 fun b H3 =>
    if b = true then tk σ2 H3 fun y H4 => tv σ2 H4 fun z H5 => ∃ b ep es k, y = .ref b ∧ DctH K w H5 D ep es ∧ KeyIs K H5 k b ∧ es.length < sizeLine ∧ ∀ ep', Nx (upd H5 D (DctO w D ep' (putE es k b z))) else Nx H3)
theorem dcd_core {pins : List (Addr × Obj)} {s : Shared} {σ : St} {H : Hp} {Q : VK} {kx vx tg iter : Expr} {ifs : List Expr} {scope : Scope} {own : List (Str × Nat)} {pos pos' : Pos} {wi : TI} {g : TG} {tt : TT} {tk tv : TE} {use : Option (Value → Sem Unit)} {Qf : Value → Shared → Prop}
    (hu : X.A.units + 9 < cLine) (hc : X.calm = true) (hN : X.N.Nodup) (I : Inv X pins σ H s) (hi : PI X tg iter wi) (ok : BlkOk X.N X.env.scope scope own)
    (hg : ∀ (s : Shared) (H : Hp) (C : Addr) (cl : List (Str × Addr)) (fp : List Addr), PG (X.blk s H scope (compEnvC scope cl C X.env) fp) tg g) (ht : ∀ (s : Shared) (H : Hp) (C : Addr) (cl : List (Str × Addr)) (fp : List Addr), PTs (X.blk s H scope (compEnvC scope cl C X.env) fp) ifs tt)
    (hk : ∀ (s : Shared) (H : Hp) (C : Addr) (cl : List (Str × Addr)) (fp : List Addr), PE (X.blk s H scope (compEnvC scope cl C X.env) fp) kx tk)
    (he : ∀ (s : Shared) (H : Hp) (C : Addr) (cl : List (Str × Addr)) (fp : List Addr), PE (X.blk s H scope (compEnvC scope cl C X.env) fp) vx tv) (hs : ∀ x, foldedSetIterable iter X.env x = pure x)
    (h : tDcd X.K X.w wi g tt tk tv (own.map (·.2)) σ H Q)
    (hRR : ∀ D C s' m H', Inv X pins σ H' s' → Q (.ref D) H' → s'.heap.Ns C m → FpOk X pins H' C → compPost (model X.prog X.w) X.A X.xe use Qf (.ref D) C (.ok .next) s') :
    wpAny (model X.prog X.w) X.A (comprehension (.DictComp kx vx [⟨tg, iter, ifs, 0⟩] scope pos) scope X.env pos' newDict false (eval iter X.env) use) Qf X.xe s := qt_of (by simp (disch := with_unfolding_all
  have hfree : ∀ y ∈ scope.names, y.2 = .free → ∃ c, X.env.cells.lookup y.1 = some c := fun y hy e => by
    rcases ok.free y hy e with k | k
    · exact I.ok.has _ (.inl k)
    · exact I.ok.has _ (.inr k)
  refine wpAny_comprehension_free (use := use) rfl hs (closure_ok hfree) ok.kind (fun y hy e => by rw [ok.uniq y hy, e])
    (thn (hi.run pins s σ H _ I h) fun xv s1 hx => thn hx fun itv s2 h2 => ?_)
  obtain ⟨it, fp, tn, J, H2, e, I2, T, st2, f2, q⟩ := h2
  subst e
  refine wpAny_newObj_type (newEnv_comp ?_)
  generalize hD : s2.heap.objs.size = D
  have hDn : H2 D = none := I2.hok.fresh (Nat.le_of_eq hD)
  obtain ⟨W, ⟨m0, w0⟩, turn⟩ := q D hDn
  -- the new list
  generalize hs3 : ({ s2 with heap := s2.heap.push { cls := .type "dict", data := .dict #[] } } : Shared) = s3
  have I3 : Inv X pins σ (upd H2 D (DctO X.w D 0 [])) s3 := by
    rw [← hs3]
    refine I2.laid (t' := s2.toks) (fun b o e => Heap.get?_push_of_some _ e) (Nat.le_of_eq hD) ?_
    rw [← hD]
    exact dct_ok (dct_new s2.heap X.w I2.big)
  have h3 : s3.heap = s2.heap.push { cls := .type "dict", data := .dict #[] } := by rw [← hs3]
  have sz : ∀ b ∈ fp, b < s2.heap.objs.size := fun b hb => by
    obtain ⟨o, e, _⟩ := T.obj _ _ st2 b hb
    exact Heap.lt_size e
  have f3 : ∀ b ∈ fp, FpOk X pins (upd H2 D (DctO X.w D 0 [])) b ∧ b < s3.heap.objs.size := fun b hb => by
    have hlt := sz b hb
    refine ⟨⟨?_, (f2 b hb).2⟩, by rw [h3, Heap.size_push]; exact Nat.lt_succ_of_lt hlt⟩
    rw [upd_ne (by rw [← hD]; exact Nat.ne_of_lt hlt)]
    exact (f2 b hb).1
  have st3 : tn 0 s3.heap := T.keep _ _ _ st2 fun b _ o e => by rw [h3]; exact Heap.get?_push_of_some _ e
  have I4 := block_start I3 ok hN f3
  have pg := hg s3 (upd H2 D (DctO X.w D 0 [])) s3.heap.objs.size (cellsFrom (s3.heap.objs.size + 1) scope.names (cloFrom X.env.cells scope.names [])) fp
  have pt := ht s3 (upd H2 D (DctO X.w D 0 [])) s3.heap.objs.size (cellsFrom (s3.heap.objs.size + 1) scope.names (cloFrom X.env.cells scope.names [])) fp
  have pk := hk s3 (upd H2 D (DctO X.w D 0 [])) s3.heap.objs.size (cellsFrom (s3.heap.objs.size + 1) scope.names (cloFrom X.env.cells scope.names [])) fp
  have pe := he s3 (upd H2 D (DctO X.w D 0 [])) s3.heap.objs.size (cellsFrom (s3.heap.objs.size + 1) scope.names (cloFrom X.env.cells scope.names [])) fp
  show codeAny _ _ (.compStart (.DictComp kx vx [⟨tg, iter, ifs, 0⟩] scope pos) 0 (.ref it) (.ref D) (compEnvC scope (cellsFrom (s3.heap.objs.size + 1) scope.names (cloFrom X.env.cells scope.names [])) s3.heap.objs.size X.env)) (compPost (model X.prog X.w) X.A X.xe use Qf (.ref D) s3.heap.objs.size) { s3 with heap := pushCells (s3.heap.push { cls := .type "dict", data := .dict #[] }) scope.names }
  have nfp : ∀ b ∈ fp, (upd H2 D (DctO X.w D 0 [])) b = none := fun b hb => (f3 b hb).1.1
  generalize hce : compEnvC scope (cellsFrom (s3.heap.objs.size + 1) scope.names (cloFrom X.env.cells scope.names [])) s3.heap.objs.size X.env = ce at I4 pg pt pk pe ⊢
  have cL : ce.locals = s3.heap.objs.size := by subst hce; rfl
  generalize hH3 : upd H2 D (DctO X.w D 0 []) = H3 at I3 I4 pg pt pk pe w0 nfp f3
  generalize hs4 : ({ s3 with heap := pushCells (s3.heap.push { cls := .type "dict", data := .dict #[] }) scope.names } : Shared) = s4 at I4 ⊢
  have st4 : tn 0 s4.heap := T.keep _ _ _ st3 fun b _ o e => by rw [← hs4]; exact pushCells_keeps _ _ _ _ (Heap.get?_push_of_some _ e)
  have stat : ∀ {σ' : St} {H' : Hp} {s' : Shared}, Inv (X.blk s3 H3 scope ce fp) [] σ' H' s' → (∀ b ∈ fp, H' b = none) → ∀ b ∈ fp, FpOk (X.blk s3 H3 scope ce fp) [] H' b := fun {σ' H' s'} I' hn b hb =>
    ⟨hn b hb, (I'.ok.exf b hb).1, I'.ok.exfs b hb, .inl hb, fun x c e => (I'.ok.exf b hb).2 x c e, fun p hp => absurd (show p ∈ ([] : List (Addr × Obj)) ++ [] from hp) (by simp)⟩
  have loop : codeAny (model X.prog X.w) X.A (.compLoop (.DictComp kx vx [⟨tg, iter, ifs, 0⟩] scope pos) 0 (.ref it) (.ref D) ce) (compPost (model X.prog X.w) X.A X.xe use Qf (.ref D) s3.heap.objs.size) s4 := by
    refine compLoop_anyD (fun n s' => ∃ i H', Inv (X.blk s3 H3 scope ce fp) [] (wipe σ (own.map (·.2))) H' s' ∧ tn i s'.heap ∧ (∀ b ∈ fp, H' b = none) ∧ W i n H') ?_ m0 ⟨0, H3, I4, st4, nfp, w0⟩
    rintro n s5 ⟨i, H5, I5, st5, n5, w5⟩
    rcases turn i n H5 w5 with ⟨stop, qq⟩ | ⟨go, Nx, hNx, step⟩
    · have td := T.done (X.blk s3 H3 scope ce fp) rfl rfl rfl hc i [] s5 _ H5 (fun _ _ => False) I5 (stat I5 n5) st5 stop
      refine thnF td fun r s6 ⟨hr, I6⟩ => ?_
      subst hr
      -- back in the def's context
      have I7 : Inv X pins σ H5 s6 := I3.call' (ch := fp) I6.os I6.base I6.hok I6.bare fun b hb => ⟨(f3 b hb).1.2.2.2.1, (f3 b hb).1.2.1, (f3 b hb).1.2.2.2.2.1, (f3 b hb).1.2.2.2.2.2⟩
      have nC : H5 s3.heap.objs.size = none := by
        have z : H5 ce.locals = none := I6.free
        rw [cL] at z
        exact z
      obtain ⟨m, hn, _⟩ := I6.loc
      have hn : s6.heap.Ns ce.locals m := hn
      rw [cL] at hn
      exact hRR D s3.heap.objs.size s6 m H5 I7 qq hn (I3.fpOk (Nat.le_refl _) nC)
    · have ti := T.item (X.blk s3 H3 scope ce fp) rfl rfl rfl hc i [] s5 _ H5 (fun _ _ => False) I5 (stat I5 n5) st5 go
      refine thnF ti fun r s6 ⟨u, hr, h6⟩ => ?_
      subst hr
      refine thnF h6 fun _ s7 ⟨x, H7, I7, r7, y7, st7, n7⟩ => ?_
      have I7' := I7.pinned (stat I7 n7) (T.obj _ _ st7)
      refine thnF (pg.run _ s7 _ H7 x u _ I7' r7 (step x H7 y7)) fun _ s8 ⟨σ8, H8, I8, hw8, q8⟩ => ?_
      refine thnF (pt.run _ s8 σ8 H8 _ I8 q8) fun b s9 ⟨H9, I9, q9⟩ => ?_
      -- the turn's end
      have fin : ∀ {s' : Shared} {H' : Hp}, Inv (X.blk s3 H3 scope ce fp) ([] ++ pinsAt fp s7.heap) σ8 H' s' → Nx H' → ∃ m, m < n ∧ ∃ i H', Inv (X.blk s3 H3 scope ce fp) [] (wipe σ (own.map (·.2))) H' s' ∧ tn i s'.heap ∧ (∀ b ∈ fp, H' b = none) ∧ W i m H' := fun {s' H'} I' nx => by
        obtain ⟨m', hm, w'⟩ := hNx H' nx
        have pin' : ∀ b ∈ fp, ∀ o, s7.heap.get? b = some o → s'.heap.get? b = some o ∧ H' b = none := fun b hb o e =>
          let z := I'.pin (b, o) (List.mem_append_right _ (List.mem_append_right _ (mem_pinsAt hb e)))
          ⟨z.1, z.2.1⟩
        have hl : (wipe σ (own.map (·.2))).length = σ8.length := by rw [← hw8, wipe_length]
        refine ⟨m', hm, i + 1, H', (I'.unpinned (pins := [])).weak hl (fun j v e => ?_), T.keep _ _ _ st7 fun b hb o e => (pin' b hb o e).1, fun b hb => ?_, w'⟩
        · rw [← hw8] at e
          exact (wipe_some e).1
        · obtain ⟨o, e, _⟩ := T.obj _ _ st7 b hb
          exact (pin' b hb o e).2
      cases b with
      | false =>
        simp only [Bool.false_eq_true, if_false] at q9 ⊢
        exact fin I9 q9
      | true =>
        simp only [if_true] at q9 ⊢
        refine thnF (pk.run _ s9 σ8 H9 _ I9 q9) fun z s10 ⟨yk, H10, I10, r10, q10⟩ => ?_
        refine thnF (pe.run _ s10 σ8 H10 _ I10 q10) fun z2 s11 ⟨yv, H11, I11, r11, b, ep, es, k, ek, hD11, hk11, hz11, nx⟩ => ?_
        subst ek
        exact dct_dset (X := X.blk s3 H3 scope ce fp) hu I11 hD11 hk11 hz11 r10 r11 fun ep' s12 I12 => fin I12 (nx ep')
  exact codeAny_compStart_dict loop (T.self X.A 0 _ _ _ st4 loop)
  ) only [↓qt_eq])
/-- as a value -/
theorem pe_dcd {kx vx tg iter : Expr} {ifs : List Expr} {scope : Scope} {own : List (Str × Nat)} {pos : Pos} {wi : TI} {g : TG} {tt : TT} {tk tv : TE} (hu : X.A.units + 9 < cLine) (hc : X.calm = true) (hN : X.N.Nodup) (hi : PI X tg iter wi) (ok : BlkOk X.N X.env.scope scope own)
    (hg : ∀ (s : Shared) (H : Hp) (C : Addr) (cl : List (Str × Addr)) (fp : List Addr), PG (X.blk s H scope (compEnvC scope cl C X.env) fp) tg g) (ht : ∀ (s : Shared) (H : Hp) (C : Addr) (cl : List (Str × Addr)) (fp : List Addr), PTs (X.blk s H scope (compEnvC scope cl C X.env) fp) ifs tt)
    (hk : ∀ (s : Shared) (H : Hp) (C : Addr) (cl : List (Str × Addr)) (fp : List Addr), PE (X.blk s H scope (compEnvC scope cl C X.env) fp) kx tk)
    (he : ∀ (s : Shared) (H : Hp) (C : Addr) (cl : List (Str × Addr)) (fp : List Addr), PE (X.blk s H scope (compEnvC scope cl C X.env) fp) vx tv) (hs : ∀ x, foldedSetIterable iter X.env x = pure x := by intro _; rfl) :
    PE X (.DictComp kx vx [⟨tg, iter, ifs, 0⟩] scope pos) (tDcd X.K X.w wi g tt tk tv (own.map (·.2))) := by
  refine ⟨fun pins s σ H Q I h => ?_⟩
  rw [arm_eval_DictComp]
  refine dcd_core hu hc hN I hi ok hg ht hk he hs h fun D C s' m H' I' q hn f => ⟨m, hn, fun h'' sb => ?_⟩
  obtain ⟨f0, f1, f2, f3, f4, f5⟩ := f
  exact ⟨.ref D, H', I'.turned (t' := s'.toks) (fun b o hb e => (sb.2 b hb).trans e) f0 f1 f3 f4 f5, rfl, q⟩
end
end U

end
section
/-! sorted(xs) of data that compare, sorted(d) of a dict with such keys. -/
namespace U
open PySem PySem.Spec PyProof.Rows L2 Evl
/-- data in order -/
def srtD (xs : List PyData) : List PyData := xs.mergeSort (PySem.W.dataLe false id)
def SrtOk (xs : List PyData) : Prop := PySem.W.AllAlike xs ∧ PySem.W.Sortable xs ∧ ∀ x ∈ xs, x.depth ≤ 60
abbrev srtP (ps : List (V × PyData)) : List (V × PyData) := ps.mergeSort (PySem.W.dataLe false (·.2))
theorem srt_map (ps : List (V × PyData)) : (ps.mergeSort (PySem.W.dataLe false (·.2))).map (·.2) = srtD (ps.map (·.2)) := by
  unfold srtD
  exact List.map_mergeSort fun a _ b _ => rfl
theorem dpa_zip {K : Fg} {H : Hp} : ∀ {vs : List V} {xs : List PyData}, DpAll K H vs xs → ∃ ps : List (V × PyData), ps.map (·.1) = vs ∧ ps.map (·.2) = xs ∧ ∀ p ∈ ps, Dp K H p.1 p.2
  | _, _, .nil => ⟨[], rfl, rfl, fun _ h => nomatch h⟩
  | _, _, .cons (v := v) (d := x) a b => by
    obtain ⟨ps, h1, h2, h3⟩ := dpa_zip b
    refine ⟨(v, x) :: ps, by rw [List.map_cons, h1], by rw [List.map_cons, h2], fun p hp => ?_⟩
    rcases List.mem_cons.mp hp with rfl | hp
    · exact a
    · exact h3 p hp
theorem zip_dpa {K : Fg} {H : Hp} : ∀ {ps : List (V × PyData)}, (∀ p ∈ ps, Dp K H p.1 p.2) → DpAll K H (ps.map (·.1)) (ps.map (·.2))
  | [], _ => .nil
  | p :: ps, h => .cons (h p (List.mem_cons_self ..)) (zip_dpa fun q hq => h q (List.mem_cons_of_mem _ hq))
theorem vals_each : ∀ {ps : List (V × PyData)} {us : List Value}, Vals (ps.map (·.1)) us → PySem.W.EachIs (fun u p => RelV p.1 u) us ps
  | [], _, h => by cases h; exact .nil
  | p :: ps, _, h => by
    cases h with
    | cons a b => exact .cons a (vals_each b)
theorem each_vals : ∀ {ps : List (V × PyData)} {us : List Value}, PySem.W.EachIs (fun u p => RelV p.1 u) us ps → Vals (ps.map (·.1)) us
  | _, _, .nil => .nil
  | _, _, .cons a b => .cons a (each_vals b)
section
variable {X : Cx} {pins : List (Addr × Obj)} {σ : L2.St} {H : Hp} {s : Shared}
theorem each_reads (I : Inv X pins σ H s) : ∀ {ps : List (V × PyData)} {us : List Value}, (∀ p ∈ ps, Dp X.K H p.1 p.2) → PySem.W.EachIs (fun u p => RelV p.1 u) us ps → PySem.W.EachIs (fun u p => ∃ as, Reads s.heap u p.2 as) us ps
  | _, _, _, .nil => .nil
  | p :: ps, _, h, .cons a b => .cons (Dp.reads I _ _ _ (h p (List.mem_cons_self ..)) a) (each_reads I (fun q hq => h q (List.mem_cons_of_mem _ hq)) b)
/-- sorted(xs) -/
def rSrtL (K : Fg) : List V → Hp → VK → Prop := fun vs H Q => ∃ a ps, vs = [.ref a] ∧ SqL K H a (ps.map (·.1)) ∧ (∀ p ∈ ps, Dp K H p.1 p.2) ∧ SrtOk (ps.map (·.2)) ∧ ∀ l, H l = none → Q (.ref l) (upd H l (.lst ((srtP ps).map (·.1))))
theorem room2 {x : PyData} {A : Around} (hu : A.units + 64 < cLine) (h : x.depth ≤ 60) : A.units + 2 + x.depth < cLine := by omega
theorem cr_srtL (hu : X.A.units + 64 < cLine) : CallR X (.builtin "sorted") (rSrtL X.K) := by
  intro pins s σ H vs us Q I r h
  obtain ⟨a, ps, rfl, hs, hp, ⟨ok1, ok2, ok3⟩, q⟩ := h
  obtain ⟨its, rv, hl, hz⟩ := I.list hs
  rw [Vals.ref1 r]
  have ev := vals_each rv
  have hL : ps.length ≤ sizeLine := by rw [List.length_map] at hz; exact hz
  refine PySem.W.sorted_data (enc := (·.2)) hl.isList ev (each_reads I hp ev) ok1 ok2 hL (fun p hp' => room2 hu (ok3 _ (List.mem_map.mpr ⟨p, hp', rfl⟩))) fun out ho eo => ?_
  obtain ⟨ep, he'⟩ := PyProof.Rows.sortedAll_at s.heap its out.toArray
  have hps : ∀ p ∈ ps.mergeSort (PySem.W.dataLe false (·.2)), Dp X.K H p.1 p.2 := fun p h => hp p (List.mem_mergeSort.mp h)
  have hlen : ((ps.mergeSort (PySem.W.dataLe false (·.2))).map (·.1)).length ≤ sizeLine := by rw [List.length_map, List.length_mergeSort]; exact hL
  refine ⟨.ref _, upd H (s.heap.objs.size + 1) (.lst ((ps.mergeSort (PySem.W.dataLe false (·.2))).map (·.1))), I.laid (t' := s.toks) (fun _ _ => PyProof.Rows.sortedAll_old) (Nat.le_succ _) ⟨hlen, out, ep, each_vals eo, he'⟩, rfl, q _ (I.hok.fresh (Nat.le_succ _))⟩
/-- sorted(d) -/
def rSrtD (K : Fg) (w : World) : List V → Hp → VK → Prop := fun vs H Q => ∃ a ep es ps, vs = [.ref a] ∧ H a = some (DctO w a ep es) ∧ ps.map (·.1) = (es.map fun e => V.ref e.2.1) ∧ (∀ p ∈ ps, Dp K H p.1 p.2) ∧ SrtOk (ps.map (·.2)) ∧ ∀ l, H l = none → Q (.ref l) (upd H l (.lst ((srtP ps).map (·.1))))
theorem es_vals : ∀ {es : List Ent} {xs : List (NK × Addr × Value)}, Es es xs → Vals (es.map fun e => .ref e.2.1) (xs.map fun x => .ref x.2.1)
  | _, _, .nil => .nil
  | _, _, .cons r t => .cons rfl (es_vals t)
theorem cr_srtD (hc : X.calm = true) (hu : X.A.units + 64 < cLine) : CallR X (.builtin "sorted") (rSrtD X.K X.w) := by
  intro pins s σ H vs us Q I r h
  obtain ⟨d, ep, es, ps, rfl, hD, e1, hp, ⟨ok1, ok2, ok3⟩, q⟩ := h
  rw [Vals.ref1 r]
  obtain ⟨n1, n2, n3, o, ent, ks, ho, hx, hdt, he, hl⟩ := dct_at I hD
  have hsz : ent.size = ks.length := by rw [← Array.length_toList, hl, List.length_map]
  refine PySem.Calls.call_function_entry kind_sorted plain_sorted entry_sorted (args_sorted1 _) ?_
  unfold Builtin.«sorted»
  refine wpAny_bind (m := checkCount "sorted" 1 1 _) (wpAny_pure ?_)
  refine wpAny_bind (PySem.W.kdu_collect (A := X.A.in1) (kdl_raw n2 hx hdt) (I.ok.hd hc) ho (by rw [hsz, ← he.len]; exact n1) fun h' tk acc hk hacc => ?_)
  have el : acc.toList = ks.map fun x => .ref x.2.1 := by
    apply List.ext_getElem?
    intro j
    have hla : acc.toList.length = ks.length := by rw [Array.length_toList, hacc.1]; exact hsz
    rcases Nat.lt_or_ge j ks.length with hj | hj
    · have h1 : acc.toList[j]? = some acc.toList[j] := List.getElem?_eq_getElem (by omega)
      obtain ⟨en, hen, hv⟩ := hacc.2 j _ (by rw [← Array.getElem?_toList]; exact h1)
      rw [← Array.getElem?_toList, hl, List.getElem?_map, List.getElem?_eq_getElem hj] at hen
      rw [h1, hv, List.getElem?_map, List.getElem?_eq_getElem hj]
      cases hen
      rfl
    · rw [List.getElem?_eq_none (by omega), List.getElem?_eq_none (by rw [List.length_map]; omega)]
  have rv : Vals (ps.map (·.1)) acc.toList := by
    rw [e1, el]
    exact es_vals he
  have ev := vals_each rv
  have hL : ps.length ≤ sizeLine := by
    have z := congrArg List.length e1
    rw [List.length_map, List.length_map] at z
    omega
  have hla : acc.toList.length = ps.length := by rw [← rv.length, List.length_map]
  refine wpAny_bind (wpAny_newList ?_ (by rw [hla]; exact hL))
  have hoL : (h'.push { cls := .type "list", data := .seq acc.toList.toArray }).get? h'.objs.size = some (seqObj "list" acc.toList.toArray 0) := Heap.get?_push_size _ rfl
  have kp : ∀ b o, s.heap.get? b = some o → (h'.push { cls := .type "list", data := .seq acc.toList.toArray }).get? b = some o := fun b o e => Heap.get?_push_of_some _ (hk b o e)
  have I1 : Inv X pins σ H { s with heap := h'.push { cls := .type "list", data := .seq acc.toList.toArray }, toks := tk } := I.kept (t' := tk) kp
  have er : PySem.W.EachIs (fun u p => ∃ as, Reads (h'.push { cls := .type "list", data := .seq acc.toList.toArray }) u p.2 as ∧ h'.objs.size ∉ as) acc.toList ps := (each_reads I hp ev).mono fun u p ⟨as, r⟩ => ⟨as, PyProof.Rows.Reads.keeps kp r, fun z => by
    obtain ⟨o, e⟩ := PyProof.On.reads_mem_get r _ z
    exact absurd (Heap.lt_size (hk _ _ e)) (Nat.lt_irrefl _)⟩
  refine wpAny_bind (wpAny_holding (PySem.W.list_sort_data (A := X.A.in1) (enc := (·.2)) hoL ev er ok1 ok2 hL (fun p hp' => ?_) fun out ho' eo => ?_))
  · have := ok3 _ (List.mem_map.mpr ⟨p, hp', rfl⟩)
    have e : X.A.in1.units = X.A.units + 1 := rfl
    omega
  · obtain ⟨ep', he'⟩ := PyProof.Rows.sortedHeap_at (vs := acc.toList) (out := out.toArray) hoL
    have hps : ∀ p ∈ ps.mergeSort (PySem.W.dataLe false (·.2)), Dp X.K H p.1 p.2 := fun p h => hp p (List.mem_mergeSort.mp h)
    have hlen : ((ps.mergeSort (PySem.W.dataLe false (·.2))).map (·.1)).length ≤ sizeLine := by rw [List.length_map, List.length_mergeSort]; exact hL
    have I0 : Inv X pins σ H { s with heap := h', toks := tk } := I.kept (t' := tk) hk
    have kk : ∀ b o, h'.get? b = some o → (sortedHeap (h'.push { cls := .type "list", data := .seq acc.toList.toArray }) h'.objs.size acc.toList out.toArray).get? b = some o := fun b o e => by
      have hb := Heap.lt_size e
      rw [PyProof.Rows.sortedHeap_old (Nat.ne_of_lt hb) (by rw [Heap.size_push]; exact Nat.lt_succ_of_lt hb)]
      exact Heap.get?_push_of_some _ e
    refine wpAny_pure ⟨_, rfl, ?_⟩
    refine ⟨.ref h'.objs.size, upd H h'.objs.size (.lst ((ps.mergeSort (PySem.W.dataLe false (·.2))).map (·.1))), I0.laid (t' := tk) kk (Nat.le_refl _) ⟨hlen, out, ep', each_vals eo, he'⟩, rfl, q _ (I0.hok.fresh (Nat.le_refl _))⟩
end
end U

end
section
/-! Dicts of one's own, keys tuples; sorted. -/
namespace U.N
open PySem L2 Evl
abbrev Kvs := List (List PyData × PyData)
abbrev kk (k : List PyData) : NK := toKd (.tuple k)
def flK : Kvs → List PyData
  | [] => []
  | (k, v) :: r => .tuple k :: v :: flK r
def entOf : Kvs → List V → List Ent
  | (k, _) :: r, .ref b :: v :: vs => (kk k, b, v) :: entOf r vs
  | _, _ => []
/-- a dict of one's own -/
def od (w : World) (ep : Nat) (kvs : Kvs) : Own := ⟨flK kvs, fun a vs => DctO w a ep (entOf kvs vs)⟩
def lookK (kvs : Kvs) (k : List PyData) : Option PyData := (kvs.find? fun p => decide (kk p.1 = kk k)).map (·.2)
def putK (kvs : Kvs) (k : List PyData) (x : PyData) : Kvs := if (lookK kvs k).isSome then kvs.map (fun p => if kk p.1 = kk k then (p.1, x) else p) else kvs ++ [(k, x)]
section
variable {K : Fg} {M : Hp}
inductive KvR (K : Fg) (M : Hp) : Kvs → List V → List Ent → Prop
  | nil : KvR K M [] [] []
  | cons {k : List PyData} {x : PyData} {b : Addr} {v : V} {kvs : Kvs} {vs : List V} {es : List Ent} : Dp K M (.ref b) (.tuple k) → Dp K M v x → KvR K M kvs vs es → KvR K M ((k, x) :: kvs) (.ref b :: v :: vs) ((kk k, b, v) :: es)
theorem kvr_of : ∀ {kvs : Kvs} {vs : List V}, DpAll K M vs (flK kvs) → KvR K M kvs vs (entOf kvs vs)
  | [], _, h => by cases h; exact .nil
  | (k, x) :: kvs, _, h => by
    cases h with
    | cons a t =>
      cases t with
      | cons b t =>
        have ha := a
        cases a with
        | tup g u => exact .cons ha b (kvr_of t)
theorem KvR.dpa {kvs : Kvs} {vs : List V} {es : List Ent} (h : KvR K M kvs vs es) : DpAll K M vs (flK kvs) ∧ entOf kvs vs = es := by
  induction h with
  | nil => exact ⟨.nil, rfl⟩
  | cons a b t ih => exact ⟨.cons a (.cons b ih.1), by rw [entOf, ih.2]⟩
theorem KvR.keys {kvs : Kvs} {vs : List V} {es : List Ent} (h : KvR K M kvs vs es) : (∀ e ∈ es, KeyW K M e.1 e.2.1) ∧ DpAll K M (es.map fun e => .ref e.2.1) (kvs.map fun p => .tuple p.1) ∧ es.length = kvs.length := qt_of (by simp (disch := with_unfolding_all
  induction h with
  | nil => exact ⟨(fun _ h => nomatch h), .nil, rfl⟩
  | cons a b t ih =>
    refine ⟨fun e he => ?_, .cons a ih.2.1, congrArg (· + 1) ih.2.2⟩
    rcases List.mem_cons.mp he with rfl | he
    · exact ⟨_, a, rfl⟩
    · exact ih.1 e he
  ) only [↓qt_eq])
theorem KvR.at_ {kvs : Kvs} {vs : List V} {es : List Ent} (h : KvR K M kvs vs es) : ∀ (i : Nat) (p : List PyData × PyData), kvs[i]? = some p → ∃ b v, es[i]? = some (kk p.1, b, v) ∧ Dp K M (.ref b) (.tuple p.1) ∧ Dp K M v p.2 := qt_of (by simp (disch := with_unfolding_all
  induction h with
  | nil => intro i p h; simp at h
  | cons a b t ih =>
    intro i p hp
    cases i with
    | zero => simp only [List.getElem?_cons_zero, Option.some.injEq] at hp; subst hp; exact ⟨_, _, rfl, a, b⟩
    | succ i =>
      obtain ⟨b', v', h1, h2⟩ := ih i p (by simpa using hp)
      exact ⟨b', v', by simpa using h1, h2⟩
  ) only [↓qt_eq])
theorem KvR.find {kvs : Kvs} {vs : List V} {es : List Ent} (h : KvR K M kvs vs es) (k : List PyData) : (lookK kvs k = none ∧ findE es (kk k) = none) ∨ ∃ x v, lookK kvs k = some x ∧ findE es (kk k) = some v ∧ Dp K M v x := qt_of (by simp (disch := with_unfolding_all
  induction h with
  | nil => exact .inl ⟨rfl, rfl⟩
  | @cons k' x b v kvs vs es a d t ih =>
    by_cases e : kk k' = kk k
    · refine .inr ⟨x, v, ?_, ?_, d⟩
      · unfold lookK; rw [List.find?_cons_of_pos (by simpa using e)]; rfl
      · unfold findE; rw [List.find?_cons_of_pos (by simpa using e)]; rfl
    · have e1 : lookK ((k', x) :: kvs) k = lookK kvs k := by unfold lookK; rw [List.find?_cons_of_neg (by simpa using e)]
      have e2 : findE ((kk k', b, v) :: es) (kk k) = findE es (kk k) := by unfold findE; rw [List.find?_cons_of_neg (by simpa using e)]
      rw [e1, e2]; exact ih
  ) only [↓qt_eq])
theorem KvR.mput {kvs : Kvs} {vs : List V} {es : List Ent} (h : KvR K M kvs vs es) {k : List PyData} {v : V} {x : PyData} (dv : Dp K M v x) : ∃ vs', KvR K M (kvs.map (fun p => if kk p.1 = kk k then (p.1, x) else p)) vs' (es.map (fun e => if e.1 = kk k then (e.1, e.2.1, v) else e)) := qt_of (by simp (disch := with_unfolding_all
  induction h with
  | nil => exact ⟨[], .nil⟩
  | @cons k' x' b v' kvs vs es a d t ih =>
    obtain ⟨vs', ih⟩ := ih
    rw [List.map_cons, List.map_cons]
    by_cases e : kk k' = kk k
    · rw [if_pos e, if_pos e]; exact ⟨_, .cons a dv ih⟩
    · rw [if_neg e, if_neg e]; exact ⟨_, .cons a d ih⟩
  ) only [↓qt_eq])
theorem KvR.snoc {kvs : Kvs} {vs : List V} {es : List Ent} (h : KvR K M kvs vs es) {k : List PyData} {b : Addr} {v : V} {x : PyData} (db : Dp K M (.ref b) (.tuple k)) (dv : Dp K M v x) : ∃ vs', KvR K M (kvs ++ [(k, x)]) vs' (es ++ [(kk k, b, v)]) := by
  induction h with
  | nil => exact ⟨_, .cons db dv .nil⟩
  | cons a d t ih => obtain ⟨vs', ih⟩ := ih; exact ⟨_, .cons a d ih⟩
theorem KvR.put {kvs : Kvs} {vs : List V} {es : List Ent} (h : KvR K M kvs vs es) {k : List PyData} {b : Addr} {v : V} {x : PyData} (db : Dp K M (.ref b) (.tuple k)) (dv : Dp K M v x) : ∃ vs', KvR K M (putK kvs k x) vs' (putE es (kk k) b v) := by
  unfold putK putE
  rcases h.find k with ⟨e1, e2⟩ | ⟨x', v', e1, e2, _⟩
  · rw [e1, e2]; exact h.snoc db dv
  · rw [e1, e2]; exact h.mput dv
/-- k may be a key -/
def KG (k : List PyData) : Prop := KGood (kk k)
theorem kg_is {H : Hp} {b : Addr} {k : List PyData} (d : Dp K H (.ref b) (.tuple k)) (g : KG k) : KeyIs K H (kk k) b := ⟨_, d, toKd_good g, g.1⟩
theorem dct_hh {w : World} {H : Hp} {Z : Addr → Prop} {a : Addr} {ep : Nat} {kvs : Kvs} {vs : List V} (g : H a = some ((od w ep kvs).obj a vs)) (d : DpAll K (less H Z) vs (od w ep kvs).flat) : DctH K w H a ep (entOf kvs vs) := by
  refine ⟨g, fun e he => ?_⟩
  obtain ⟨x, h1, h2⟩ := (kvr_of d).keys.1 e he
  exact ⟨x, dp_mono less_ex h1, h2⟩
end
section
variable {K : Fg} {cs : Cs} {W : WX} {G G' G1 G2 : Gam} {ta tb tc te : TE} {t u : TT} {φ : PyData → Prop} {ε : Xw → Prop} {ψ : Bool → Prop} {α : List PyData → Prop} {ι : List PyData → Prop} {χ : Own → Prop} {Φ : Out → Prop} {tu : TS}
variable {Wd : Addr → Prop} {B : Option (Addr × Addr)} {ad : Nat → Addr} {H0 H H1 H2 : Hp} {σ : L2.St} {w : World} {ep : Nat} {kvs : Kvs} {i : Nat}
/-- a dict of one's own, or one that stays -/
def IsOd (G : Gam) (i : Nat) (w : World) (ep : Nat) (kvs : Kvs) : Prop := G[i]? = some (.ow (od w ep kvs)) ∨ G[i]? = some (.fz (od w ep kvs))
theorem isod_at (S : Sta K Wd B ad H0 H σ G) (hi : IsOd G i w ep kvs) : ∃ a vs, σ[i]? = some (some (.ref a)) ∧ H a = some ((od w ep kvs).obj a vs) ∧ DpAll K (less H (Zs Wd B ad G)) vs (od w ep kvs).flat := qt_of (by simp (disch := with_unfolding_all
  rcases hi with hi | hi
  · obtain ⟨o, g1, rfl, vs, g3, g4⟩ := S.at_ i _ hi
    exact ⟨_, vs, g1, g3, g4⟩
  · obtain ⟨o, g1, a, vs, rfl, g3, g4⟩ := S.at_ i _ hi
    exact ⟨a, vs, g1, (less_some g3).2, g4⟩
  ) only [↓qt_eq])
theorem isod_same {σ' : L2.St} {H2 : Hp} {a : Addr} {vs : List V} (S : Sta K Wd B ad H0 H σ G) (S2 : Sta K Wd B ad H0 H2 σ G) (hi : IsOd G i w ep kvs) (g : σ[i]? = some (some (.ref a))) : ∃ vs, H2 a = some ((od w ep kvs).obj a vs) ∧ DpAll K (less H2 (Zs Wd B ad G)) vs (od w ep kvs).flat := by
  obtain ⟨a', vs, g1, g2, g3⟩ := isod_at S2 hi
  rw [g1] at g
  cases g
  exact ⟨vs, g2, g3⟩
theorem ew_dx (hi : IsOd G i w ep kvs) (h : EW K cs W tb G (fun y => ∃ k x, y = .tuple k ∧ KG k ∧ lookK kvs k = some x ∧ φ x) ε) : EW K cs W (tOp (rDx K w) (tVar i) tb) G φ ε := fun Wd B ad H0 H σ S Q q x => by
  obtain ⟨a, vs, g1, g2, g3⟩ := isod_at S hi
  refine ⟨_, g1, h Wd B ad H0 H σ S _ (fun y ⟨k, z, e, kg, hz, p⟩ v H2 S2 x2 d2 => ?_) x⟩
  subst e
  obtain ⟨vs, g4, g5⟩ := isod_same (σ' := σ) (vs := vs) S S2 hi g1
  have d2' := d2
  cases d2 with
  | @tup b us _ gb ub =>
    rcases (kvr_of g5).find k with ⟨e1, _⟩ | ⟨x', v', e1, e2, e3⟩
    · rw [hz] at e1; cases e1
    · rw [hz] at e1
      cases e1
      exact ⟨a, b, ep, _, kk k, v', rfl, rfl, dct_hh g4 g5, kg_is (dp_mono less_ex d2') kg, e2, q _ p _ H2 S2 x2 e3⟩
theorem sw_freezeO {c : Own} (hi : G[i]? = some (.ow c)) (h : SW K cs W tu (G.set i (.fz c)) Φ) : SW K cs W tu G Φ := fun Wd B ad H0 H σ D S q =>
  h Wd B ad H0 H σ D (S.freezeO hi) fun o p => (q o p).mono (less_sub fun a z => Zs.set_of (fun _ z => by cases z) z)
/-- for k in d, a dict that stays -/
theorem iw_dct (hi : G[i]? = some (.fz (od w ep kvs))) (p : ι (kvs.map fun q => .tuple q.1)) : IW K cs W (iDct w (tVar i)) G ι ε := fun Wd B ad H0 H σ S R q x => by
  obtain ⟨o, g1, a, vs, rfl, g3, g4⟩ := S.at_ i _ hi
  have kr := kvr_of g4
  refine ⟨_, g1, a, ep, _, rfl, (less_some g3).2, q _ p _ H S Xb.refl fun H' Z hz e j => ?_⟩
  have g5 : H' a = some (DctO w a ep (entOf kvs vs)) := (less_some (e _ _ g3)).2
  have hl := kr.keys.2.2
  refine ⟨fun d hd => ⟨g5, ?_⟩, fun hn => ⟨g5, by rw [hl]; rw [List.length_map] at hn; exact hn⟩, fun y H'' hy => ?_⟩
  · have := (List.getElem?_eq_some_iff.mp hd).1
    rw [List.length_map] at this
    rw [hl]; exact this
  · obtain ⟨rfl, k, b, v, h1, rfl⟩ := hy
    refine ⟨Ex.refl _, fun d hd => ?_⟩
    rw [List.getElem?_map] at hd
    obtain ⟨p', hp', rfl⟩ := Option.map_eq_some_iff.mp hd
    obtain ⟨b', v', h2, h3, _⟩ := kr.at_ j p' hp'
    rw [h1] at h2
    cases h2
    exact dp_mono e h3
/-! ### sorted -/
theorem srt_dpa {M : Hp} {ps : List (V × PyData)} (h : ∀ p ∈ ps, Dp K M p.1 p.2) : DpAll K M ((srtP ps).map (·.1)) (srtD (ps.map (·.2))) := by
  rw [← srt_map]
  exact zip_dpa fun p hp => h p (List.mem_mergeSort.mp hp)
theorem ef_srt (h : EW K cs W te G (fun x => ∃ xs, x = .list xs ∧ SrtOk xs ∧ χ (ol (srtD xs))) ε) : EF K cs W (tCB (rSrtL K) (tCons te tNil)) G χ ε := fun Wd B ad H0 H σ S Q q x =>
  h Wd B ad H0 H σ S _ (fun y ⟨xs, e, ok, p⟩ v H1 S1 e1 d1 => by
    subst e
    cases d1 with
    | @lst a us _ g t =>
      obtain ⟨ps, k1, k2, k3⟩ := dpa_zip t
      subst k1; subst k2
      exact ⟨a, ps, rfl, ex_l less_ex g, fun p hp => dp_mono less_ex (k3 p hp), ok, fun l hn => q _ p l _ H1 S1 e1 hn (srt_dpa k3)⟩) x
theorem ew_srt (h : EW K cs W te G (fun x => ∃ xs, x = .list xs ∧ SrtOk xs ∧ φ (.list (srtD xs))) ε) : EW K cs W (tCB (rSrtL K) (tCons te tNil)) G φ ε := ew_ef (ef_srt (ew_mono h fun x ⟨xs, e, ok, p⟩ => ⟨xs, e, ok, _, rfl, p⟩))
theorem ef_srtD (hi : IsOd G i w ep kvs) (ok : SrtOk (kvs.map fun q => .tuple q.1)) (p : χ (ol (srtD (kvs.map fun q => .tuple q.1)))) : EF K cs W (tCB (rSrtD K w) (tCons (tVar i) tNil)) G χ ε := fun Wd B ad H0 H σ S Q q x => by
  obtain ⟨a, vs, g1, g2, g3⟩ := isod_at S hi
  obtain ⟨_, kd, _⟩ := (kvr_of g3).keys
  obtain ⟨ps, k1, k2, k3⟩ := dpa_zip kd
  refine ⟨_, g1, a, ep, _, ps, rfl, g2, k1, fun p hp => dp_mono less_ex (k3 p hp), by rw [k2]; exact ok, fun l hn => ?_⟩
  have d := srt_dpa k3
  rw [k2] at d
  exact q _ p l _ H S Xb.refl hn d
theorem ew_srtD (hi : IsOd G i w ep kvs) (ok : SrtOk (kvs.map fun q => .tuple q.1)) (p : φ (.list (srtD (kvs.map fun q => .tuple q.1)))) : EW K cs W (tCB (rSrtD K w) (tCons (tVar i) tNil)) G φ ε := ew_ef (ef_srtD hi ok ⟨_, rfl, p⟩)
end
/-! ### a dict by a comprehension -/
def putO (m : Kvs) : Option (List PyData × PyData) → Kvs
  | none => m
  | some (k, z) => putK m k z
def putAll (os : List (Option (List PyData × PyData))) : Kvs := os.foldl putO []
theorem putK_len {m : Kvs} {k : List PyData} {z : PyData} : (putK m k z).length ≤ m.length + 1 := by
  unfold putK
  split
  · rw [List.length_map]; omega
  · rw [List.length_append]; exact Nat.le_refl _
theorem putAll_some {os : List (Option (List PyData × PyData))} {k : List PyData} {z : PyData} : putAll (os ++ [some (k, z)]) = putK (putAll os) k z := by unfold putAll; rw [List.foldl_append]; rfl
theorem putAll_none {os : List (Option (List PyData × PyData))} : putAll (os ++ [none]) = putAll os := by unfold putAll; rw [List.foldl_append]; rfl
theorem putAll_len (os : List (Option (List PyData × PyData))) : (putAll os).length ≤ os.length := qt_of (by simp (disch := with_unfolding_all
  have key : ∀ (os : List (Option (List PyData × PyData))) (m : Kvs), (os.foldl putO m).length ≤ m.length + os.length := fun os => by
    induction os with
    | nil => intro m; exact Nat.le_refl _
    | cons o os ih =>
      intro m
      rw [List.foldl_cons, List.length_cons]
      have := ih (putO m o)
      have h2 : (putO m o).length ≤ m.length + 1 := by
        cases o with
        | none => exact Nat.le_succ _
        | some p => exact putK_len
      omega
  have := key os []
  unfold putAll
  simpa using this
  ) only [↓qt_eq])
section
variable {K : Fg} {cs : Cs} {W : WX} {G : Gam} {tk tv : TE} {ε : Xw → Prop} {χ : Own → Prop} {wi : TI} {g : TG} {tt : TT} {vs : List Nat} {w : World}
def DcI (K : Fg) (cs : Cs) (W : WX) (w : World) (g : TG) (tt : TT) (tk tv : TE) (vs : List Nat) (G : Gam) (χ : Own → Prop) (ds : List PyData) : Prop :=
  ds.length ≤ 16000000 ∧ Unk vs G ∧ ∃ R : Nat → Option (List PyData × PyData) → Prop, (∀ i x, ds[i]? = some x → GC K g vs G x (fun Gt => TW K cs W tt Gt (fun b => Cnd b (EW K cs W tk Gt (fun y => EW K cs W tv Gt (fun z => ∃ k, y = .tuple k ∧ KG k ∧ R i (some (k, z))) noX) noX) (R i none)) noX)) ∧ ∀ os ep, Each R ds.length os → χ (od w ep (putAll os))
theorem ef_dc (h : IW K cs W wi G (DcI K cs W w g tt tk tv vs G χ) ε) : EF K cs W (tDcd K w wi g tt tk tv vs) G χ ε := fun Wd B ad H0 H σ S Q q x =>
  h Wd B ad H0 H σ S _ (fun ds ⟨hz, hu, R, hs, hd⟩ J H1 S1 e1 ok Dl hD => by
    have hgu : ∀ i c, i ∈ vs → G[i]? ≠ some (.ow c) := fun i c hi g => by cases hu i _ hi g
    obtain ⟨L0, el0⟩ := S1.lend (o := DctO w Dl 0 []) hD
    have fr := S1.fresh hD
    refine ⟨fun i m H' => m = ds.length - i ∧ i ≤ ds.length ∧ Sta K (fun a => Wd a ∨ a = Dl) B ad H0 H' σ G ∧ Ex (less H1 (Zs Wd B ad G)) (less H' (Zs (fun a => Wd a ∨ a = Dl) B ad G)) ∧ Xb B H1 H' ∧
      ∃ os ep acc, Each R i os ∧ H' Dl = some ((od w ep (putAll os)).obj Dl acc) ∧ DpAll K (less H' (Zs (fun a => Wd a ∨ a = Dl) B ad G)) acc (flK (putAll os)), ⟨ds.length, rfl, Nat.zero_le _, L0, by rw [el0]; exact Ex.refl _, .of (Ex.new hD), [], 0, [], each_nil, upd_same, .nil⟩, ?_⟩
    rintro i m H' ⟨rfl, hi, S', e', xb, os, ep, acc, ha2, ha, hda⟩
    obtain ⟨k1, k2, k3⟩ := ok H' (Zs (fun a => Wd a ∨ a = Dl) B ad G) S'.there e' i
    by_cases hlt : i < ds.length
    · have hx : ds[i]? = some ds[i] := List.getElem?_eq_getElem hlt
      refine .inr ⟨k1 _ hx, fun H3 => Sta K (fun a => Wd a ∨ a = Dl) B ad H0 H3 σ G ∧ Ex (less H1 (Zs Wd B ad G)) (less H3 (Zs (fun a => Wd a ∨ a = Dl) B ad G)) ∧ Xb B H1 H3 ∧
        ∃ os ep acc, Each R (i + 1) os ∧ H3 Dl = some ((od w ep (putAll os)).obj Dl acc) ∧ DpAll K (less H3 (Zs (fun a => Wd a ∨ a = Dl) B ad G)) acc (flK (putAll os)), fun H3 h3 => ⟨ds.length - (i + 1), by omega, rfl, hlt, h3⟩, fun v H'' hyl => ?_⟩
      obtain ⟨ex, dx⟩ := k3 v H'' hyl
      have S2 := (S'.ext ex).slots (σ' := wipe σ vs) (G' := G) (vs := vs) rfl (fun _ _ => rfl) hu hgu wipe_wipe.symm
      refine hs i _ hx _ B ad H0 H'' _ v S2 (dx _ hx) _ fun Gt σ2 hte hl ho hw S3 e3 ew => ⟨by rw [ew, wipe_wipe], ?_⟩
      have own : ∀ (i : Nat) (c : Own), Gt[i]? = some (En.ow c) ↔ G[i]? = some (En.ow c) := fun i c => by
        by_cases hi : i ∈ vs
        · exact ⟨fun g => hw i c hi g, fun g => absurd g (hgu i c hi)⟩
        · rw [ho i hi]
      have eZ : Zs (fun a => Wd a ∨ a = Dl) B ad Gt = Zs (fun a => Wd a ∨ a = Dl) B ad G := zs_same own
      have back : ∀ {H5 : Hp}, Sta K (fun a => Wd a ∨ a = Dl) B ad H0 H5 σ2 Gt → Sta K (fun a => Wd a ∨ a = Dl) B ad H0 H5 σ G := fun {H5} S5 =>
        S5.slots (G' := G) (vs := vs) hl.symm (fun i hi => (ho i hi).symm) hu (fun i c hi g => hgu i c hi (hw i c hi g)) (by rw [ew, wipe_wipe])
      have hB : ¬ InB B Dl := fr.2.1
      have ha3 : H'' Dl = some ((od w ep (putAll os)).obj Dl acc) := ex _ _ ha
      have al : (entOf (putAll os) acc).length < sizeLine := by
        have h1 := (kvr_of hda).keys.2.2
        have h2 := putAll_len os
        have h3 := ha2.1
        exact Nat.lt_of_lt_of_le (show (entOf (putAll os) acc).length < 16777216 by omega) (by decide)
      refine hte _ B ad H0 H'' σ2 S3 _ (fun b p H3 S4 e4 => ?_) xp_no
      have e4' : Ex (less H'' (Zs (fun a => Wd a ∨ a = Dl) B ad G)) (less H3 (Zs (fun a => Wd a ∨ a = Dl) B ad G)) := by
        have := Xb.lz (W := fun a => Wd a ∨ a = Dl) (ad := ad) (G := G) e4
        exact this
      have e5 : Ex (less H' (Zs (fun a => Wd a ∨ a = Dl) B ad G)) (less H3 (Zs (fun a => Wd a ∨ a = Dl) B ad G)) := (less_mono ex).trans e4'
      cases b with
      | false =>
        refine iteF ⟨back S4, e'.trans e5, (xb.trans (.of ex)).trans e4, os ++ [none], ep, acc, ?_, ?_, ?_⟩
        · exact ha2.snoc (p.2 rfl)
        · rw [putAll_none]; exact e4 _ _ ha3 hB
        · rw [putAll_none]; exact dpa_mono e5 hda
      | true =>
        refine iteT ?_
        refine p.1 rfl _ B ad H0 H3 σ2 S4 _ (fun y py u H4 S5 e6 du => ?_) xp_no
        refine py _ B ad H0 H4 σ2 S5 _ (fun z ⟨k, ek, kg, pz⟩ u2 H5 S5' e7 du2 => ?_) xp_no
        subst ek
        rw [eZ] at du du2
        have S6 := back S5'
        have e6' := Xb.lz (W := fun a => Wd a ∨ a = Dl) (ad := ad) (G := G) e6
        have e7' := Xb.lz (W := fun a => Wd a ∨ a = Dl) (ad := ad) (G := G) e7
        have hd5 := dpa_mono (e5.trans (e6'.trans e7')) hda
        have g5 : H5 Dl = some ((od w ep (putAll os)).obj Dl acc) := e7 _ _ (e6 _ _ (e4 _ _ ha3 hB) hB) hB
        have dk := dp_mono e7' du
        have dk' := dk
        cases dk with
        | @tup b _ _ gb ub =>
          obtain ⟨acc', kr'⟩ := (kvr_of hd5).put dk' du2
          obtain ⟨da, ee⟩ := kr'.dpa
          refine ⟨b, ep, _, kk k, rfl, dct_hh g5 hd5, kg_is (dp_mono less_ex dk') kg, al, fun ep' => ?_⟩
          obtain ⟨S7, el7⟩ := S6.foreign (o := DctO w Dl ep' (putE (entOf (putAll os) acc) (kk k) b u2)) (p := Dl) (.inr rfl) fr.1 hB
          refine ⟨S7, ?_, ?_, os ++ [some (k, z)], ep', acc', ?_, ?_, ?_⟩
          · rw [el7]
            exact e'.trans (e5.trans (e6'.trans e7'))
          · intro a o g n
            have na : a ≠ Dl := ne_of_none g hD
            rw [upd_ne na]
            exact (((((xb.trans (.of ex)).trans e4).trans e6).trans e7) a o g n)
          · exact ha2.snoc pz
          · rw [upd_same, putAll_some]
            show _ = some (DctO w Dl ep' (entOf _ acc'))
            rw [ee]
          · rw [el7, putAll_some]
            exact da
    · have en : i = ds.length := by omega
      subst en
      obtain ⟨S5, e5⟩ := S'.back
      obtain ⟨S6, x6, n6, l6⟩ := fl_go S1 xb S'.bag hD ha
      refine .inl ⟨k2 (Nat.le_refl _), ?_⟩
      have k := q _ (hd os ep ha2) Dl acc _ S6 (e1.trans x6) n6 (by rw [l6, ← zs_lend]; exact hda)
      have k2 : Q (.ref Dl) (upd (less H' fun b => b = Dl) Dl ((od w ep (putAll os)).obj Dl acc)) := k
      rw [fl_upd ha] at k2
      exact k2) x
/-- each turn known -/
theorem dcM {β : Type} {xs : List β} {f : β → PyData} (hk : β → List PyData) (hv : β → PyData) (hz : xs.length ≤ 16000000) (hu : Unk vs G) (hs : ∀ x, x ∈ xs → GC K g vs G (f x) (fun Gt => EW K cs W tk Gt (fun y => EW K cs W tv Gt (fun z => y = .tuple (hk x) ∧ KG (hk x) ∧ z = hv x) noX) noX)) (p : ∀ ep, χ (od w ep (putAll (xs.map fun x => some (hk x, hv x))))) : DcI K cs W w g tYes tk tv vs G χ (xs.map f) := by
  refine ⟨by rw [List.length_map]; exact hz, hu, fun i o => ∀ x, xs[i]? = some x → o = some (hk x, hv x), fun i y hy => ?_, fun os ep ha => ?_⟩
  · obtain ⟨x, hx, rfl, hm⟩ := map_at hy
    refine gc_mono (hs x hm) fun Gt h => tw_yes (cnd_t (ew_mono h fun y h => ew_mono h fun z ⟨e1, e2, e3⟩ => ⟨_, e1, e2, fun x' hx' => ?_⟩))
    rw [hx] at hx'
    cases hx'
    rw [e3]
  · have e : os = xs.map fun x => some (hk x, hv x) := by
      obtain ⟨h1, h2⟩ := ha
      rw [List.length_map] at h1
      apply List.ext_getElem?
      intro i
      rcases Nat.lt_or_ge i xs.length with hl | hl
      · rw [List.getElem?_map, List.getElem?_eq_getElem hl, List.getElem?_eq_getElem (by omega : i < os.length)]
        exact congrArg some (h2 i _ (List.getElem?_eq_getElem (by omega)) _ (List.getElem?_eq_getElem hl))
      · rw [List.getElem?_eq_none (by omega), List.getElem?_eq_none (by rw [List.length_map]; exact hl)]
    rw [e]; exact p ep
end
end U.N

end
section
/-! The order of spots; dicts by keys of a type. -/
namespace U
open PySem PyProof.Rows L2 Evl
abbrev Spot := List Fr
def sLt : Spot → Spot → Prop
  | [], [] => False
  | [], _ :: _ => True
  | _ :: _, [] => False
  | f :: s, g :: t => val f < val g ∨ (val f = val g ∧ sLt s t)
theorem sLt_irr : ∀ s : Spot, ¬ sLt s s
  | [] => id
  | f :: s => fun h => h.elim (Rat.lt_irrefl) fun h => sLt_irr s h.2
theorem sLt_asy : ∀ s t : Spot, sLt s t → ¬ sLt t s
  | [], [] => fun h => h.elim
  | [], _ :: _ => fun _ h => h
  | _ :: _, [] => fun h => h.elim
  | f :: s, g :: t => fun h h' => by
    rcases h with h | ⟨e, h⟩
    · rcases h' with h' | ⟨e', h'⟩
      · exact absurd h' (Rat.not_lt.mpr (Rat.le_of_lt h))
      · rw [e'] at h; exact Rat.lt_irrefl h
    · rcases h' with h' | ⟨e', h'⟩
      · rw [e] at h'; exact Rat.lt_irrefl h'
      · exact sLt_asy s t h h'
/-- a spot whose numbers below divide c -/
structure SpC (c : Int) (s : Spot) : Prop where
  gd : ∃ a, ∀ f ∈ s, Gd a f
  dv : ∀ f ∈ s, f.2 ∣ c
theorem SpC.tl {c : Int} {f : Fr} {s : Spot} (h : SpC c (f :: s)) : SpC c s := ⟨h.gd.imp fun a g x hx => g x (List.mem_cons_of_mem _ hx), fun x hx => h.dv x (List.mem_cons_of_mem _ hx)⟩
theorem SpC.hd {c : Int} {f : Fr} {s : Spot} (h : SpC c (f :: s)) : (∃ a, Gd a f) ∧ f.2 ∣ c := ⟨h.gd.imp fun a g => g f (List.mem_cons_self ..), h.dv f (List.mem_cons_self ..)⟩
abbrev ky (c : Int) (s : Spot) : List Int := s.map (kyF c)
theorem ky_slt {c : Int} (hc : 0 < c) : ∀ {s t : Spot}, SpC c s → SpC c t → (ky c s < ky c t ↔ sLt s t)
  | [], [], _, _ => by simp [ky, sLt]
  | [], _ :: _, _, _ => by simp [ky, sLt]
  | _ :: _, [], _, _ => by simp [ky, sLt]
  | f :: s, g :: t, h1, h2 => by
    obtain ⟨⟨a, g1⟩, d1⟩ := h1.hd
    obtain ⟨⟨b, g2⟩, d2⟩ := h2.hd
    show (kyF c f :: ky c s) < (kyF c g :: ky c t) ↔ _
    rw [List.cons_lt_cons_iff, ky_lt hc g1.pos g2.pos d1 d2, ky_eq hc g1.pos g2.pos d1 d2, ky_slt hc h1.tl h2.tl]
    rfl
theorem ky_inj {c : Int} (hc : 0 < c) : ∀ {s t : Spot}, SpC c s → SpC c t → ky c s = ky c t → s = t
  | [], [], _, _, _ => rfl
  | [], _ :: _, _, _, h => by cases h
  | _ :: _, [], _, _, h => by cases h
  | f :: s, g :: t, h1, h2, h => by
    obtain ⟨⟨a, g1⟩, d1⟩ := h1.hd
    obtain ⟨⟨b, g2⟩, d2⟩ := h2.hd
    have h : kyF c f :: ky c s = kyF c g :: ky c t := h
    injection h with e1 e2
    rw [gd_inj g1 g2 ((ky_eq hc g1.pos g2.pos d1 d2).mp e1), ky_inj hc h1.tl h2.tl e2]
/-- in order, each once -/
def Rising (ss ys : List Spot) : Prop := ys.Pairwise sLt ∧ ∀ s, s ∈ ys ↔ s ∈ ss
theorem pw_uniq {α : Type} {R : α → α → Prop} (irr : ∀ x, ¬ R x x) (asy : ∀ x y, R x y → ¬ R y x) : ∀ {l m : List α}, l.Pairwise R → m.Pairwise R → (∀ x, x ∈ l ↔ x ∈ m) → l = m
  | [], [], _, _, _ => rfl
  | [], y :: m, _, _, h => absurd ((h y).mpr (List.mem_cons_self ..)) (by simp)
  | x :: l, [], _, _, h => absurd ((h x).mp (List.mem_cons_self ..)) (by simp)
  | x :: l, y :: m, h1, h2, h => by
    rw [List.pairwise_cons] at h1 h2
    have e : x = y := by
      rcases List.mem_cons.mp ((h x).mp (List.mem_cons_self ..)) with e | hx
      · exact e
      · rcases List.mem_cons.mp ((h y).mpr (List.mem_cons_self ..)) with e | hy
        · exact e.symm
        · exact absurd (h2.1 x hx) (asy _ _ (h1.1 y hy))
    subst e
    rw [pw_uniq irr asy h1.2 h2.2 fun z => ⟨fun hz => ?_, fun hz => ?_⟩]
    · rcases List.mem_cons.mp ((h z).mp (List.mem_cons_of_mem _ hz)) with rfl | hz'
      · exact absurd (h1.1 z hz) (irr z)
      · exact hz'
    · rcases List.mem_cons.mp ((h z).mpr (List.mem_cons_of_mem _ hz)) with rfl | hz'
      · exact absurd (h2.1 z hz) (irr z)
      · exact hz'
theorem rising_uniq {ss ys zs : List Spot} (h1 : Rising ss ys) (h2 : Rising ss zs) : ys = zs := pw_uniq sLt_irr sLt_asy h1.1 h2.1 fun s => (h1.2 s).trans (h2.2 s).symm
/-! ### dicts by typed keys -/
namespace N
section
variable {κ β : Type} [DecidableEq κ] {ek : κ → List PyData} {ev : β → PyData}
def aget (m : List (κ × β)) (k : κ) : Option β := (m.find? fun p => decide (p.1 = k)).map (·.2)
def aput (m : List (κ × β)) (k : κ) (v : β) : List (κ × β) := if (aget m k).isSome then m.map (fun p => if p.1 = k then (p.1, v) else p) else m ++ [(k, v)]
def encM (ek : κ → List PyData) (ev : β → PyData) (m : List (κ × β)) : Kvs := m.map fun p => (ek p.1, ev p.2)
theorem look_enc (inj : ∀ a b, kk (ek a) = kk (ek b) → a = b) (m : List (κ × β)) (k : κ) : lookK (encM ek ev m) (ek k) = (aget m k).map ev := qt_of (by simp (disch := with_unfolding_all
  unfold lookK aget encM
  induction m with
  | nil => rfl
  | cons p m ih =>
    rw [List.map_cons]
    by_cases e : p.1 = k
    · rw [List.find?_cons_of_pos (by simp [e]), List.find?_cons_of_pos (by simp [e])]; rfl
    · rw [List.find?_cons_of_neg (by simpa using fun z => e (inj _ _ z)), List.find?_cons_of_neg (by simpa using e)]
      exact ih
  ) only [↓qt_eq])
theorem put_enc (inj : ∀ a b, kk (ek a) = kk (ek b) → a = b) (m : List (κ × β)) (k : κ) (v : β) : putK (encM ek ev m) (ek k) (ev v) = encM ek ev (aput m k v) := qt_of (by simp (disch := with_unfolding_all
  unfold putK aput
  rw [look_enc inj, Option.isSome_map]
  split
  · unfold encM
    rw [List.map_map, List.map_map]
    refine List.map_congr_left fun p _ => ?_
    show (if kk (ek p.1) = kk (ek k) then _ else _) = _
    by_cases e : p.1 = k
    · rw [if_pos (by rw [e])]
      show _ = (fun p : κ × β => (ek p.1, ev p.2)) (if p.1 = k then (p.1, v) else p)
      rw [if_pos e]
    · rw [if_neg (fun z => e (inj _ _ z))]
      show _ = (fun p : κ × β => (ek p.1, ev p.2)) (if p.1 = k then (p.1, v) else p)
      rw [if_neg e]
  · unfold encM; rw [List.map_append]; rfl
  ) only [↓qt_eq])
theorem aget_none {m : List (κ × β)} {k : κ} : aget m k = none ↔ ∀ p ∈ m, p.1 ≠ k := by
  unfold aget
  rw [Option.map_eq_none_iff, List.find?_eq_none]
  simp
theorem aget_mem {m : List (κ × β)} {k : κ} {v : β} (h : aget m k = some v) : (k, v) ∈ m := qt_of (by simp (disch := with_unfolding_all
  unfold aget at h
  obtain ⟨p, h1, rfl⟩ := Option.map_eq_some_iff.mp h
  have h2 := List.find?_some h1
  have h3 := List.mem_of_find?_eq_some h1
  have : p.1 = k := by simpa using h2
  rw [← this]; exact h3
  ) only [↓qt_eq])
theorem aget_aput {m : List (κ × β)} {k j : κ} {v : β} : aget (aput m k v) j = if j = k then some v else aget m j := qt_of (by simp (disch := with_unfolding_all
  unfold aput
  split
  · rename_i hs
    induction m with
    | nil => cases hs
    | cons p m ih =>
      have step : ∀ (q : κ × β) (l : List (κ × β)), aget (q :: l) j = if q.1 = j then some q.2 else aget l j := fun q l => by
        unfold aget
        by_cases e : q.1 = j
        · rw [if_pos e, List.find?_cons_of_pos (by simpa using e)]; rfl
        · rw [if_neg e, List.find?_cons_of_neg (by simpa using e)]
      have stepk : ∀ (q : κ × β) (l : List (κ × β)), aget (q :: l) k = if q.1 = k then some q.2 else aget l k := fun q l => by
        unfold aget
        by_cases e : q.1 = k
        · rw [if_pos e, List.find?_cons_of_pos (by simpa using e)]; rfl
        · rw [if_neg e, List.find?_cons_of_neg (by simpa using e)]
      rw [List.map_cons, step, step]
      by_cases e : p.1 = k
      · rw [if_pos e]
        show (if p.1 = j then some v else _) = _
        by_cases ej : j = k
        · rw [if_pos (by rw [e, ej]), if_pos ej]
        · rw [if_neg (by rw [e]; exact fun z => ej z.symm), if_neg ej, if_neg (by rw [e]; exact fun z => ej z.symm)]
          by_cases hm : (aget m k).isSome = true
          · rw [ih hm, if_neg ej]
          · have hn : ∀ q ∈ m, q.1 ≠ k := aget_none.mp (by cases h : aget m k with | none => rfl | some v => rw [h] at hm; exact absurd rfl hm)
            have : (m.map fun p => if p.1 = k then (p.1, v) else p) = m := by
              conv => rhs; rw [← List.map_id m]
              exact List.map_congr_left fun q hq => if_neg (hn q hq)
            rw [this]
      · rw [if_neg e]
        rw [stepk, if_neg e] at hs
        rw [ih hs]
        by_cases ej : j = k
        · rw [if_pos ej, if_pos ej]
          rw [if_neg (by rw [ej]; exact e)]
        · rw [if_neg ej, if_neg ej]
  · rename_i hs
    have hn : ∀ q ∈ m, q.1 ≠ k := aget_none.mp (by cases h : aget m k with | none => rfl | some v => rw [h] at hs; exact absurd rfl hs)
    unfold aget
    rw [List.find?_append]
    by_cases ej : j = k
    · subst ej
      rw [if_pos rfl, List.find?_eq_none.mpr (by simpa using hn)]
      simp
    · rw [if_neg ej]
      have : [(k, v)].find? (fun p => decide (p.1 = j)) = none := by
        rw [List.find?_eq_none]
        intro p hp
        rw [List.mem_singleton.mp hp]
        simpa using fun z => ej z.symm
      rw [this, Option.or_none]
  ) only [↓qt_eq])
theorem aput_keys {m : List (κ × β)} {k : κ} {v : β} (h : (m.map (·.1)).Nodup) : ((aput m k v).map (·.1)).Nodup := qt_of (by simp (disch := with_unfolding_all
  unfold aput
  split
  · rw [List.map_map]
    have : (m.map ((·.1) ∘ fun p : κ × β => if p.1 = k then (p.1, v) else p)) = m.map (·.1) := List.map_congr_left fun p _ => by
      show (if p.1 = k then (p.1, v) else p).1 = p.1
      split <;> rfl
    rw [this]; exact h
  · rename_i hs
    have hn : ∀ q ∈ m, q.1 ≠ k := aget_none.mp (by cases h : aget m k with | none => rfl | some v => rw [h] at hs; exact absurd rfl hs)
    rw [List.map_append, List.nodup_append]
    refine ⟨h, by simp, fun a ha b hb => ?_⟩
    obtain ⟨q, hq, rfl⟩ := List.mem_map.mp ha
    have : b = k := by simpa using hb
    rw [this]; exact hn q hq
  ) only [↓qt_eq])
end
end N
end U

end
section
/-! x in a list or a tuple of data of any depth. -/
namespace U
open PySem PySem.Spec PyProof.Rows L2 Evl
theorem u9 {n : Nat} (h : n + 64 < cLine) : n + 9 < cLine := by omega
section
variable {X : Cx}
end
end U

end
section
/-! Keys that are whole numbers; sorted rows of whole numbers; forms for the walking tactic. -/
namespace U.N
open PySem L2 Evl
abbrev inz (a : List Int) : List PyData := a.map PyData.int
theorem toKs_ints : ∀ a : List Int, toKs (inz a) = some (a.map NestedKey.num)
  | [] => rfl
  | x :: a => by
    show ((toK (.int x)).bind fun k => (toKs (inz a)).map (k :: ·)) = _
    rw [toKs_ints a]
    rfl
theorem kk_ints (a : List Int) : kk (inz a) = .tup (a.map NestedKey.num) := by
  show ((toKs (inz a)).map NestedKey.tup).getD .none = _
  rw [toKs_ints]
  rfl
theorem num_inj : ∀ {a b : List Int}, a.map NestedKey.num = b.map NestedKey.num → a = b
  | [], [], _ => rfl
  | [], _ :: _, h => by cases h
  | _ :: _, [], h => by cases h
  | x :: a, y :: b, h => by
    injection h with h1 h2
    injection h1 with h1
    rw [h1, num_inj h2]
theorem kk_inj (a b : List Int) (h : kk (inz a) = kk (inz b)) : a = b := by
  rw [kk_ints, kk_ints] at h
  injection h with h
  exact num_inj h
theorem kg_ints (a : List Int) : KG (inz a) := qt_of (by simp (disch := with_unfolding_all
  unfold KG
  rw [kk_ints]
  refine ⟨?_, _, rfl⟩
  have : NestedKey.depthAll (a.map NestedKey.num) ≤ 1 := by
    induction a with
    | nil => simp [NestedKey.depthAll]
    | cons x a ih =>
      rw [List.map_cons, NestedKey.depthAll]
      have : NestedKey.depth (.num x) ≤ 1 := by simp [NestedKey.depth]
      omega
  rw [NestedKey.depth]
  omega
  ) only [↓qt_eq])
/-! ### rows of whole numbers, sorted -/
theorem le_tr {a b c : List Int} (h1 : decide (a ≤ b) = true) (h2 : decide (b ≤ c) = true) : decide (a ≤ c) = true := by
  simp only [decide_eq_true_eq] at *
  exact List.le_trans h1 h2
theorem le_to (a b : List Int) : (decide (a ≤ b) || decide (b ≤ a)) = true := by
  rcases List.le_total a b with h | h <;> simp [h]
def srtI (xs : List (List Int)) : List (List Int) := xs.mergeSort fun a b => decide (a ≤ b)
theorem srtI_pw (xs : List (List Int)) : (srtI xs).Pairwise (· ≤ ·) := by
  have := List.pairwise_mergeSort (le := fun a b : List Int => decide (a ≤ b)) (fun a b c => le_tr) (fun a b => le_to a b) xs
  exact this.imp fun h => by simpa using h
theorem srtI_mem {xs : List (List Int)} {a : List Int} : a ∈ srtI xs ↔ a ∈ xs := List.mem_mergeSort
theorem srtI_nodup {xs : List (List Int)} (h : xs.Nodup) : (srtI xs).Nodup := (List.mergeSort_perm xs _).nodup_iff.mpr h
theorem srtI_lt {xs : List (List Int)} (h : xs.Nodup) : (srtI xs).Pairwise (· < ·) := by
  have h1 := srtI_pw xs
  have h2 := srtI_nodup h
  have h3 := h1.and h2
  refine h3.imp fun ⟨a, b⟩ => ?_
  rcases List.le_iff_lt_or_eq.mp a with h | h
  · exact h
  · exact absurd h b
theorem le_not (a b : List Int) : (!decide (b < a)) = decide (a ≤ b) := by
  by_cases h : a ≤ b
  · rw [decide_eq_true h, decide_eq_false (List.not_lt.mpr h)]; rfl
  · rw [decide_eq_false h, decide_eq_true (List.not_le.mp h)]; rfl
theorem srt_tups (xs : List (List Int)) : srtD (xs.map fun a => .tuple (inz a)) = (srtI xs).map fun a => .tuple (inz a) := by
  unfold srtD srtI
  refine (List.map_mergeSort fun a _ b _ => ?_).symm
  show decide (a ≤ b) = !PySem.W.rowLt (inz b) (inz a)
  rw [PySem.W.dataLt_ints, le_not]
theorem depth_ints (a : List Int) : PyData.depthAll (inz a) = 0 := PySem.W.depth_ints a
theorem ok_tups {xs : List (List Int)} (h : ∀ a ∈ xs, a ≠ []) : SrtOk (xs.map fun a => .tuple (inz a)) := by
  refine ⟨fun d hd d' hd' => ?_, .inl fun d hd => ?_, fun d hd => ?_⟩
  · obtain ⟨a, _, rfl⟩ := List.mem_map.mp hd
    obtain ⟨b, _, rfl⟩ := List.mem_map.mp hd'
    exact PySem.W.alike_ints a b
  · obtain ⟨a, ha, rfl⟩ := List.mem_map.mp hd
    cases a with
    | nil => exact absurd rfl (h [] ha)
    | cons x a => exact ⟨_, _, rfl⟩
  · obtain ⟨a, _, rfl⟩ := List.mem_map.mp hd
    rw [PyData.depth, depth_ints]
    decide
/-! ### forms for the tactic -/
section
variable {K : Fg} {cs : Cs} {W : WX} {G : Gam} {ta tb : TE} {φ : PyData → Prop} {ε : Xw → Prop} {w : World} {ep : Nat} {kvs : Kvs} {i : Nat}
theorem ew_dxO (hi : G[i]? = some (.ow (od w ep kvs))) (h : EW K cs W tb G (fun y => ∃ k x, y = .tuple k ∧ KG k ∧ lookK kvs k = some x ∧ φ x) ε) : EW K cs W (tOp (rDx K w) (tVar i) tb) G φ ε := ew_dx (.inl hi) h
theorem ew_dxF (hi : G[i]? = some (.fz (od w ep kvs))) (h : EW K cs W tb G (fun y => ∃ k x, y = .tuple k ∧ KG k ∧ lookK kvs k = some x ∧ φ x) ε) : EW K cs W (tOp (rDx K w) (tVar i) tb) G φ ε := ew_dx (.inr hi) h
end
end U.N

end
section
/-! The common number divides every common multiple. -/
namespace U
open PySem PyProof.Rows L2 Evl
theorem lcI_dvd {a b c : Int} (ha : 0 < a) (hb : 0 < b) (h1 : a ∣ c) (h2 : b ∣ c) : lcI a b ∣ c := qt_of (by simp (disch := with_unfolding_all
  have e : gI a b = (Nat.gcd a.natAbs b.natAbs : Int) := by
    unfold gI gN
    have : 0 < Nat.gcd a.natAbs b.natAbs := Nat.gcd_pos_of_pos_right _ (by omega)
    omega
  obtain ⟨x, rfl⟩ : ∃ x : Nat, a = x := ⟨a.toNat, by omega⟩
  obtain ⟨y, rfl⟩ : ∃ y : Nat, b = y := ⟨b.toNat, by omega⟩
  have e1 : lcI x y = (Nat.lcm x y : Int) := by
    unfold lcI
    rw [e, Int.fdiv_eq_ediv_of_nonneg _ (Int.natCast_nonneg _)]
    show ((x : Int) * y) / ((Nat.gcd x y : Nat) : Int) = _
    unfold Nat.lcm
    norm_cast
  rw [e1]
  exact Int.ofNat_dvd_left.mpr (Nat.lcm_dvd (Int.ofNat_dvd_left.mp h1) (Int.ofNat_dvd_left.mp h2))
  ) only [↓qt_eq])
theorem cbS_dvd {a : Nat} {c : Int} : ∀ {s : List Fr} {acc : Int}, Gds' a s → 0 < acc → acc ∣ c → (∀ f ∈ s, f.2 ∣ c) → 0 < cbS acc s ∧ cbS acc s ∣ c
  | [], acc, _, h, b, _ => ⟨h, b⟩
  | f :: s, acc, g, h, b, d => by
    have gf := g f (List.mem_cons_self ..)
    exact cbS_dvd (s := s) (acc := lcI acc f.2) (fun x hx => g x (List.mem_cons_of_mem _ hx)) (lcI_spec h gf.pos).1 (lcI_dvd h gf.pos b (d f (List.mem_cons_self ..))) fun x hx => d x (List.mem_cons_of_mem _ hx)
theorem cb_dvd {a : Nat} {c : Int} : ∀ {ss : List (List Fr)} {acc : Int}, (∀ s ∈ ss, Gds' a s) → 0 < acc → acc ∣ c → (∀ s ∈ ss, ∀ f ∈ s, f.2 ∣ c) → 0 < cb acc ss ∧ cb acc ss ∣ c
  | [], acc, _, h, b, _ => ⟨h, b⟩
  | s :: ss, acc, g, h, b, d => by
    obtain ⟨l1, l2⟩ := cbS_dvd (g s (List.mem_cons_self ..)) h b (d s (List.mem_cons_self ..))
    exact cb_dvd (ss := ss) (acc := cbS acc s) (fun x hx => g x (List.mem_cons_of_mem _ hx)) l1 l2 fun x hx => d x (List.mem_cons_of_mem _ hx)
theorem bd_dvd {n : Nat} {a c : Int} (hc : 0 < c) (h : a ∣ c) (b : Bd n c) : Bd n a := by
  unfold Bd at *
  exact Nat.lt_of_le_of_lt (Nat.le_of_dvd (by omega) (Int.natAbs_dvd_natAbs.mpr h)) b
/-- numbers of a bits, the numbers below with a common multiple of N bits -/
structure CbB (a N : Nat) (ss : List Spot) : Prop where
  gd : ∀ s ∈ ss, Gds a s
  cm : ∃ c0 : Int, 0 < c0 ∧ (∀ s ∈ ss, ∀ f ∈ s, f.2 ∣ c0) ∧ Bd N c0
theorem CbB.spc {a N : Nat} {ss : List Spot} (h : CbB a N ss) : 0 < cb 1 ss ∧ (∀ s ∈ ss, SpC (cb 1 ss) s) ∧ Bd N (cb 1 ss) := qt_of (by simp (disch := with_unfolding_all
  obtain ⟨c0, h1, h2, h3⟩ := h.cm
  obtain ⟨k1, k2⟩ := cb_dvd (acc := 1) h.gd (by decide) (Int.one_dvd _) h2
  refine ⟨k1, fun s hs => ⟨⟨a, h.gd s hs⟩, ?_⟩, bd_dvd h1 k2 h3⟩
  have key : ∀ {ss : List Spot} {acc : Int}, (∀ s ∈ ss, Gds' a s) → 0 < acc → acc ∣ cb acc ss ∧ ∀ s ∈ ss, ∀ f ∈ s, f.2 ∣ cb acc ss := fun {ss} => by
    induction ss with
    | nil => intro acc _ _; exact ⟨Int.dvd_refl _, by simp⟩
    | cons s ss ih =>
      intro acc g ha
      obtain ⟨B, hB⟩ : ∃ n, Bd n acc := ⟨acc.natAbs, Nat.lt_two_pow_self⟩
      obtain ⟨l1, l2, l3, l4⟩ := cbS_spec (g s (List.mem_cons_self ..)) ha hB
      obtain ⟨i1, i2⟩ := ih (acc := cbS acc s) (fun x hx => g x (List.mem_cons_of_mem _ hx)) l1
      refine ⟨Int.dvd_trans l2 i1, fun x hx f hf => ?_⟩
      rcases List.mem_cons.mp hx with rfl | hx
      · exact Int.dvd_trans (l3 f hf) i1
      · exact i2 x hx f hf
  exact (key h.gd (by decide)).2 s hs
  ) only [↓qt_eq])
end U

end
section
/-! Corners round: plain geometry over the rationals. -/
namespace U.Hull
structure Pt where
  x : Rat
  y : Rat
deriving DecidableEq
def sub (a b : Pt) : Pt := ⟨a.x - b.x, a.y - b.y⟩
/-- the area by which two steps span -/
def cr (u v : Pt) : Rat := u.x * v.y - u.y * v.x
/-- > 0: c lies to the left of a → b -/
def tn (a b c : Pt) : Rat := cr (sub b a) (sub c a)
theorem mul_nn {a b : Rat} (ha : 0 ≤ a) (hb : 0 ≤ b) : 0 ≤ a * b := Rat.mul_nonneg ha hb
/-! ### one side -/
/-! ### edges -/
end U.Hull

end
section
namespace U.Hull
/-- q lies between h and r -/
def Btw (h r q : Pt) : Prop := (q.x - h.x) * (q.x - r.x) ≤ 0 ∧ (q.y - h.y) * (q.y - r.y) ≤ 0 ∧ tn h r q = 0
theorem mul_eq0 {a b : Rat} (h : a * b = 0) (ha : a ≠ 0) : b = 0 := by
  rcases Rat.mul_eq_zero.mp h with h | h
  · exact absurd h ha
  · exact h
theorem pt_ext {p q : Pt} (h1 : p.x = q.x) (h2 : p.y = q.y) : p = q := by cases p; cases q; cases h1; cases h2; rfl
/-- q follows h round the spots P -/
def Nx (P : List Pt) (h q : Pt) : Prop := q ∈ P ∧ q ≠ h ∧ (∀ r ∈ P, 0 ≤ tn h q r) ∧ ∀ r ∈ P, r ≠ q → ¬ Btw h r q
end U.Hull

end
section
namespace U.Hull
end U.Hull

end
section
/-! Corners round, of spots. -/
namespace U.Hull
open U
def pt : Spot → Pt
  | [a, b] => ⟨val a, val b⟩
  | [a] => ⟨val a, 0⟩
  | _ => ⟨0, 0⟩
end U.Hull

end
section
/-! The body of spots in order. -/
namespace U.Hull
open U
/-! ### on a line -/
end U.Hull

end
section
/-! enumerate of a list or a tuple. -/
namespace U
open PySem PySem.W PyProof.Rows L2 Evl
theorem meets_en1 {v : Value} {o : Obj} {H : Heap → Prop} (B : Begins v o H) :
    Meets (Builtin.«enumerate.__new__» ⟨[.type "enumerate", v], []⟩) (fun _ R s => H s.heap ∧
      R (.ok (.ret (.ref (s.heap.push o).objs.size))) { s with heap := (s.heap.push o).push { cls := .type "enumerate", data := .fields #[.none, .bool false, .ref s.heap.objs.size, rawInt 0, .none, .none] } }) :=
  .of_wp fun prog w A R s h => by
    obtain ⟨hp, g, d, tk, os⟩ := s; obtain ⟨h1, h⟩ := h
    have hsub := sub_enumerate
    have q1 : ∀ {A' : Around} {E : Value → Shared → Prop} {Q : Value → Shared → Prop}, Q (.ref hp.objs.size) ⟨hp.push o, g, d, tk, os⟩ → wpAny (model prog w) A' (pyIter v) Q E ⟨hp, g, d, tk, os⟩ :=
      fun q => B.iter prog w _ _ ⟨hp, g, d, tk, os⟩ _ h1 q
    wp_walk using q1
    refine wpAny_stack_any fun st => wpAny_pure ?_
    split
    · rename_i c _ _ _ _ _
      cases (c == Value.type "enumerate")
      · wp_walk using q1
        exact ⟨_, rfl, h⟩
      · wp_walk using q1
        exact ⟨_, rfl, h⟩
    · wp_walk using q1
      exact ⟨_, rfl, h⟩
section
variable {prog : Program} {w : World} {A : Around} {E : Value → Shared → Prop} {s : Shared}
theorem call_en1 {v : Value} {o : Obj} {H : Heap → Prop} {Q : Value → Shared → Prop} (B : Begins v o H) (h1 : H s.heap)
    (h : ∀ h', IsEnum h' (s.heap.objs.size + 1) s.heap.objs.size 0 .none → h'.get? s.heap.objs.size = some o → h'.objs.size = s.heap.objs.size + 2 →
      (∀ b o, s.heap.get? b = some o → h'.get? b = some o) → Q (.ref (s.heap.objs.size + 1)) { s with heap := h' }) :
    wpAny (model prog w) A (call (.type "enumerate") [v]) Q E s := qt_of (by simp (disch := with_unfolding_all
  refine callType_new F.called_enumerate (by decide) (F.typeCall_enumerate_1 _) (F.newCall_enumerate_1 _) (fun obj => F.args_object_init_2 obj _) F.entry_enumerate_new
    (meets_en1 B) ⟨h1, ?_⟩
  have hz : (s.heap.push o).objs.size = s.heap.objs.size + 1 := Heap.size_push ..
  show _ ∧ _
  rw [hz]
  have he : IsEnum ((s.heap.push o).push { cls := .type "enumerate", data := .fields #[.none, .bool false, .ref s.heap.objs.size, rawInt 0, .none, .none] }) (s.heap.objs.size + 1) s.heap.objs.size 0 .none := by
    have := Heap.get?_push_size (s.heap.push o) (o := { cls := .type "enumerate", data := .fields #[.none, .bool false, .ref s.heap.objs.size, rawInt 0, .none, .none] }) rfl
    rw [hz] at this; exact this
  refine ⟨⟨_, he, rfl⟩, h _ he (Heap.get?_push_of_some _ (Heap.get?_push_size _ B.free)) (by rw [Heap.size_push, hz]) fun b o x => Heap.get?_push_of_some _ (Heap.get?_push_of_some _ x)⟩
  ) only [↓qt_eq])
theorem en_endK {k : Kd} {e it l : Addr} {i : Nat} {items : Array Value} {old : Value} {Q : Option Value → Shared → Prop} (hh : A.in1.handled = none)
    (he : IsEnum s.heap e it i old) (hit : ItK k s.heap it l i) (hl : SqK k s.heap l items) (hx : items[i]? = none)
    (hQ : ∀ h', Heap.ExtBut it s.heap h' → Q none { s with heap := h' }) : wpAny (model prog w) A (pyNext (.ref e)) Q E s := qt_of (by simp (disch := with_unfolding_all
  have hT : s.TypeIs (.ref e) "enumerate" := ⟨_, he, rfl⟩
  unfold pyNext
  refine wpAny_bind (wpAny_attempt (wpAny_callSpecial?_slot (name := Str.ofString "__next__") hT F.slot_enumerate_next
    (wpAny_call_entry F.slot_enumerate_next hT F.entry_enumerate_next ?_ (F.args_enumerate_next_1 _))))
  show wpAny _ _ (field (.ref e) 2 >>= _) _ _ _
  refine wpAny_bind (wpAny_field he rfl (x := .ref it) rfl ?_)
  refine wpAny_bind (nx_end hh hit hl hx fun h' x he' hx' => ?_)
  obtain ⟨o, ho, hc⟩ := hx'
  refine wpAny_bind (wpAny_isInstance (T := "StopIteration") (b := true) ⟨o, ho, hc⟩ isSubtype_stop ?_)
  exact wpAny_pure (hQ _ he')
  ) only [↓qt_eq])
theorem drawsK (k : Kd) (hh : A.handled = none) (it l : Addr) (hne : l ≠ it) (items : Array Value) :
    Draws prog w A it [it, l] items.size (fun i v => items[i]? = some v) (fun i h => ItK k h it l i ∧ SqK k h l items) := by
  cases k with
  | L => exact Draws.list hh it l hne items
  | T => exact Draws.tuple hh it l hne items
end
theorem beginsK (k : Kd) (l : Addr) (items : Array Value) : Begins (.ref l) { cls := .type (itN k), data := .fields #[.ref l, .int 0 0] } fun h => SqK k h l items := by
  cases k with
  | L => exact begins_list l items
  | T => exact begins_tuple l items
theorem itK_new {k : Kd} {h : Heap} {it l : Addr} (hg : h.get? it = some { cls := .type (itN k), data := .fields #[.ref l, .int 0 0] }) : ItK k h it l 0 := by
  cases k with
  | L => exact ⟨_, hg, rfl, rfl⟩
  | T => exact ⟨_, hg, rfl, rfl⟩
/-- the items of a list or a tuple with their places, in new pairs -/
def IteM (K : Fg) (k : Kd) (a : Addr) : It :=
  ⟨fun i H => ∃ (xs : List V) (x : V), SqV K k H a xs ∧ xs[i]? = some x, fun i H v H' => ∃ T x, v = .ref T ∧ H T = none ∧ H' = upd H T (.tup [.int (i : Nat), x]) ∧ ∀ xs, SqV K k H a xs → xs[i]? = some x, fun i H => ∃ xs : List V, SqV K k H a xs ∧ xs.length ≤ i⟩
theorem turn_enumM {P : Program} {w : World} {K : Fg} {elts : List Expr} {kk : Nat} {tpos : Pos} {k : Kd} (a e it : Addr) (hae : a ≠ e) (hai : a ≠ it) :
    L2.Turn P w K (.Tuple elts kk tpos) (IteM K k a) [e, it] e (fun i h => (∃ old, IsEnum h e it ((i : Nat) : Int) old) ∧ ItK k h it a i ∧ e ≠ it) where
  mem := by simp
  obj := fun i h st b hb => by
    obtain ⟨⟨old, he⟩, hi, _⟩ := st
    have e' : b = e ∨ b = it := by simpa using hb
    rcases e' with z | z
    · rw [z]; exact ⟨_, he, fun v q => nomatch q⟩
    · rw [z]; exact hi.obj
  keep := fun i h h' st k => let ⟨⟨old, he⟩, hi, hne⟩ := st; ⟨⟨old, k e (by simp) _ he⟩, hi.at_ fun o q => k it (by simp) o q, hne⟩
  item := by
    intro X hP hw hK hc i pins s σ H E I hf st hg
    subst hP hw hK
    obtain ⟨⟨old, he⟩, hit, hne⟩ := st
    obtain ⟨xs, x, hq, hx⟩ := hg
    obtain ⟨its, rv, p, hz⟩ := hq.inv I
    obtain ⟨u, hu, ru⟩ := rv.get hx
    have hel : e < s.heap.objs.size := Heap.lt_size he
    have hil : it < s.heap.objs.size := by obtain ⟨o, q, _⟩ := hit.obj; exact Heap.lt_size q
    have hlt : i < its.toArray.size := by
      have := (List.getElem?_eq_some_iff.mp hu).1
      simpa using this
    have hh : X.A.in1.handled = none := I.ok.hd hc
    refine wpAny_pyNext_enum_itemC (drawsK k hh it a hai its.toArray) he ⟨hit, p⟩ hlt hne (by simp; exact ⟨hne, Ne.symm hae⟩) fun y h' tk hy ho hst' hT hsz hk => ?_
    have ey : y = u := by
      have : its.toArray[i]? = some u := by simpa using hu
      rw [this] at hy
      exact (Option.some.inj hy).symm
    subst ey
    refine ⟨_, rfl, wpAny_letOwnedTupleGo_enum (s := { s with heap := h', toks := tk + 1 }) ho fun h'' he' sb => ?_⟩
    have hT2 : h''.get? s.heap.objs.size = some { cls := .type "tuple", data := .seq #[.int i tk, y] } := (sb.2 _ (Nat.ne_of_gt hel)).trans hT
    have new : ObjOk X.prog X.w (upd H s.heap.objs.size (.tup [.int (i : Nat), x])) h'' s.heap.objs.size (.tup [.int (i : Nat), x]) :=
      ⟨by show 2 ≤ sizeLine; decide, [.int i tk, y], .cons ⟨_, rfl⟩ (.cons ru .nil), ⟨_, hT2, rfl, _, rfl⟩⟩
    have I1 : Inv X pins σ (upd H s.heap.objs.size (.tup [.int (i : Nat), x])) { s with heap := h'', toks := tk + 1 } :=
      I.turnedNew (ch := [e, it]) (fun b ob hb q => (sb.2 b (fun z => hb (by simp [z]))).trans (hk b ob (fun z => hb (by simp [z])) (fun z => hb (by simp [z])) q)) hf (Nat.le_refl _) new
    refine ⟨.ref s.heap.objs.size, _, I1, rfl, ⟨_, x, rfl, I.hok.fresh (Nat.le_refl _), rfl, fun ys hy => by rw [hy.inj I hq]; exact hx⟩, ⟨⟨y, ?_⟩, hst'.1.at_ fun o q => (sb.2 it (Ne.symm hne)).trans q, hne⟩, fun b hb => ?_⟩
    · have e1 : ((i + 1 : Nat) : Int) = (i : Int) + 1 := by omega
      rw [e1]; exact he'
    · have hb' : b < s.heap.objs.size := by
        have e' : b = e ∨ b = it := by simpa using hb
        rcases e' with z | z
        · rw [z]; exact hel
        · rw [z]; exact hil
      rw [upd_ne (Nat.ne_of_lt hb')]
      exact (hf b hb).1
  done := by
    intro X hP hw hK hc i pins s σ H E I hf st hg
    subst hP hw hK
    obtain ⟨⟨old, he⟩, hit, hne⟩ := st
    obtain ⟨xs, hq, hx⟩ := hg
    obtain ⟨its, rv, p, hz⟩ := hq.inv I
    obtain ⟨f0, f1, f2, f3, f4, f5⟩ := hf it (by simp)
    have hl := rv.length
    have hh : X.A.in1.handled = none := I.ok.hd hc
    exact en_endK (A := X.A) hh he hit p (by simp; omega) fun h' eb => ⟨rfl, I.turned (t' := s.toks) (fun b o hb q => eb b o hb q) f0 f1 f3 f4 f5⟩
  self := fun A i s Q E st h => let ⟨⟨_, he⟩, _⟩ := st; wpAny_pyIter_enum he h
/-- for i, x in enumerate(xs) -/
def iEnumM (K : Fg) (ta : TA) : TI := fun σ H R => ta σ H fun vs H1 => ∃ k a xs, vs = [.ref a] ∧ SqV K k H1 a xs ∧ R (IteM K k a) H1
theorem pi_enumM {X : Cx} {e : Expr} {ta : TA} {p pos tpos : Pos} {elts : List Expr} {kk : Nat} (hg : Gl X "enumerate") (hm : X.mg "enumerate" = none) (ha : PA X [e] ta) (hs : starEach [e] X.env = [(false, eval e X.env)] := by rfl) :
    PI X (.Tuple elts kk tpos) (.Call (.Name "enumerate" p) [e] [] pos) (iEnumM X.K ta) := by
  refine ⟨fun pins s σ H R I h => ?_⟩
  refine Call_ (ld_blt I hg hm boot_enumerate (PyProof.Rows.callWith_type1 (thn (ha.run pos pins s σ H _ I h) fun us s1 ⟨vs, H1, I1, r1, q1⟩ => ?_) hs rfl))
  obtain ⟨k, a, xs, ex, hq, q⟩ := q1
  subst ex
  cases r1 with
  | cons r rr =>
    cases rr
    cases r
    obtain ⟨its, rv, p', lt⟩ := hq.inv I1
    refine call_en1 (beginsK k a its.toArray) p' fun h' he hit hsz hk => wpAny_pyIter_enum he ?_
    have I2 : Inv X pins σ H1 { s1 with heap := h' } := I1.kept (t' := s1.toks) hk
    refine ⟨s1.heap.objs.size + 1, [s1.heap.objs.size + 1, s1.heap.objs.size], _, _, H1, rfl, I2, turn_enumM (k := k) a (s1.heap.objs.size + 1) s1.heap.objs.size (Nat.ne_of_lt (Nat.lt_succ_of_lt lt)) (Nat.ne_of_lt lt), ⟨⟨.none, he⟩, itK_new hit, Nat.succ_ne_self _⟩, fun b hb => ?_, q⟩
    have e' : b = s1.heap.objs.size + 1 ∨ b = s1.heap.objs.size := by simpa using hb
    have hle : s1.heap.objs.size ≤ b := by
      rcases e' with z | z
      · rw [z]; exact Nat.le_add_right _ _
      · rw [z]; exact Nat.le_refl _
    exact I1.fpOk hle (I1.hok.fresh hle)
end U

end
section
/-! list comprehensions of two and three clauses. -/
namespace U
open PySem PySem.Spec PyProof.Rows L2
/-- what a clause's rest does to the list at D -/
abbrev TCl := Addr → St → Hp → (Hp → Prop) → Prop
section
variable {X : Cx} {own : List Nat} {D : Addr}
end
section
variable {X : Cx}
end
/-! ### the clauses' own loops -/
section
variable {prog : Program} {w : World} {A : Around} {env : Env} {D : Addr} {c elt t0 i0 i1 : Expr} {i : Nat} {ifs0 : List Expr}
end
section
variable {elt t0 i0 t1 i1 t2 i2 : Expr} {ifs0 ifs1 ifs2 : List Expr} {scope : Scope} {pos : Pos}
variable {prog : Program} {w : World} {A : Around} {env : Env} {D : Addr}
end
/-! ### the rules for use -/
section
variable {X : Cx} {elt tg iter tg1 iter1 tg2 iter2 : Expr} {ifs ifs1 ifs2 : List Expr} {scope : Scope} {own : List (Str × Nat)} {pos : Pos} {wi wi1 wi2 : TI} {g g1 g2 : TG} {tt tt1 tt2 : TT} {te : TE} {vs1 vs2 : List Nat}
end
end U

end
section
namespace U.N
open PySem PyProof.Rows L2 Evl
section
variable {K : Fg} {cs : Cs} {W : WX} {G G' : Gam} {ta te : TE} {φ : PyData → Prop} {ε : Xw → Prop} {ι : List PyData → Prop} {χ : Own → Prop} {Φ : Out → Prop}
variable {Wd : Addr → Prop} {B : Option (Addr × Addr)} {ad : Nat → Addr} {H0 H H1 H2 : Hp} {σ : L2.St}
/-! ### enumerate -/
def enD (xs : List PyData) : List PyData := xs.mapIdx fun i x => .tuple [.int (i : Nat), x]
theorem enD_at {xs : List PyData} {i : Nat} : (enD xs)[i]? = xs[i]?.map fun x => .tuple [.int (i : Nat), x] := by unfold enD; rw [List.getElem?_mapIdx]
theorem enD_len {xs : List PyData} : (enD xs).length = xs.length := by unfold enD; exact List.length_mapIdx
theorem iw_enum {ta : TA} (h : AW K cs W ta G (fun zs => ∃ x xs, zs = [x] ∧ itemsOf x = some xs ∧ ι (enD xs)) ε) : IW K cs W (iEnumM K ta) G ι ε := fun Wd B ad H0 H σ S R q x => h Wd B ad H0 H σ S _ (fun zs ⟨x, xs, e, hx, p⟩ vs H1 S1 e1 d1 => by
  subst e
  obtain ⟨v, rfl, d⟩ := dp1 d1
  obtain ⟨k1, a, us, rfl, g, t⟩ := dp_sqv hx d
  refine ⟨k1, a, us, rfl, ex_v less_ex g, q _ p _ H1 S1 e1 fun H' Z hz e i => ?_⟩
  have q1 : SqV K k1 H' a us := ex_v less_ex (ex_v e g)
  have l1 := dpa_len t
  refine ⟨fun d hd => ?_, fun hn => ⟨us, q1, ?_⟩, fun x H'' hy => ?_⟩
  · have hi := (List.getElem?_eq_some_iff.mp hd).1
    rw [enD_len] at hi
    obtain ⟨v, hv, _⟩ := dpa_get t (List.getElem?_eq_getElem (i := i) (by omega))
    exact ⟨us, v, q1, hv⟩
  · rw [enD_len] at hn
    omega
  · obtain ⟨T, v, rfl, hn, rfl, f1⟩ := hy
    have f1 := f1 us q1
    have ex : Ex H' (upd H' T (.tup [.int (i : Nat), v])) := Ex.new hn
    refine ⟨ex, fun d hd => ?_⟩
    rw [enD_at] at hd
    obtain ⟨x1, hx1, dx⟩ := dpa_at t f1
    rw [hx1] at hd
    cases hd
    have zn : ¬ Z T := fun z => by
      obtain ⟨o, h⟩ := hz T z
      rw [hn] at h; cases h
    exact .tup (st_of (less_of zn upd_same)) (.cons (.int _) (.cons (dp_mono (e.trans (less_mono ex)) dx) .nil))) x
/-- the items with their places -/
def enL {β : Type} (xs : List β) : List (Nat × β) := xs.mapIdx fun i x => (i, x)
theorem enD_map {β : Type} {f : β → PyData} {xs : List β} : enD (xs.map f) = (enL xs).map fun p => .tuple [.int (p.1 : Nat), f p.2] := qt_of (by simp (disch := with_unfolding_all
  unfold enD enL
  rw [List.mapIdx_eq_mapIdx_iff.mpr (fun i h => rfl)]
  apply List.ext_getElem?
  intro i
  rw [List.getElem?_mapIdx, List.getElem?_map, List.getElem?_map, List.getElem?_mapIdx]
  cases xs[i]? <;> rfl
  ) only [↓qt_eq])
theorem enL_at {β : Type} {xs : List β} {i : Nat} : (enL xs)[i]? = xs[i]?.map fun x => (i, x) := by unfold enL; rw [List.getElem?_mapIdx]
theorem enL_len {β : Type} {xs : List β} : (enL xs).length = xs.length := by unfold enL; exact List.length_mapIdx
theorem enL_mem {β : Type} {xs : List β} {p : Nat × β} (h : p ∈ enL xs) : xs[p.1]? = some p.2 := by
  obtain ⟨i, hi⟩ := List.mem_iff_getElem?.mp h
  rw [enL_at] at hi
  obtain ⟨x, hx, rfl⟩ := Option.map_eq_some_iff.mp hi
  exact hx
/-! ### many clauses -/
/-! the turns' items by a map -/
section
variable {β : Type} {xs : List β} {f : β → PyData} {g : TG} {tt : TT} {tc : TCl} {vs : List Nat} {m : Nat} {ρ : List PyData → Prop}
end
end
end U.N

end
section
/-! Land by sides and by threes. -/
namespace U.Hull
open U
end U.Hull

end
section
/-! A list of one's own is lent to a test or a call that only reads it. -/
namespace U.N
open PySem PyProof.Rows L2 Evl
section
variable {K : Fg} {cs : Cs} {W : WX} {G : Gam} {te : TE} {t : TT} {φ : PyData → Prop} {ψ : Bool → Prop} {ε : Xw → Prop} {i : Nat} {xs : List PyData}
variable {Wd : Addr → Prop} {B : Option (Addr × Addr)} {ad : Nat → Addr} {H0 H H2 : Hp} {σ : L2.St}
end
end U.N

end
section
/-! first, *rest = a list or a tuple. -/
namespace U
open PySem PySem.W PyProof.Rows L2 Evl
section
variable {prog : Program} {w : World} {A : Around} {E : Value → Shared → Prop} {s : Shared}
end
/-! ### a call with keywords that may raise -/
section
variable {X : Cx} {CX : CXT} {k n : Nat} {f : Addr} {fd : FuncData} {ps ks : List Str} {sp : Sp} {E : St → XK} {x : Str} {p pos : Pos} {e : Expr} {es : List Expr} {kws : List Keyword} {t tk : TA} {g : List Value → List Value → List Value} {gV : List V → List V → List V}
end
end U

end
section
namespace U.N
open PySem PyProof.Rows L2 Evl
section
variable {K : Fg} {cs : Cs} {W : WX} {G G' : Gam} {ta tb te : TE} {φ : PyData → Prop} {ε : Xw → Prop} {χ : Own → Prop} {Φ : Out → Prop} {γ : Gam → Prop} {P : Pr}
variable {Wd : Addr → Prop} {B : Option (Addr × Addr)} {ad : Nat → Addr} {H0 H H1 H2 : Hp} {σ : L2.St}
/-! ### first, *rest = xs -/
/-! ### calls with keywords that may raise -/
/-! ### xs.index(y) -/
end
/-! ### keys that are bodies -/
end U.N

end
section
/-! What lies between the corners of a body. -/
namespace U.Hull
open U
/-! ### on a line -/
theorem ne_of_pt {c v : Pt} (h : v ≠ c) : v.x - c.x ≠ 0 ∨ v.y - c.y ≠ 0 := by
  by_cases h1 : v.x - c.x = 0
  · exact .inr fun h2 => h (pt_ext (by grind) (by grind))
  · exact .inl h1
theorem mul_left_inj' {a b c : Rat} (h : a * c = b * c) (hc : c ≠ 0) : a = b := by
  have : c * (a - b) = 0 := by grind
  have := mul_eq0 this hc
  grind
/-! ### bodies of more spots -/
/-! ### every spot lies in its body -/
end U.Hull

end
section
namespace U
open PySem PyProof.Rows L2 Evl
section
variable {X : Cx}
end
end U

end
section
namespace U.N
open PySem PyProof.Rows L2 Evl
section
variable {K : Fg} {cs : Cs} {W : WX} {G : Gam} {φ : PyData → Prop} {ε : Xw → Prop}
/-! ### max and min of a list of whole numbers -/
end
end U.N

end
section
/-! isinstance of a caught exception of an own class that has a dict. -/
namespace U
open PySem PyProof.Rows L2 Evl
end U

end
section
namespace U.N
open PySem PyProof.Rows L2 Evl
section
variable {K : Fg} {cs : Cs} {W : WX} {G : Gam} {φ : PyData → Prop} {ε : Xw → Prop}
end
end U.N

end
section
namespace U
open PySem PyProof.Rows L2 Evl
section
variable {X : Cx}
end
end U

end
section
namespace U.N
open PySem PyProof.Rows L2 Evl
section
variable {K : Fg} {cs : Cs} {W : WX} {G : Gam} {Φ : Out → Prop}
end
end U.N

end
section
namespace U
open PySem PyProof.Rows L2 Evl
section
variable {X : Cx} {pos : Pos}
end
end U

end
section
namespace U.N
open PySem PyProof.Rows L2 Evl
section
variable {K : Fg} {cs : Cs} {W : WX} {G : Gam} {γ : Gam → Prop}
end
end U.N

end
section
/-! Defs as values: a def that tells a def by a text, and calls by a name that holds one. -/
namespace U.N
open PySem PyProof.Rows L2 Evl
abbrev FTab := List (Str × Addr)
section
variable {K : Fg} {cs : Cs} {W : WX} {G : Gam} {φ : PyData → Prop} {ε : Xw → Prop} {Φ : Out → Prop} {t u : TE} {ta : TA} {i : Nat} {f : Addr} {P : Pr} {tab : FTab} {e : Xw}
end
/-! ### the body of such a def -/
section
variable (K : Fg) (cs : Cs) (W : WX)
end
section
variable {K : Fg} {cs : Cs} {W : WX} {G : Gam} {A : Addr → Prop} {ε : Xw → Prop} {t1 t2 : TS} {w : World} {f md : Addr} {i : Nat} {z : Str}
end
section
variable {Pg : Program} {w : World} {K : Fg} {mg : Str → Option Value} {base : Heap} {cs : Cs}
end
end U.N

end
section
/-! list(d), d a dict of one's own: its keys, in the order in which they came. -/
namespace U
open PySem PySem.W PyProof.Rows L2 Evl
end U
namespace U.N
open PySem PyProof.Rows L2 Evl
section
variable {K : Fg} {cs : Cs} {W : WX} {G : Gam} {φ : PyData → Prop} {χ : Own → Prop} {ε : Xw → Prop} {w : World} {i ep : Nat} {kvs : Kvs}
end
end U.N

end
section
/-! sorted(set(xs)), xs a list of tuples of whole numbers. -/
namespace U
open PySem PySem.W PyProof.Rows L2 Evl
/-- a tuple of whole numbers -/
abbrev tupZ (ns : List Int) : PyData := .tuple (ns.map PyData.int)
theorem perm_back {α β : Type} {f : α → β} {vs us : List β} (p : vs.Perm us) : ∀ {L : List α}, us = L.map f → ∃ L1 : List α, L1.Perm L ∧ vs = L1.map f := by
  induction p with
  | nil =>
    intro L e
    exact ⟨L, .refl _, e⟩
  | cons x _ ih =>
    intro L e
    cases L with
    | nil => cases e
    | cons y L =>
      rw [List.map_cons] at e
      injection e with e1 e2
      obtain ⟨L1, p1, e3⟩ := ih e2
      exact ⟨y :: L1, p1.cons y, by rw [List.map_cons, e1, e3]⟩
  | swap x y l =>
    intro L e
    match L, e with
    | a :: b :: L, e =>
      rw [List.map_cons, List.map_cons] at e
      injection e with e1 e2
      injection e2 with e2 e3
      exact ⟨b :: a :: L, .swap a b L, by rw [List.map_cons, List.map_cons, e1, e2, e3]⟩
  | trans _ _ ih1 ih2 =>
    intro L e
    obtain ⟨L2, p2, e2⟩ := ih2 e
    obtain ⟨L1, p1, e1⟩ := ih1 e2
    exact ⟨L1, p1.trans p2, e1⟩
abbrev tvP (L : List (Addr × List Int)) : List (V × PyData) := L.map fun q => (V.ref q.1, tupZ q.2)
/-- sorted(set) -/
def rSrtS (K : Fg) (P : Program) (w : World) : List V → Hp → VK → Prop := fun vs H Q => ∃ (a : Addr) (L : List (Addr × List Int)), vs = [V.ref a] ∧ H a = some (SetTO P w a L) ∧ (∀ p ∈ L, SqT K H p.1 (p.2.map V.int)) ∧
  (∀ L1 : List (Addr × List Int), L1.Perm L → (L1.map (·.2)).Nodup → L1.length < 64 → SrtOk ((tvP L1).map (·.2)) ∧ ∀ l, H l = none → Q (.ref l) (upd H l (.lst ((srtP (tvP L1)).map (·.1)))))
theorem dp_ints {K : Fg} {H : Hp} : ∀ ns : List Int, DpAll K H (ns.map V.int) (ns.map PyData.int)
  | [] => .nil
  | n :: ns => .cons (.int n) (dp_ints ns)
theorem vals_tv : ∀ L : List (Addr × List Int), Vals ((tvP L).map (·.1)) (L.map fun q => Value.ref q.1)
  | [] => .nil
  | q :: L => .cons rfl (vals_tv L)
theorem cr_srtS {X : Cx} (hc : X.calm = true) (hu : X.A.units + 64 < cLine) : CallR X (.builtin "sorted") (rSrtS X.K X.prog X.w) := by
  intro pins s σ H vs us Q I r h
  obtain ⟨a, L, rfl, ha, hk, q⟩ := h
  have R0 : SetT0 X.prog X.w s.heap a L := (I.hok a _ ha).1
  obtain ⟨es, ep, t, R⟩ := R0.full fun p hp => I.isT (hk p hp)
  rw [Vals.ref1 r]
  obtain ⟨o, ho, hex, hd⟩ := R.ob
  have hfew := R.few
  have hsz := R.size
  refine PySem.Calls.call_function_entry kind_sorted plain_sorted entry_sorted (args_sorted1 _) ?_
  unfold Builtin.«sorted»
  refine wpAny_bind (m := checkCount "sorted" 1 1 _) (wpAny_pure ?_)
  refine wpAny_bind (collect_set (A := X.A.in1) (I.ok.hd hc) ⟨o, ho, hex.1, hd⟩ R.fits (by unfold scanBound; omega) R.tab.ris R.led fun s1 vs k1 hz g1 o1 pm => ?_)
  have hes : es.toList.map (·.2) = L.map fun q => Value.ref q.1 := by
    rw [R.rows]
    show List.map _ (List.map _ L) = _
    rw [List.map_map]
    rfl
  obtain ⟨L1, p1, rfl⟩ := perm_back pm hes
  have nd1 : (L1.map (·.2)).Nodup := (p1.map (·.2)).nodup_iff.mpr R.nd
  have l1 : L1.length < 64 := by rw [p1.length_eq]; exact hfew
  obtain ⟨⟨ok1, ok2, ok3⟩, q⟩ := q L1 p1 nd1 l1
  have hL : (tvP L1).length ≤ sizeLine := by rw [List.length_map, sizeLine_eq]; omega
  have hp : ∀ p ∈ tvP L1, Dp X.K H p.1 p.2 := fun p hp => by
    obtain ⟨x, hx, rfl⟩ := List.mem_map.mp hp
    exact .tup (hk x (p1.mem_iff.mp hx)) (dp_ints x.2)
  have ev := vals_each (vals_tv L1)
  have hla : (L1.map fun q => Value.ref q.1).length = (tvP L1).length := by rw [List.length_map, List.length_map]
  refine wpAny_bind (wpAny_newList ?_ (by rw [hla]; exact hL))
  have hoL : (s1.heap.push { cls := .type "list", data := .seq (L1.map fun q => Value.ref q.1).toArray }).get? s1.heap.objs.size = some (seqObj "list" (L1.map fun q => Value.ref q.1).toArray 0) := Heap.get?_push_size _ rfl
  have kp : ∀ b o, s.heap.get? b = some o → (s1.heap.push { cls := .type "list", data := .seq (L1.map fun q => Value.ref q.1).toArray }).get? b = some o := fun b o e => Heap.get?_push_of_some _ (k1 b o e)
  have er : PySem.W.EachIs (fun u p => ∃ as, Reads (s1.heap.push { cls := .type "list", data := .seq (L1.map fun q => Value.ref q.1).toArray }) u p.2 as ∧ s1.heap.objs.size ∉ as) (L1.map fun q => Value.ref q.1) (tvP L1) := (each_reads I hp ev).mono fun u p ⟨as, r⟩ => ⟨as, PyProof.Rows.Reads.keeps kp r, fun z => by
    obtain ⟨o, e⟩ := PyProof.On.reads_mem_get r _ z
    exact absurd (Heap.lt_size (k1 _ _ e)) (Nat.lt_irrefl _)⟩
  refine wpAny_bind (wpAny_holding (PySem.W.list_sort_data (A := X.A.in1) (enc := (·.2)) (s := { s1 with heap := s1.heap.push { cls := .type "list", data := .seq (L1.map fun q => Value.ref q.1).toArray } }) hoL ev er ok1 ok2 hL (fun p hp' => ?_) fun out ho' eo => ?_))
  · have := ok3 _ (List.mem_map.mpr ⟨p, hp', rfl⟩)
    have e : X.A.in1.units = X.A.units + 1 := rfl
    omega
  · obtain ⟨ep', he'⟩ := PyProof.Rows.sortedHeap_at (vs := L1.map fun q => Value.ref q.1) (out := out.toArray) hoL
    have hlen : (((tvP L1).mergeSort (PySem.W.dataLe false (·.2))).map (·.1)).length ≤ sizeLine := by rw [List.length_map, List.length_mergeSort]; exact hL
    have kk : ∀ b o, s.heap.get? b = some o → (sortedHeap (s1.heap.push { cls := .type "list", data := .seq (L1.map fun q => Value.ref q.1).toArray }) s1.heap.objs.size (L1.map fun q => Value.ref q.1) out.toArray).get? b = some o := fun b o e => by
      have hb := Heap.lt_size (k1 b o e)
      rw [PyProof.Rows.sortedHeap_old (Nat.ne_of_lt hb) (by rw [Heap.size_push]; exact Nat.lt_succ_of_lt hb)]
      exact Heap.get?_push_of_some _ (k1 b o e)
    have hn : H s1.heap.objs.size = none := I.hok.fresh hz
    refine wpAny_pure ⟨_, rfl, ?_⟩
    have J : Inv X pins σ (upd H s1.heap.objs.size (.lst ((srtP (tvP L1)).map (·.1)))) { s with heap := sortedHeap (s1.heap.push { cls := .type "list", data := .seq (L1.map fun q => Value.ref q.1).toArray }) s1.heap.objs.size (L1.map fun q => Value.ref q.1) out.toArray, gens := s1.gens, drawn := s1.drawn, toks := s1.toks } :=
      I.call (ch := []) (Un.laid kk hz hn) (I.hok.laid kk hz ⟨hlen, out, ep', each_vals eo, he'⟩) (by rw [g1]; exact I.bare) (fun _ z => nomatch z)
    have e : ({ s1 with heap := sortedHeap (s1.heap.push { cls := .type "list", data := .seq (L1.map fun q => Value.ref q.1).toArray }) s1.heap.objs.size (L1.map fun q => Value.ref q.1) out.toArray } : Shared) = { s with heap := sortedHeap (s1.heap.push { cls := .type "list", data := .seq (L1.map fun q => Value.ref q.1).toArray }) s1.heap.objs.size (L1.map fun q => Value.ref q.1) out.toArray, gens := s1.gens, drawn := s1.drawn, toks := s1.toks } := by
      cases s1
      cases s
      cases o1
      rfl
    exact ⟨.ref s1.heap.objs.size, _, by rw [← e] at J; exact J, rfl, q _ hn⟩
end U

end
section
/-! sorted(set(xs)), told to the readings. -/
namespace U.N
open PySem PyProof.Rows L2 Evl
section
variable {K : Fg} {cs : Cs} {W : WX} {G : Gam} {φ : PyData → Prop} {χ : Own → Prop} {ε : Xw → Prop} {te : TE} {P : Program} {w : World}
theorem dpa_ints_of {K : Fg} {M : Hp} : ∀ {ns : List Int} {us : List V}, DpAll K M us (ns.map PyData.int) → us = ns.map V.int
  | [], _, h => by cases h; rfl
  | n :: ns, _, h => by
    cases h with
    | cons a b =>
      cases a
      rw [List.map_cons, dpa_ints_of b]
theorem dpa_keys {K : Fg} {M : Hp} : ∀ {ls : List (List Int)} {us : List V}, DpAll K M us (ls.map tupZ) → ∃ ks : List (Addr × List Int), us = ks.map (fun p => V.ref p.1) ∧ ks.map (·.2) = ls ∧ ∀ p ∈ ks, SqT K M p.1 (p.2.map V.int)
  | [], _, h => by cases h; exact ⟨[], rfl, rfl, by simp⟩
  | n :: ls, _, h => by
    cases h with
    | cons a b =>
      obtain ⟨ks, h1, h2, h3⟩ := dpa_keys b
      cases a with
      | @tup t us _ g u =>
        have e := dpa_ints_of u
        subst e
        refine ⟨(t, n) :: ks, by rw [List.map_cons, h1], by rw [List.map_cons, h2], fun p hp => ?_⟩
        rcases List.mem_cons.mp hp with rfl | hp
        · exact g
        · exact h3 p hp
theorem ef_srtS (h : EW K cs W te G (fun x => ∃ ls : List (List Int), x = .list (ls.map tupZ) ∧ ls.length < 64 ∧ ∀ ks : List (List Int), ks.Nodup → (∀ k, k ∈ ks ↔ k ∈ ls) → SrtOk (ks.map tupZ) ∧ χ (ol (srtD (ks.map tupZ)))) ε) :
    EF K cs W (tCB (rSrtS K P w) (tCons (tCB (rSetOfT K P w) (tCons te tNil)) tNil)) G χ ε := fun Wd B ad H0 H σ S Q q x =>
  h Wd B ad H0 H σ S _ (fun y ⟨ls, e, lt, p⟩ v H1 S1 e1 d1 => by
    subst e
    cases d1 with
    | @lst a us _ g t =>
      obtain ⟨ks, k1, k2, k3⟩ := dpa_keys t
      subst k1
      have k4 : ∀ p ∈ ks, SqT K H1 p.1 (p.2.map V.int) := fun p hp => ex_t less_ex (k3 p hp)
      refine ⟨a, ks, rfl, ex_l less_ex g, k4, by rw [← k2, List.length_map] at lt; exact lt, fun A L hn hsub hcov => ?_⟩
      have ex : Ex H1 (upd H1 A (SetTO P w A L)) := fun b o h => by
        unfold upd
        rw [if_neg (fun e => by rw [e, hn] at h; cases h)]
        exact h
      have k5 : ∀ p ∈ L, SqT K (upd H1 A (SetTO P w A L)) p.1 (p.2.map V.int) := fun p hp => ex_t ex (k4 p (hsub p hp))
      refine ⟨A, L, rfl, by unfold upd; rw [if_pos rfl], k5, fun L1 p1 nd1 l1 => ?_⟩
      have mem : ∀ k, k ∈ L1.map (·.2) ↔ k ∈ ls := fun k => by
        rw [← k2]
        constructor
        · intro hk
          obtain ⟨p, hp, rfl⟩ := List.mem_map.mp hk
          exact List.mem_map.mpr ⟨p, hsub p (p1.mem_iff.mp hp), rfl⟩
        · intro hk
          obtain ⟨p, hp, rfl⟩ := List.mem_map.mp hk
          obtain ⟨p', hp', e⟩ := List.mem_map.mp (hcov p hp)
          rw [← e]
          exact List.mem_map.mpr ⟨p', p1.mem_iff.mpr hp', rfl⟩
      obtain ⟨ok, pc⟩ := p _ nd1 mem
      have em : (tvP L1).map (·.2) = (L1.map (·.2)).map tupZ := by rw [List.map_map, List.map_map]; rfl
      refine ⟨by rw [em]; exact ok, fun l hn2 => ?_⟩
      have d : DpAll K (less (upd H1 A (SetTO P w A L)) (Zs Wd B ad G)) ((srtP (tvP L1)).map (·.1)) (srtD ((tvP L1).map (·.2))) := srt_dpa fun p hp => by
        obtain ⟨x, hx, rfl⟩ := List.mem_map.mp hp
        exact .tup (ex_t (less_mono ex) (k3 x (hsub x (p1.mem_iff.mp hx)))) (dp_ints x.2)
      rw [em] at d
      exact q _ pc l _ _ (S1.ext ex) (e1.trans fun b o h _ => ex b o h) hn2 d) x
theorem ew_srtS (h : EW K cs W te G (fun x => ∃ ls : List (List Int), x = .list (ls.map tupZ) ∧ ls.length < 64 ∧ ∀ ks : List (List Int), ks.Nodup → (∀ k, k ∈ ks ↔ k ∈ ls) → SrtOk (ks.map tupZ) ∧ φ (.list (srtD (ks.map tupZ)))) ε) :
    EW K cs W (tCB (rSrtS K P w) (tCons (tCB (rSetOfT K P w) (tCons te tNil)) tNil)) G φ ε :=
  ew_ef (ef_srtS (ew_mono h fun x ⟨ls, e, lt, p⟩ => ⟨ls, e, lt, fun ks nd m => ⟨(p ks nd m).1, _, rfl, (p ks nd m).2⟩⟩))
end
end U.N

end
section
/-! sorted(set(xs)) as a term; xs.insert(0, y). -/
namespace U.N
open PySem PyProof.Rows L2 Evl
def tSrtSet (K : Fg) (te : TE) : TE := fun σ H Q => ∀ (P : Program) (w : World), tCB (rSrtS K P w) (tCons (tCB (rSetOfT K P w) (tCons te tNil)) tNil) σ H Q
theorem pe_srtSet {X : Cx} {e : Expr} {te : TE} (h : PE X e (tCB (rSrtS X.K X.prog X.w) (tCons (tCB (rSetOfT X.K X.prog X.w) (tCons te tNil)) tNil))) : PE X e (tSrtSet X.K te) := ⟨fun pins s σ H Q I p => h.run pins s σ H Q I (p X.prog X.w)⟩
def rIns : V → List V → Hp → VK → Prop := fun x vs H Q => ∃ (l : Addr) (xs : List V) (i : Int) (y : V), x = .ref l ∧ vs = [.int i, y] ∧ H l = some (.lst xs) ∧ xs.length < sizeLine ∧ 0 ≤ i ∧ i < 2 ^ 63 ∧ Q .non (upd H l (.lst (xs.take i.toNat ++ [y] ++ xs.drop i.toNat)))
theorem mt_ins {X : Cx} : MtR X "list.insert" rIns := mt_insert
section
variable {K : Fg} {cs : Cs} {W : WX} {G : Gam} {φ : PyData → Prop} {ε : Xw → Prop} {Φ : Out → Prop} {te : TE}
theorem ew_srtSet (h : EW K cs W te G (fun x => ∃ ls : List (List Int), x = .list (ls.map tupZ) ∧ ls.length < 64 ∧ ∀ ks : List (List Int), ks.Nodup → (∀ k, k ∈ ks ↔ k ∈ ls) → SrtOk (ks.map tupZ) ∧ φ (.list (srtD (ks.map tupZ)))) ε) : EW K cs W (tSrtSet K te) G φ ε :=
  fun Wd B ad H0 H σ S Q q x P w => ew_srtS h Wd B ad H0 H σ S Q q x
/-- xs.insert(0, y) -/
theorem sw_ins0 {i : Nat} {xs : List PyData} (hi : G[i]? = some (.ow (ol xs))) (hl : xs.length < 16000000) (h : EW K cs W te G (fun x => Φ (.nx (G.set i (.ow (ol (x :: xs)))))) (fun e => Φ (.ex e G))) : SW K cs W (tDrop (tBM K "list" rIns (tVar i) (tCons (tC (V.int 0)) (tCons te tNil)))) G Φ := fun Wd B ad H0 H σ D S q => by
  obtain ⟨o, g1, rfl, vs, g3, g4⟩ := S.at_ i _ hi
  have g3 : H (ad i) = some (.lst vs) := g3
  refine ⟨_, g1, Or.inl ⟨rfl, vs, sq_of g3⟩, h Wd B ad H0 H σ S _ (fun x p v H1 S1 e1 d1 => ?_) (post_xp q)⟩
  obtain ⟨_, _, _, us, g5, g6⟩ := S1.at_ i _ hi
  have g6 : DpAll K _ us xs := g6
  exact ⟨_, us, 0, v, rfl, rfl, g5, by rw [dpa_len g6]; exact Nat.lt_of_lt_of_le hl (by decide), by decide, by decide, q _ p ad _ σ (S1.chg (c' := ol (x :: xs)) hi (.cons d1 g6)) ((Xb.lz e1).trans (chg_ex hi))⟩
end
end U.N

end
namespace U.N
open PySem PyProof.Rows L2 Evl
local macro_rules | `(tactic| walk_at "sd") => `(tactic| first | with_reducible assumption | omega | rfl | decide | assumption | exact Gd.mono (by assumption) (by first | decide | omega) | (simp only [List.length_map, List.length_append, List.length_cons, List.length_nil]; omega) | (simp; done))
local macro_rules | `(tactic| walk_at "ca") => `(tactic| first
  | ((with_reducible apply c_pull); (case h0 => walk_at "sd"); (case h1 => walk_at "sd"); intro _ _ _)
  | ((with_reducible apply c_part); intro _ _)
  | ((with_reducible apply c_far); intro _ _)
  | ((with_reducible apply c_farPart); intro _ _)
  | ((with_reducible apply c_wholePart); intro _ _)
  | ((with_reducible apply c_entry); intro _ _)
  | ((with_reducible apply c_plus); (case hp => walk_at "sd"); (case hq => walk_at "sd"); (case hl => walk_at "sd"); intro _)
  | ((with_reducible apply c_minus); (case hp => walk_at "sd"); (case hq => walk_at "sd"); (case hl => walk_at "sd"); intro _)
  | ((with_reducible apply c_times); (case hp => walk_at "sd"); (case hq => walk_at "sd"); (case hl => walk_at "sd"); intro _)
  | ((with_reducible apply c_ladd); (case hp => walk_at "sd"); (case hq => walk_at "sd"); (case hl => walk_at "sd"); intro _)
  | ((with_reducible apply c_lsub); (case hp => walk_at "sd"); (case hq => walk_at "sd"); (case hl => walk_at "sd"); intro _)
  | ((with_reducible apply c_lmul); (case hp => walk_at "sd"); (case hq => walk_at "sd"); (case hl => walk_at "sd"); intro _)
  | ((with_reducible apply c_order); (case hp => walk_at "sd"); (case hq => walk_at "sd"); (case hl => walk_at "sd"))
  | ((with_reducible apply c_cmp); (case hp => walk_at "sd"); (case hq => walk_at "sd"); (case hl => walk_at "sd"))
  | ((with_reducible apply c_map); (case h1 => walk_at "sd"); (case h2 => walk_at "sd"); (case l1 => walk_at "sd"); (case l2 => walk_at "sd"); intro _ _)
  | ((with_reducible apply c_spot); (case h0 => walk_at "sd"); (case hl => walk_at "sd"); intro _ _ _)
  | ((with_reducible apply c_over); (case hp => walk_at "sd"); (case hq => walk_at "sd"); (case hl => walk_at "sd"); (case hne => walk_at "sd"); intro _))
local macro_rules | `(tactic| walk_at "s1") => `(tactic| first
  | ((with_reducible apply x_all); (case h => exact allB_map))
  | ((with_reducible apply x_any); (case h => exact anyB_map))
  | ((with_reducible apply x_sum); (case h => exact sumI_map))
  | ((with_reducible apply ew_glob); (case h => assumption))
  | ((with_reducible apply sw_app); (case hi => rfl); (case hl => walk_at "sd"))
  | ((with_reducible apply cw_elt); (case hm => walk_at "sd"))
  | ((with_reducible apply sw_clear); (case hi => rfl))
  | ((with_reducible apply x1_rng); (case hb => walk_at "sd"))
  | ((with_reducible apply x2_rng); (case hb => walk_at "sd"); (case hc => walk_at "sd"))
  | ((with_reducible apply ew_var); (case h => rfl))
  | ((with_reducible apply ew_ixO); (case hi => rfl))
  | ((with_reducible apply ew_lenO); (case hi => rfl))
  | ((with_reducible apply ew_tupO); (case hi => rfl))
  | ((with_reducible apply ew_listO); (case hi => rfl))
  | ((with_reducible apply ew_callB); (case hi => rfl))
  | ((with_reducible apply ew_callWB); (case hi => rfl))
  | ((with_reducible apply at0); (case h => rfl))
  | ((with_reducible apply at1); (case h => rfl))
  | ((with_reducible apply at2); (case h => rfl))
  | ((with_reducible apply xi_it); (case h => rfl))
  | ((with_reducible apply x1_it); (case h => rfl))
  | ((with_reducible apply ew_dxO); (case hi => rfl))
  | ((with_reducible apply ew_dxF); (case hi => rfl))
  | ((with_reducible apply ew_dgetO); (case hi => rfl))
  | ((with_reducible apply ew_dgetF); (case hi => rfl))
  | ((with_reducible apply iw_dct); (case hi => rfl))
  | ((with_reducible apply ew_inSO); (case hi => rfl))
  | ((with_reducible apply ew_indexO); (case hi => rfl))
  | with_reducible refine ew_int ?_
  | with_reducible refine ew_bl ?_
  | with_reducible refine ew_str ?_
  | with_reducible refine ew_non ?_
  | with_reducible refine ew_tup0 ?_
  | with_reducible refine ew_tup1 ?_
  | with_reducible refine ew_tup2 ?_
  | with_reducible refine ew_tup3 ?_
  | with_reducible refine ew_tup4 ?_
  | with_reducible refine ew_tup ?_
  | with_reducible refine ew_lst0 ?_
  | with_reducible refine ew_lst1 ?_
  | with_reducible refine ew_lst2 ?_
  | with_reducible refine ew_lst3 ?_
  | with_reducible refine ew_lst ?_
  | with_reducible refine ew_add ?_
  | with_reducible refine ew_sub ?_
  | with_reducible refine ew_mul ?_
  | with_reducible refine ew_div ?_
  | with_reducible refine ew_mod ?_
  | with_reducible refine ew_pow ?_
  | with_reducible refine ew_lt ?_
  | with_reducible refine ew_le ?_
  | with_reducible refine ew_gt ?_
  | with_reducible refine ew_ge ?_
  | with_reducible refine ew_neg ?_
  | with_reducible refine ew_eq ?_
  | with_reducible refine ew_ne ?_
  | with_reducible refine ew_eqD ?_
  | with_reducible refine ew_neD ?_
  | with_reducible refine ew_subB ?_
  | with_reducible refine ew_isNo ?_
  | with_reducible refine ew_noNo ?_
  | with_reducible refine ew_isBl ?_
  | with_reducible refine ew_notBl ?_
  | with_reducible refine ew_leLe ?_
  | with_reducible refine tw_test ?_
  | with_reducible refine tw_B ?_
  | with_reducible refine tw_yes ?_
  | with_reducible refine tw_not ?_
  | with_reducible refine tw_and ?_
  | with_reducible refine tw_or ?_
  | with_reducible refine ew_andV ?_
  | with_reducible refine ew_orV ?_
  | with_reducible refine ew_notV ?_
  | with_reducible refine ew_if ?_
  | with_reducible refine aw_nil ?_
  | with_reducible refine aw_cons ?_
  | with_reducible refine ew_cP ?_
  | with_reducible refine ew_cX ?_
  | with_reducible refine ew_c0 ?_
  | with_reducible refine ew_cW ?_
  | with_reducible refine ew_abs ?_
  | with_reducible refine ew_max ?_
  | with_reducible refine ew_min ?_
  | with_reducible refine ew_intB ?_
  | with_reducible refine ew_len ?_
  | with_reducible refine ew_list ?_
  | with_reducible refine ew_tuple ?_
  | with_reducible refine ew_all ?_
  | with_reducible refine ew_any ?_
  | with_reducible refine ew_sum ?_
  | with_reducible refine ew_isi ?_
  | with_reducible refine ew_isi2 ?_
  | with_reducible refine ow_none ?_
  | with_reducible refine ow_some ?_
  | with_reducible refine ew_slL ?_
  | with_reducible refine ew_slA ?_
  | with_reducible refine ew_catL ?_
  | with_reducible refine ew_catA ?_
  | with_reducible refine ew_inI ?_
  | with_reducible refine ew_lc ?_
  | with_reducible refine ew_lcN ?_
  | with_reducible refine cw_clause ?_
  | with_reducible refine ew_revL ?_
  | with_reducible refine ew_srt ?_
  | with_reducible refine ew_inS ?_
  | with_reducible refine ew_maxL ?_
  | with_reducible refine ew_minL ?_
  | with_reducible refine iw_list ?_
  | with_reducible refine iw_tup ?_
  | with_reducible refine iw_seq ?_
  | with_reducible refine iw_rng1 ?_
  | with_reducible refine iw_rng2 ?_
  | with_reducible refine iw_zipM ?_
  | with_reducible refine iw_enum ?_
  | with_reducible refine sq_nx ?_
  | with_reducible refine sq_rt ?_
  | with_reducible refine sq_rl ?_
  | with_reducible refine sq_bk ?_
  | with_reducible refine sq_ct ?_
  | with_reducible refine sq_ex ?_
  | with_reducible refine lp_nx ?_
  | with_reducible refine lp_ct ?_
  | with_reducible refine lp_bk ?_
  | with_reducible refine lp_rt ?_
  | with_reducible refine lp_ex ?_
  | with_reducible refine sw_next ?_
  | with_reducible refine sw_brk ?_
  | with_reducible refine sw_cont ?_
  | with_reducible refine sw_if ?_
  | with_reducible refine sw_par ?_
  | with_reducible refine sw_ret ?_
  | with_reducible refine sw_retN ?_
  | with_reducible refine sw_dropC ?_
  | with_reducible refine sw_dropX ?_
  | with_reducible refine sw_for ?_
  | with_reducible refine sw_try ?_
  | with_reducible refine gsc_nil ?_
  | with_reducible refine gsc_cons ?_
  | with_reducible refine gsw_nil ?_
  | with_reducible refine gsw_cons ?_
  | with_reducible refine rE_ok ?_
  | with_reducible refine rE_fl ?_
  | with_reducible refine rE_er ?_
  | with_reducible refine rF_fl ?_
  | with_reducible refine atm1 ?_
  | with_reducible refine xi_int ?_
  | with_reducible refine xi_bool ?_
  | with_reducible refine xi_str ?_
  | with_reducible refine xi_tup ?_
  | with_reducible refine xi_list ?_
  | with_reducible refine xi_itL ?_
  | with_reducible refine xi_itT ?_
  | with_reducible refine x1_int ?_
  | with_reducible refine x1_bool ?_
  | with_reducible refine x2_int ?_
  | with_reducible refine x2_any ?_
  | with_reducible refine x1_itL ?_
  | with_reducible refine x1_itT ?_
  | with_reducible refine sc_int ?_
  | with_reducible refine sc_str ?_
  | with_reducible refine sc_bool ?_
  | with_reducible refine x_ol ?_
  | with_reducible refine atm1M ?_
  | with_reducible refine x_nx ?_
  | with_reducible refine ew_ix ?_
  | with_reducible refine ew_callNW ?_
  | with_reducible refine ew_callN ?_
  | with_reducible refine ew_callN0 ?_
  | with_reducible refine gw_name ?_
  | ((with_reducible refine gc_name ?wa ?_); (case wa => simp))
  | ((with_reducible refine gc_tup ?wa ?_); (case wa => rfl))
  | ((with_reducible refine gw_tup ?wa ?_); (case wa => rfl))
  | with_reducible refine cnd_t ?_
  | with_reducible refine cnd_f ?_
  | with_reducible refine cnd_nt ?_
  | with_reducible refine cnd_nf ?_
  | walk_at "ca"
  | ((with_reducible apply zip_f); (case hx => rfl); (case hy => rfl))
  | ((with_reducible apply zip_t); (case hx => rfl); (case hy => rfl); (case hl => walk_at "sd"))
  | with_reducible refine sw_asg ?_
  | ((with_reducible apply sw_dset); (case hi => rfl))
  | ((with_reducible apply sw_setI); (case hi => rfl))
  | with_reducible refine sw_asgT ?_
  | refine gsw_cons ?_
  | refine gsc_cons ?_
  | refine gsw_nil ?_
  | refine gsc_nil ?_
  | with_reducible exact trivial)
local macro_rules | `(tactic| walk_at "w1") => `(tactic| first | walk_at "s1" | with_reducible refine sw_seqA ?_ | with_reducible refine sw_seqD ?_ | with_reducible refine sw_seqF ?_ | with_reducible refine sw_seqP ?_ | with_reducible refine sw_seqG ?_ | with_reducible refine sw_seqW ?_)
local macro_rules | `(tactic| walk_at "s") => `(tactic| repeat walk_at "s1")
local macro_rules | `(tactic| walk_at "ef") => `(tactic| first
  | with_reducible refine ef_lst0 ?_
  | with_reducible refine ef_lst1 ?_
  | with_reducible refine ef_lst2 ?_
  | with_reducible refine ef_lst3 ?_
  | with_reducible refine ef_lst ?_
  | with_reducible refine ef_lc ?_
  | with_reducible refine ef_lcN ?_
  | with_reducible refine ef_list ?_
  | with_reducible refine ef_slL ?_
  | with_reducible refine ef_catL ?_
  | with_reducible refine ef_c0 ?_
  | with_reducible refine ef_cW ?_
  | with_reducible refine ef_if ?_
  | with_reducible refine ef_dct0 ?_
  | with_reducible refine ef_dc ?_
  | with_reducible refine ef_srt ?_
  | with_reducible refine ef_revL ?_)
local macro_rules | `(tactic| walk_at "wi") => `(tactic| repeat (first | walk_at "w1" | with_reducible refine sw_seq ?_))
local macro_rules | `(tactic| walk_at "w") => `(tactic| repeat walk_at "w1")
section
open PySem PyProof.Rows L2 Evl

section
variable {K : Fg} {cs : Cs} {gs : Gs} {φ : PyData → Prop} {A : Rs → Prop} {ε : Xw → Prop} {w : World}
/-! ### spots in order -/
def P_cb : Pr := fun ds A => ∃ (x : PyData) (a N : Nat) (ss : List Spot), ds = [x] ∧ itemsOf x = some (ss.map frs) ∧ CbB a N ss ∧ a ≤ 4000 ∧ N ≤ 90000 ∧ A (.ok (.int (cb 1 ss)))
def t_common_below (K : Fg) : TS := (tSeq (tAsg (tC (V.int 1)) (gName 1))
  (tSeq (tFor (iSeq K (tVar 0)) (gName 2) (tFor (iTup K (tVar 2)) (gTup K 2 (gCons (gName 3) (gCons (gName 4) gNil))) (tAsg (tOp rDivI (tOp rMulI (tVar 1) (tVar 4)) (tCall (spP K P_gcd) [] E0 (tCons (tVar 1) (tCons (tVar 4) tNil)))) (gName 1))))
  (tRet (tVar 1))))
-- slots of common_below: 0 spots, 1 found, 2 spot, 3 above, 4 below
theorem ln_common_below : ∀ ds A, P_cb ds A → ds.length = 1 := fun ds A h => by obtain ⟨_, _, _, _, rfl, _⟩ := h; rfl
theorem cb_snoc {acc : Int} {ss : List Spot} {s : Spot} : cb acc (ss ++ [s]) = cbS (cb acc ss) s := by unfold cb; rw [List.foldl_append]; rfl
theorem cbS_snoc {acc : Int} {s : Spot} {f : Fr} : cbS acc (s ++ [f]) = lcI (cbS acc s) f.2 := by unfold cbS; rw [List.foldl_append]; rfl
theorem Bd.g2 {n : Nat} {a b : Int} (hb : Bd n b) (h0 : b ≠ 0) : Bd n (gI a b) := by
  have h1 : Nat.gcd a.natAbs b.natAbs ≤ b.natAbs := Nat.gcd_le_right _ (by omega)
  have h2 : gN a b ≤ b.natAbs := Nat.max_le.mpr ⟨h1, by omega⟩
  unfold Bd gI at *
  rw [Int.natAbs_natCast]
  omega
theorem c_gcd {a b : Int} (h : φ (.int (gI a b))) : ∃ r, P_gcd [.int a, .int b] r ∧ φ r := ⟨_, ⟨a, b, rfl, rfl⟩, h⟩
theorem rd_common_below {ds A} (h : P_cb ds A) : SW K cs W0 (t_common_below K) (frame 5 ds) (rts0 A) := qt_of (by simp (disch := with_unfolding_all
  obtain ⟨x, a, N, ss, rfl, hx, hs, ha, hN, h⟩ := h
  obtain ⟨c0, c1, c2, c3⟩ := hs.cm
  unfold t_common_below
  walk_at "w"
  refine ⟨_, hx, forP (fun pre G => ∃ e2 e3 e4, G = [.d x, .d (.int (cb 1 pre)), e2, e3, e4]) ⟨_, _, _, rfl⟩ ?_ ?_⟩
  · rintro pre s post G1 e ⟨e2, e3, e4, rfl⟩
    have ms : s ∈ ss := by rw [e]; simp
    have mp : ∀ t ∈ pre, t ∈ ss := fun t ht => by rw [e]; simp [ht]
    obtain ⟨p1, p2⟩ := cb_dvd (acc := 1) (fun t ht => hs.gd t (mp t ht)) (by decide) (Int.one_dvd _) (fun t ht => c2 t (mp t ht))
    walk_at "w"
    refine forP (fun pr G => ∃ e3 e4, G = [.d x, .d (.int (cbS (cb 1 pre) pr)), .d (frs s), e3, e4]) ⟨_, _, rfl⟩ ?_ ?_
    · rintro pr f po G2 e' ⟨e3, e4, rfl⟩
      have mf : f ∈ s := by rw [e']; simp
      have mp' : ∀ t ∈ pr, t ∈ s := fun t ht => by rw [e']; simp [ht]
      have gf := hs.gd s ms f mf
      obtain ⟨q1, q2⟩ := cbS_dvd (fun t ht => hs.gd s ms t (mp' t ht)) p1 p2 (fun t ht => c2 s ms t (mp' t ht))
      have bt := bd_dvd c1 q2 c3
      walk_at "w"
      refine ⟨bt.cm gf.sz.2 (by omega), ?_⟩
      walk_at "w"
      refine c_gcd ?_
      walk_at "w"
      refine ⟨Bd.dv (n := 4000) (Int.ne_of_gt (gI_pos _ _)) (Bd.g2 (gf.sz.2.mono ha) gf.ne) (by decide), ?_⟩
      walk_at "w"
      exact ⟨_, _, by rw [cbS_snoc]; rfl⟩
    · rintro G2 ⟨e3, e4, rfl⟩
      exact ⟨_, _, _, by rw [cb_snoc]⟩
  · rintro G1 ⟨e2, e3, e4, rfl⟩
    walk_at "w"
    exact h
  ) only [↓qt_eq])
def P_wr : Pr := fun ds A => ∃ (a : Nat) (s : Spot) (c : Int), ds = [frs s, .int c] ∧ Gds a s ∧ a ≤ 4000 ∧ s.length ≤ 1000 ∧ Bd 100000 c ∧ A (.ok (.list (inz (ky c s))))
def t_whole_row (K : Fg) : TS := (tRet (tLc (iTup K (tVar 0)) (gTup K 2 (gCons (gName 2) (gCons (gName 3) gNil))) tYes (tOp rMulI (tVar 2) (tOp rDivI (tVar 1) (tVar 3))) [2, 3]))
-- slots of whole_row: 0 spot, 1 common, 2 above, 3 below
theorem ln_whole_row : ∀ ds A, P_wr ds A → ds.length = 2 := fun ds A h => by obtain ⟨_, _, _, rfl, _⟩ := h; rfl
theorem rd_whole_row {ds A} (h : P_wr ds A) : SW K cs W0 (t_whole_row K) (frame 4 ds) (rts0 A) := qt_of (by simp (disch := with_unfolding_all
  obtain ⟨a, s, c, rfl, hs, ha, hl, hc, h⟩ := h
  unfold t_whole_row
  walk_at "w"
  refine lcM (f := fr) (fun f => .int (kyF c f)) (by omega) (unk2 rfl rfl) (fun f mf => ?_) ?_
  · have gf := hs f mf
    walk_at "w"
    refine ⟨Bd.dv (n := 4000) gf.ne (gf.sz.2.mono ha) (by decide), ?_⟩
    walk_at "w"
    exact ⟨(gf.sz.1.mono ha).cm (hc.fdiv _) (by decide), rfl⟩
  · refine ⟨_, rfl, ?_⟩
    show A _
    unfold inz ky at h
    rw [List.map_map] at h
    exact h
  ) only [↓qt_eq])
def P_rising : Pr := fun ds A => ∃ (x : PyData) (a N : Nat) (ss ys : List Spot), ds = [x] ∧ itemsOf x = some (ss.map frs) ∧ CbB a N ss ∧ a ≤ 4000 ∧ N ≤ 90000 ∧ (∀ s ∈ ss, s ≠ []) ∧ ss.length ≤ 2000000 ∧ (∀ s ∈ ss, s.length ≤ 1000) ∧ Rising ss ys ∧ A (.fl (ol (ys.map frs)))
def t_rising (K : Fg) (w : World) : TS := (tSeq (tAsg (tCall (spW0 K P_cb) [] E0 (tCons (tVar 0) tNil)) (gName 1))
  (tSeq (tAsg (tDcd K w (iSeq K (tVar 0)) (gName 3) tYes (tCB (rTupQ K) (tCons (tCall (spW0 K P_wr) [] E0 (tCons (tVar 3) (tCons (tVar 1) tNil))) tNil)) (tVar 3) [3]) (gName 2))
  (tRet (tLc (iList K (tCB (rSrtD K w) (tCons (tVar 2) tNil))) (gName 4) tYes (tOp (rDx K w) (tVar 2) (tVar 4)) [4]))))
-- slots of rising: 0 spots, 1 common, 2 by_worth, 3 spot, 4 key
theorem ln_rising : ∀ ds A, P_rising ds A → ds.length = 1 := fun ds A h => by obtain ⟨_, _, _, _, _, rfl, _⟩ := h; rfl
/-! what a dict by a comprehension holds -/
section
variable {κ β γ : Type} [DecidableEq κ]
def amap (m : List (κ × β)) (xs : List γ) (k : γ → κ) (v : γ → β) : List (κ × β) := xs.foldl (fun m x => aput m (k x) (v x)) m
theorem putAll_enc {ek : κ → List PyData} {ev : β → PyData} (inj : ∀ a b, kk (ek a) = kk (ek b) → a = b) (k : γ → κ) (v : γ → β) (xs : List γ) : putAll (xs.map fun x => some (ek (k x), ev (v x))) = encM ek ev (amap [] xs k v) := by
  have key : ∀ (xs : List γ) (m : List (κ × β)), (xs.map fun x => some (ek (k x), ev (v x))).foldl putO (encM ek ev m) = encM ek ev (amap m xs k v) := fun xs => by
    induction xs with
    | nil => intro m; rfl
    | cons x xs ih =>
      intro m
      rw [List.map_cons, List.foldl_cons]
      show (xs.map fun x => some (ek (k x), ev (v x))).foldl putO (putK (encM ek ev m) (ek (k x)) (ev (v x))) = _
      rw [put_enc inj, ih]
      rfl
  exact key xs []
theorem amap_get (k : γ → κ) (v : γ → β) (j : κ) : ∀ (xs : List γ) (m : List (κ × β)), (∃ x ∈ xs, k x = j ∧ aget (amap m xs k v) j = some (v x)) ∨ ((∀ x ∈ xs, k x ≠ j) ∧ aget (amap m xs k v) j = aget m j)
  | [], m => .inr ⟨(fun _ h => nomatch h), rfl⟩
  | x :: xs, m => by
    rcases amap_get k v j xs (aput m (k x) (v x)) with ⟨y, h1, h2, h3⟩ | ⟨h1, h2⟩
    · exact .inl ⟨y, List.mem_cons_of_mem _ h1, h2, h3⟩
    · by_cases e : k x = j
      · refine .inl ⟨x, List.mem_cons_self .., e, ?_⟩
        show aget (amap (aput m (k x) (v x)) xs k v) j = _
        rw [h2, aget_aput, if_pos e.symm]
      · refine .inr ⟨fun y hy => ?_, ?_⟩
        · rcases List.mem_cons.mp hy with rfl | hy
          · exact e
          · exact h1 y hy
        · show aget (amap (aput m (k x) (v x)) xs k v) j = _
          rw [h2, aget_aput, if_neg fun z => e z.symm]
theorem amap_keys (k : γ → κ) (v : γ → β) : ∀ (xs : List γ) (m : List (κ × β)), (m.map (·.1)).Nodup → ((amap m xs k v).map (·.1)).Nodup
  | [], m, h => h
  | x :: xs, m, h => amap_keys k v xs _ (aput_keys h)
theorem amap_mem {k : γ → κ} {v : γ → β} {xs : List γ} {j : κ} : j ∈ (amap [] xs k v).map (·.1) ↔ ∃ x ∈ xs, k x = j := qt_of (by simp (disch := with_unfolding_all
  rcases amap_get k v j xs [] with ⟨y, h1, h2, h3⟩ | ⟨h1, h2⟩
  · exact ⟨fun _ => ⟨y, h1, h2⟩, fun _ => List.mem_map.mpr ⟨_, aget_mem h3, rfl⟩⟩
  · constructor
    · intro h
      obtain ⟨p, hp, rfl⟩ := List.mem_map.mp h
      exact absurd rfl (aget_none.mp h2 p hp)
    · rintro ⟨x, hx, e⟩
      exact absurd e (h1 x hx)
  ) only [↓qt_eq])
end
/-- the spots by their keys, in order -/
def risL (c : Int) (ss : List Spot) : List Spot := (srtI ((amap [] ss (ky c) id).map (·.1))).map fun j => (aget (amap [] ss (ky c) id) j).getD []
theorem ris_get {c : Int} {ss : List Spot} {j : List Int} (hj : j ∈ srtI ((amap [] ss (ky c) id).map (·.1))) : ∃ s ∈ ss, ky c s = j ∧ aget (amap [] ss (ky c) id) j = some s := by
  obtain ⟨x, hx, e⟩ := amap_mem.mp (srtI_mem.mp hj)
  rcases amap_get (ky c) id j ss [] with h | ⟨h1, h2⟩
  · exact h
  · exact absurd e (h1 x hx)
theorem risL_rising {c : Int} {ss : List Spot} (hc : 0 < c) (hs : ∀ s ∈ ss, SpC c s) : Rising ss (risL c ss) := by
  have hn : ((amap [] ss (ky c) id).map (·.1)).Nodup := amap_keys _ _ _ _ List.nodup_nil
  refine ⟨?_, fun s => ?_⟩
  · unfold risL
    rw [List.pairwise_map]
    refine (srtI_lt hn).imp_of_mem fun {a b} ha hb h => ?_
    obtain ⟨s, ms, e1, e2⟩ := ris_get ha
    obtain ⟨t, mt, e3, e4⟩ := ris_get hb
    rw [e2, e4]
    rw [← e1, ← e3] at h
    exact (ky_slt hc (hs s ms) (hs t mt)).mp h
  · unfold risL
    constructor
    · intro h
      obtain ⟨j, hj, rfl⟩ := List.mem_map.mp h
      obtain ⟨t, mt, e3, e4⟩ := ris_get hj
      rw [e4]; exact mt
    · intro h
      have hj : ky c s ∈ srtI ((amap [] ss (ky c) id).map (·.1)) := srtI_mem.mpr (amap_mem.mpr ⟨s, h, rfl⟩)
      refine List.mem_map.mpr ⟨ky c s, hj, ?_⟩
      obtain ⟨t, mt, e3, e4⟩ := ris_get hj
      rw [e4]
      exact ky_inj hc (hs t mt) (hs s h) e3
theorem c_wr {a : Nat} {s : Spot} {c : Int} (hs : Gds a s) (ha : a ≤ 4000) (hl : s.length ≤ 1000) (hc : Bd 100000 c) (h : φ (.list (inz (ky c s)))) : P_wr [frs s, .int c] (rE φ ε) := ⟨a, s, c, rfl, hs, ha, hl, hc, h⟩
theorem rd_rising {ds A} (h : P_rising ds A) : SW K cs W0 (t_rising K w) (frame 5 ds) (rts0 A) := qt_of (by simp (disch := with_unfolding_all
  obtain ⟨x, a, N, ss, ys, rfl, hx, hs, ha, hN, hne, hz, hr0, hr, h⟩ := h
  obtain ⟨c1, c2, c3⟩ := hs.spc
  unfold t_rising
  walk_at "w"
  refine ⟨x, a, N, ss, rfl, hx, hs, ha, hN, ?_⟩
  show SW _ _ _ _ _ _
  refine sw_seq (sw_asgF ?_)
  walk_at "ef"
  walk_at "w"
  refine ⟨_, hx, dcM (f := frs) (fun s => inz (ky (cb 1 ss) s)) (fun s => frs s) (by omega) (unk1 rfl) (fun s ms => ?_) fun ep => ?_⟩
  · walk_at "w"
    refine c_wr (hs.gd s ms) ha (hr0 s ms) (c3.mono (by omega)) ?_
    walk_at "w"
    exact ⟨rfl, kg_ints _, rfl⟩
  · show SW _ _ _ _ _ _
    have ee : putAll (ss.map fun x => some (inz (ky (cb 1 ss) x), frs x)) = encM inz frs (amap [] ss (ky (cb 1 ss)) id) := putAll_enc (ek := inz) (ev := frs) kk_inj (ky (cb 1 ss)) id ss
    have el := putAll_len (ss.map fun x => some (inz (ky (cb 1 ss) x), frs x))
    rw [ee, List.length_map] at el
    rw [ee]
    have ek : (encM inz frs (amap [] ss (ky (cb 1 ss)) id)).map (fun q => PyData.tuple q.1) = ((amap [] ss (ky (cb 1 ss)) id).map (·.1)).map fun j => PyData.tuple (inz j) := by
      unfold encM
      rw [List.map_map, List.map_map]
      rfl
    have en : ∀ j ∈ (amap [] ss (ky (cb 1 ss)) id).map (·.1), j ≠ [] := fun j hj => by
      obtain ⟨s, ms, rfl⟩ := amap_mem.mp hj
      exact fun z => hne s ms (List.map_eq_nil_iff.mp z)
    have hlen : (srtI ((amap [] ss (ky (cb 1 ss)) id).map (·.1))).length ≤ 16000000 := by
      unfold srtI
      unfold encM at el
      rw [List.length_map] at el
      rw [List.length_mergeSort, List.length_map]
      omega
    refine sw_retF (ef_lc (iw_list (ew_srtD (.inl rfl) (by rw [ek]; exact ok_tups en) ⟨_, rfl, ?_⟩)))
    rw [ek, srt_tups]
    refine lcM (fun j => frs ((aget (amap [] ss (ky (cb 1 ss)) id) j).getD [])) hlen (unk1 rfl) (fun j mj => ?_) ?_
    · obtain ⟨t, mt, e3, e4⟩ := ris_get mj
      walk_at "w"
      refine ⟨_, frs t, rfl, kg_ints _, ?_, ?_⟩
      · rw [look_enc (ek := inz) kk_inj, e4]; rfl
      · rw [e4]; rfl
    · have e : ys = risL (cb 1 ss) ss := rising_uniq hr (risL_rising c1 c2)
      rw [e] at h
      unfold risL at h
      rw [List.map_map] at h
      exact h
  ) only [↓qt_eq])
end


end
section
open PySem PyProof.Rows L2 Evl

section
variable {K : Fg} {cs : Cs} {gs : Gs} {φ : PyData → Prop} {A : Rs → Prop} {ε : Xw → Prop} {w : World}
/-! ### the law's own order -/
-- slots of _law_below: 0 _law_spots_here, 1 _law_found, 2 _law_spot_here, 3 _law_one
-- slots of _law_key: 0 _law_spots_here, 1 _law_below_here, 2 _law_found, 3 _law_spot_here, 4 _law_one
-- slots of _law_rising: 0 _law_spots_here, 1 _law_below_here, 2 _law_keys, 3 _law_found, 4 _law_key_here, 5 _law_spot_here, 6 _law_one
theorem sh_frs {s : Spot} (h : s.length ≤ 1000) : SeqAt.shaped (frs s) = true := shaped_ok (n := 2) (can_frs s) (okD_frs (by omega)) (by decide)
theorem sh_frss {fs : List Spot} (hl : fs.length ≤ 100000) (h : ∀ s ∈ fs, s.length ≤ 1000) : SeqAt.shaped (.list (fs.map frs)) = true := shaped_ok (n := 3) (can_list fun x hx => by
    obtain ⟨s, _, rfl⟩ := List.mem_map.mp hx
    exact can_frs s) (okD_list (by rw [List.length_map]; omega) fun x hx => by
    obtain ⟨s, ms, rfl⟩ := List.mem_map.mp hx
    exact okD_frs (n := 0) (by have := h s ms; omega)) (by decide)
end


end
section
open PySem PyProof.Rows L2 Evl U.Hull

section
variable {K : Fg} {cs : Cs} {gs : Gs} {φ : PyData → Prop} {A : Rs → Prop} {ε : Xw → Prop} {w : World}
/-! ### corners round -/
-- slots of hull_side: 0 spots, 1 found, 2 spot
end


end
section
open PySem PyProof.Rows L2 Evl U.Hull

section
variable {K : Fg} {cs : Cs} {gs : Gs} {φ : PyData → Prop} {A : Rs → Prop} {ε : Xw → Prop} {w : World}
/-- spots of one room, of bounded numbers and bounded many -/
structure SpR (a r : Nat) (ss : List Spot) : Prop where
  hr : r = 1 ∨ r = 2
  gd : ∀ s ∈ ss, Gds a s ∧ s.length = r
  ne : ss ≠ []
  ha : a ≤ 900
  hl : ss.length ≤ 10000
  hb : ∃ N, N ≤ 6900 ∧ CbB a N ss
-- slots of corners_round: 0 spots, 1 row, 2 below, 3 above
end


end
section
open PySem PyProof.Rows L2 Evl U.Hull

section
variable {K : Fg} {cs : Cs} {gs : Gs} {φ : PyData → Prop} {A : Rs → Prop} {ε : Xw → Prop} {w : World}
/-! ### the law's own body -/
instance (h r q : Pt) : Decidable (Btw h r q) := by unfold Btw; exact inferInstance
-- slots of _law_between: 0 _law_one, 1 _law_two, 2 _law_spot_here, 3 _law_at
/-! what follows a corner -/
instance (P : List Pt) (h q : Pt) : Decidable (Nx P h q) := by unfold Nx; exact inferInstance
-- slots of _law_next: 0 _law_row, 1 _law_here, 2 _law_spot_here, 3 _law_one
theorem eqv_frs' (s t : Spot) : PyData.eqv (frs s) (frs t) = decide (s = t) := eqv_frs s t
end


end
section
open PySem PyProof.Rows L2 Evl U.Hull

section
variable {K : Fg} {cs : Cs} {gs : Gs} {φ : PyData → Prop} {A : Rs → Prop} {ε : Xw → Prop} {w : World}
-- slots of _law_body: 0 _law_spots_here, 1 _law_row, 2 _law_found, 3 _law_step, 4 _law_spot_here
end


end
section
open PySem PyProof.Rows L2 Evl U.Hull

section
variable {K : Fg} {cs : Cs} {gs : Gs} {φ : PyData → Prop} {A : Rs → Prop} {ε : Xw → Prop} {w : World}
/-! ### drawn rooms and spots -/
-- slots of _law_room: 0 _law_bag_here
/-- spots of a room -/
def Sps (a r : Nat) (ss : List Spot) : Prop := ∀ s ∈ ss, Gds a s ∧ s.length = r
theorem Sps.mono {a b r : Nat} {ss : List Spot} (h : Sps a r ss) (l : a ≤ b) : Sps b r ss := fun s hs => ⟨(h s hs).1.mono l, (h s hs).2⟩
theorem Sps.snoc {a r : Nat} {ss : List Spot} {s : Spot} (h : Sps a r ss) (g : Gds a s) (l : s.length = r) : Sps a r (ss ++ [s]) := fun t ht => by
  rcases List.mem_append.mp ht with ht | ht
  · exact h t ht
  · rw [List.mem_singleton.mp ht]; exact ⟨g, l⟩
theorem along_gd {n m : Nat} {k : Fr} {ps qs : List Fr} (hk : Gd m k) (hp : Gds n ps) (hq : Gds n qs) : Gds (n + (m + (n + n + 1)) + 1) (alongF k ps qs) := fun x hx => by
  unfold alongF at hx
  obtain ⟨i, hi, rfl⟩ := List.getElem_of_mem hx
  simp at hi ⊢
  exact (hp _ (List.getElem_mem _)).add (hk.mul ((hq _ (List.getElem_mem _)).sub (hp _ (List.getElem_mem _))))
theorem along_len {k : Fr} {ps qs : List Fr} (h : ps.length = qs.length) : (alongF k ps qs).length = ps.length := by unfold alongF; rw [List.length_zipWith]; omega
theorem c_along {n m : Nat} {ps qs : List Fr} {k : Fr} (hp : Gds n ps) (hq : Gds n qs) (hk : Gd m k) (hl : ps.length = qs.length) (hn : ps.length ≤ 1000) (h1 : n ≤ 400) (h2 : m ≤ 400) (h : φ (frs (alongF k ps qs))) : ∃ r, P_along [frs ps, frs qs, fr k] r ∧ φ r := ⟨_, ⟨ps, qs, k, rfl, hl, hn, hp.mono h1, hq.mono h1, hk.mono h2, rfl⟩, h⟩
theorem atI_in {α : Type} {f : α → PyData} {xs : List α} {j : Int} (h0 : 0 ≤ j) (h1 : j < xs.length) : ∃ s ∈ xs, atI (xs.map f) j = some (f s) := by
  obtain ⟨k, rfl⟩ := Int.eq_ofNat_of_zero_le h0
  have hk : k < xs.length := by omega
  exact ⟨xs[k], List.getElem_mem _, atI_nat (by rw [List.getElem?_map, List.getElem?_eq_getElem hk]; rfl)⟩
theorem partOf_gd3 (s : Bag) : Gd 3 (partOf s) := qt_of (by simp (disch := with_unfolding_all
  obtain ⟨z1, z2⟩ := pullV_range s (n := 13) (by decide)
  obtain ⟨y1, y2⟩ := pullV_range (pullS s 13) (n := 4) (by decide)
  have hm := menu_mem (l := [1, 1, 2, 3]) y1 y2
  unfold partOf
  generalize menu _ _ = m at hm
  generalize pullV s 13 = y at *
  simp only [List.mem_cons, List.mem_singleton, List.not_mem_nil, or_false] at hm
  exact Gd.frac (by unfold Bd; omega) (by unfold Bd; omega) (by omega)
  ) only [↓qt_eq])
theorem c_spot3 {n : Int} (h0 : 0 ≤ n) (hl : n ≤ 1000) (h : ∀ ps : List Fr, Gds 3 ps → ps.length = n.toNat → φ (frs ps)) (s : Bag) (ok : s.ok) : ∃ r s', P_spot s [.int n] r s' ∧ s'.ok ∧ φ r := by
  refine ⟨_, _, ⟨n.toNat, by rw [Int.toNat_of_nonneg h0], by omega, rfl, rfl⟩, itB_ok partS_ok ok _, ?_⟩
  unfold spotOf
  rw [drawn_fr]
  exact h _ (drawFr_gd partOf_gd3 _ _) (drawFr_len _ _ _ _)
-- slots of _law_spots: 0 _law_bag_here, 1 _law_rank, 2 _law_limit, 3 _law_many, 4 _law_found, 5 _law_kind, 6 _law_one, 7 _law_two, 8 _law_at
-- slots of _law_wide_spots: 0 _law_bag_here, 1 _law_rank, 2 _law_limit, 3 _law_found, 4 _law_k, 5 _law_at
end


end
section
open PySem PyProof.Rows L2 Evl U.Hull

section
variable {K : Fg} {cs : Cs} {gs : Gs} {φ : PyData → Prop} {A : Rs → Prop} {ε : Xw → Prop} {w : World}
/-! ### sides, land -/
def nxt (bs : List Spot) (i : Nat) : Spot := (bs[(i + 1) % bs.length]?).getD []
def sidesS (bs : List Spot) : List (Spot × Spot) := if bs.length < 3 then (match bs with | [a, b] => [(a, b)] | _ => []) else (enL bs).map fun p => (p.2, nxt bs p.1)
-- slots of sides_of: 0 body, 1 at, 2 corner
-- slots of size_of: 0 body
-- slots of land_of: 0 body, 1 found, 2 x, 3 y, 4 right, 5 up
end


end
section
open PySem PyProof.Rows L2 Evl U.Hull

section
variable {K : Fg} {cs : Cs} {gs : Gs} {φ : PyData → Prop} {A : Rs → Prop} {ε : Xw → Prop} {w : World}
-- slots of _law_three_land: 0 _law_one, 1 _law_two, 2 _law_three, 3 _law_first, 4 _law_second, 5 _law_third
/-! what is needed of bodies -/
end


end
section
open PySem PyProof.Rows L2 Evl U.Hull

section
variable {K : Fg} {cs : Cs} {gs : Gs} {φ : PyData → Prop} {A : Rs → Prop} {ε : Xw → Prop} {w : World}
/-! ### bodies in order, faces -/
abbrev Body := List Spot
-- slots of in_order: 0 bodies, 1 common, 2 by_worth, 3 body, 4 key, 5 corner, 6 number
end


end
section
open PySem PyProof.Rows L2 Evl U.Hull

section
variable {K : Fg} {cs : Cs} {gs : Gs} {φ : PyData → Prop} {A : Rs → Prop} {ε : Xw → Prop} {w : World}
/-! ### == of data by a type -/
/-! ### keys with places, sorted -/
/-! ### the law's own order of bodies -/
-- slots of _law_in_order: 0 _law_bodies, 1 _law_limit, 2 _law_body_here, 3 _law_keys, 4 _law_found, 5 _law_key_here, 6 _law_at
end


end
section
open PySem PyProof.Rows L2 Evl U.Hull

section
variable {K : Fg} {cs : Cs} {gs : Gs} {φ : PyData → Prop} {A : Rs → Prop} {ε : Xw → Prop} {w : World}
/-! ### faces -/
-- slots of faces: 0 body, 1 found, 2 corner, 3 side
end


end
section
open PySem PyProof.Rows L2 Evl U.Hull

section
variable {K : Fg} {cs : Cs} {gs : Gs} {φ : PyData → Prop} {A : Rs → Prop} {ε : Xw → Prop} {w : World} {W : WX}
/-! ### the body of some spots -/
abbrev xw (c : Str) : Xw := ⟨c, [("word", .str c)]⟩
-- slots of body_of: 0 spots, 1 room, 2 first, 3 rest, 4 spot
/-! ### lots -/
abbrev Row := Int × Body
-- slots of is_small: 0 number, 1 limit
-- slots of bounded: 0 lot, 1 weight, 2 body, 3 corner, 4 one, 5 number
end


end
section
open PySem PyProof.Rows L2 Evl U.Hull

section
variable {K : Fg} {cs : Cs} {gs : Gs} {φ : PyData → Prop} {A : Rs → Prop} {ε : Xw → Prop} {w : World} {W : WX}
/-! ### weights gathered -/
-- slots of gathered: 0 rows, 1 room, 2 weights, 3 left, 4 weight, 5 body
end


end
section
open PySem PyProof.Rows L2 Evl U.Hull

section
variable {K : Fg} {cs : Cs} {gs : Gs} {φ : PyData → Prop} {A : Rs → Prop} {ε : Xw → Prop} {w : World} {W : WX}
-- slots of settled_lot: 0 rows, 1 room
/-! ### lots of rows of spots -/
/-- a row: its weight, its spots, told as a list or a tuple -/
structure RowS where
  w : Int
  t : Bool
  ss : List Spot
-- slots of lot_of: 0 rows, 1 room, 2 found, 3 row, 4 body
end


end
section
open PySem PyProof.Rows L2 Evl U.Hull

section
variable {K : Fg} {cs : Cs} {gs : Gs} {φ : PyData → Prop} {A : Rs → Prop} {ε : Xw → Prop} {w : World} {W : WX}
/-! ### the law's own lot -/
-- slots of _law_lot: 0 _law_rows_here, 1 _law_rank, 2 _law_bodies, 3 _law_weights, 4 _law_corners, 5 _law_body_here, 6 _law_below_here, 7 _law_keys, 8 _law_ranked, 9 _law_weight, 10 _law_spots_here, 11 _law_at, 12 _law_key_here
theorem ixN_nat {n j : Nat} (h : j < n) : ixN n (j : Int) = some j := by
  unfold ixN
  rw [if_pos (by omega), if_pos (by omega), Int.toNat_natCast]
end


end
section
open PySem PyProof.Rows L2 Evl U.Hull

section
variable {K : Fg} {cs : Cs} {gs : Gs} {φ : PyData → Prop} {A : Rs → Prop} {ε : Xw → Prop} {w : World} {W : WX}
/-! ### drawn rows -/
structure DrR (a r C : Nat) (rs : List RowS) : Prop where
  wl : ∀ p ∈ rs, -7 ≤ p.w ∧ p.w ≤ 7
  tf : ∀ p ∈ rs, p.t = false
  sp : ∀ p ∈ rs, Sps a r p.ss ∧ 1 ≤ p.ss.length ∧ p.ss.length ≤ C
-- slots of _law_rows: 0 _law_bag_here, 1 _law_rank, 2 _law_limit, 3 _law_corners, 4 _law_found, 5 _law_at, 6 _law_weight, 7 _law_row
end


end
section
open PySem PyProof.Rows L2 Evl U.Hull

section
variable {K : Fg} {cs : Cs} {gs : Gs} {φ : PyData → Prop} {A : Rs → Prop} {ε : Xw → Prop} {w : World} {W : WX}
/-! ### lots in plain -/
/-! ### two lots -/
-- slots of same_room: 0 one, 1 other
-- slots of added: 0 one, 1 other
-- slots of scaled: 0 lot, 1 number, 2 weight, 3 body
-- slots of told23: 0 _law_one, 1 _law_other, 2 why
/-! ### drawn lots -/
theorem okD_i (n : Nat) (i : Int) : okD n (.int i) = true := by cases n <;> rfl
end


end
section
open PySem PyProof.Rows L2 Evl U.Hull

section
variable {K : Fg} {cs : Cs} {gs : Gs} {φ : PyData → Prop} {A : Rs → Prop} {ε : Xw → Prop} {w : World} {W : WX}
/-! ### what a lot sums to -/
-- slots of tally: 0 lot, 1 weight, 2 body
-- slots of land: 0 lot, 1 found, 2 weight, 3 body
-- slots of _law_size: 0 _law_spots_here, 1 _law_body_here, 2 _law_total, 3 _law_at
end


end
section
open PySem PyProof.Rows L2 Evl U.Hull

section
variable {K : Fg} {cs : Cs} {gs : Gs} {φ : PyData → Prop} {A : Rs → Prop} {ε : Xw → Prop} {w : World} {W : WX}
/-! ### lots turned -/
-- slots of faced: 0 rows, 1 found, 2 weight, 3 body, 4 face
-- slots of turned: 0 lot
end


end
section
open U.Hull
/-! ### faces of faces -/
def atS (b : Body) (i : Nat) : Spot := (b[i]?).getD []
theorem at_inj {b : Body} (nd : b.Nodup) {i j : Nat} (hi : i < b.length) (hj : j < b.length) (e : atS b i = atS b j) : i = j := qt_of (by simp (disch := with_unfolding_all
  unfold atS at e
  rw [List.getElem?_eq_getElem hi, List.getElem?_eq_getElem hj] at e
  have e : b[i] = b[j] := by simpa using e
  rcases Nat.lt_trichotomy i j with h | h | h
  · exact absurd e (List.pairwise_iff_getElem.mp nd i j hi hj h)
  · exact h
  · exact absurd e.symm (List.pairwise_iff_getElem.mp nd j i hj hi h)
  ) only [↓qt_eq])
theorem nx_lt {n i : Nat} (h : i < n) : (i + 1) % n < n := Nat.mod_lt _ (by omega)
theorem nx_cases {n i : Nat} (h : i < n) : (i + 1 < n ∧ (i + 1) % n = i + 1) ∨ (i + 1 = n ∧ (i + 1) % n = 0) := by
  by_cases e : i + 1 < n
  · exact .inl ⟨e, Nat.mod_eq_of_lt e⟩
  · have : i + 1 = n := by omega
    exact .inr ⟨this, by rw [this, Nat.mod_self]⟩
theorem at_ne {b : Body} (nd : b.Nodup) (h : 3 ≤ b.length) {i : Nat} (hi : i < b.length) : atS b i ≠ atS b ((i + 1) % b.length) := fun e => by
  have := at_inj nd hi (nx_lt hi) e
  rcases nx_cases hi with ⟨h1, h2⟩ | ⟨h1, h2⟩ <;> omega
end
section
open PySem PyProof.Rows L2 Evl U.Hull

section
variable {K : Fg} {cs : Cs} {gs : Gs} {φ : PyData → Prop} {A : Rs → Prop} {ε : Xw → Prop} {w : World} {W : WX}
/-! ### lots turned: calls -/
end


end
section
open U.Hull
/-! ### what a body holds, in plain -/
def Hld (r : Nat) : Body → Spot → Prop
  | [], _ => False
  | [c], s => s = c
  | [c, v], s => ¬ sLt s c ∧ ¬ sLt v s ∧ (r = 1 ∨ tn (pt c) (pt v) (pt s) = 0)
  | c :: v :: u :: b, s => ∀ p ∈ sidesS (c :: v :: u :: b), 0 ≤ tn (pt p.1) (pt p.2) (pt s)
/-! ### the law's own way -/
def T3 (p q u s : Pt) : Prop := tn p q u ≠ 0 ∧ ((0 ≤ tn p q s ∧ 0 ≤ tn q u s ∧ 0 ≤ tn u p s) ∨ (tn p q s ≤ 0 ∧ tn q u s ≤ 0 ∧ tn u p s ≤ 0))
instance (p q u s : Pt) : Decidable (T3 p q u s) := by unfold T3; exact inferInstance
end
section
open PySem PyProof.Rows L2 Evl U.Hull

section
variable {K : Fg} {cs : Cs} {gs : Gs} {φ : PyData → Prop} {A : Rs → Prop} {ε : Xw → Prop} {w : World} {W : WX}
/-! ### what a body holds -/
noncomputable def tf (p : Prop) : Bool := @decide p (Classical.propDecidable p)
-- slots of spot_order: 0 one, 1 other, 2 first, 3 second, 4 found
-- slots of between: 0 spot, 1 low, 2 high
-- slots of holds: 0 body, 1 spot, 2 rim, 3 least, 4 start, 5 end
end


end
section
open PySem PyProof.Rows L2 Evl U.Hull

section
variable {K : Fg} {cs : Cs} {gs : Gs} {φ : PyData → Prop} {A : Rs → Prop} {ε : Xw → Prop} {w : World} {W : WX}
/-! ### the law's own way of telling what is within -/
-- slots of _law_in_three: 0 _law_one, 1 _law_two, 2 _law_three, 3 _law_spot_here, 4 _law_sides
-- slots of _law_in: 0 _law_spots_here, 1 _law_spot_here, 2 _law_at, 3 _law_to, 4 _law_k
end


end
section
open PySem PyProof.Rows L2 Evl U.Hull

section
variable {K : Fg} {cs : Cs} {gs : Gs} {φ : PyData → Prop} {A : Rs → Prop} {ε : Xw → Prop} {w : World} {W : WX}
/-! ### weights at spots -/
noncomputable def wat (r : Nat) (l : List Row) (s : Spot) : Int := ((l.filter fun p => tf (Hld r p.2 s)).map (·.1)).sum
-- slots of weight_at: 0 lot, 1 spot, 2 weight, 3 body
-- slots of told21: 0 _law_lot, 1 _law_spot_here, 2 why
-- slots of _law_weight: 0 _law_rows_here, 1 _law_spot_here, 2 _law_weight_here, 3 _law_spots_here
/-! ### spots looked at -/
-- slots of _law_all_spots: 0 _law_rows_here, 1 _law_found, 2 _law_weight_here, 3 _law_spots_here
-- slots of _law_look: 0 _law_bag_here, 1 _law_spots_here, 2 _law_rank, 3 _law_one, 4 _law_two
-- slots of _law_some_spots: 0 _law_bag_here, 1 _law_rows_here, 2 _law_rank, 3 _law_many, 4 _law_spots_here, 5 _law_at
end


end
section
open PySem PyProof.Rows L2 Evl

section
variable {K : Fg} {cs : Cs} {gs : Gs} {φ : PyData → Prop} {A : Rs → Prop} {ε : Xw → Prop}
/-! ### maps that lead -/
-- slots of room_from: 0 way
-- slots of summed: 0 row, 1 spot, 2 last, 3 step, 4 one, 5 steps
-- slots of led: 0 way, 1 spot, 2 row
/-! ### the law's own -/
-- slots of _law_led: 0 _law_kind, 1 _law_spot_here, 2 _law_found, 3 _law_row, 4 _law_total, 5 _law_at
-- slots of told16: 0 _law_map_rows, 1 _law_spot_here, 2 why
end


end
section
open PySem PyProof.Rows L2 Evl U.Hull

section
variable {K : Fg} {cs : Cs} {gs : Gs} {φ : PyData → Prop} {A : Rs → Prop} {ε : Xw → Prop} {w : World} {W : WX}
/-- a call that may raise and doesn't -/
theorem ew_cW0 {P : Pr} {ta : TA} {G : Gam} (h : AW K cs W ta G (fun ds => P ds (rE φ noX)) ε) : EW K cs W (tCallSD (spW K cs P) [] (WE W0) ta) G φ ε := fun Wd B ad H0 H σ S Q q x =>
  h Wd B ad H0 H σ S _ (fun ds hp vs H1 S1 e1 d1 => ⟨Zs Wd B ad G, ds, _, S1.there, by rw [List.append_nil]; exact d1, hp, ⟨fun y p v H' e d => q y p v H' (S1.ext e) (e1.trans (.of e)) d, fun c p a us H' e hn ho d => by
    obtain ⟨xs, rfl, p⟩ := p
    have S2 := S1.ext e
    refine q _ p _ H' S2 (e1.trans (.of e)) (.lst (sq_of (less_of (S1.fresh hn).2.2 ho)) (dpa_mono (less_sub fun b z => .inl z) d))⟩, fun e p => p.elim⟩) x
/-! ### bodies carried -/
-- slots of carried: 0 lot, 1 way, 2 rows, 3 weight, 4 body, 5 corner
-- slots of _law_carried: 0 _law_rows_here, 1 _law_table, 2 _law_weight, 3 _law_spots_here, 4 _law_spot_here
-- slots of told25: 0 _law_lot_here, 1 _law_table, 2 why
end


end
section
open PySem PyProof.Rows L2 Evl U.Hull

section
variable {K : Fg} {cs : Cs} {gs : Gs} {φ : PyData → Prop} {A : Rs → Prop} {ε : Xw → Prop} {w : World} {W : WX}
/-! ### bodies laid -/
-- slots of sum_of: 0 spot, 1 other, 2 one, 3 two
-- slots of laid_bodies: 0 one, 1 other, 2 corner, 3 beside
-- slots of laid: 0 one, 1 other, 2 room, 3 rows, 4 weight, 5 body, 6 times, 7 beside
-- slots of told26: 0 _law_one, 1 _law_other, 2 why
-- slots of _law_sums: 0 _law_spots_here, 1 _law_others, 2 _law_found, 3 _law_spot_here, 4 _law_one, 5 _law_at
-- slots of _law_laid: 0 _law_rows_here, 1 _law_others, 2 _law_found, 3 _law_weight, 4 _law_spots_here, 5 _law_beside, 6 _law_more
/-! ### lots laid, in plain -/
section
variable {r : Nat} {rs qs : List RowS} (hr : r = 1 ∨ r = 2) (h : DrR 14 r 4 rs) (k : DrR 14 r 4 qs) (l1 : rs.length ≤ 4) (l2 : qs.length ≤ 4)
include hr h l1
include k l2
end
end


end
section
open PySem PyProof.Rows L2 Evl U.Hull

section
variable {K : Fg} {cs : Cs} {gs : Gs} {φ : PyData → Prop} {A : Rs → Prop} {ε : Xw → Prop} {w : World} {W : WX}
/-! ### rows with their bounds -/
/-! ### laying in any order -/
end


end
section
open PySem PyProof.Rows L2 Evl U.Hull

section
variable {K : Fg} {cs : Cs} {gs : Gs} {φ : PyData → Prop} {A : Rs → Prop} {ε : Xw → Prop} {w : World} {W : WX}
-- slots of _law_threes: 0 _law_bag_here, 1 _law_rank, 2 _law_limit, 3 _law_found, 4 _law_at, 5 _law_spots, 6 _law_corner
/-! ### straight maps -/
end


end
section
open PySem PyProof.Rows L2 Evl U.Hull

section
variable {K : Fg} {cs : Cs} {gs : Gs} {φ : PyData → Prop} {A : Rs → Prop} {ε : Xw → Prop} {w : World} {W : WX}
/-! ### true bounds: D times the worth is whole, the worth lies from -V to V -/
structure LV (D V : Nat) (f : Fr) : Prop where
  wh : ∃ z : Int, (D : Rat) * val f = (z : Rat)
  lo : -(V : Rat) ≤ val f
  hi : val f ≤ (V : Rat)
theorem LV.mono {D V E U : Nat} {f : Fr} (h : LV D V f) (hd : D ∣ E) (hv : V ≤ U) : LV E U f := qt_of (by simp (disch := with_unfolding_all
  obtain ⟨k, rfl⟩ := hd
  obtain ⟨z, hz⟩ := h.wh
  have hv : (V : Rat) ≤ (U : Rat) := by exact_mod_cast hv
  refine ⟨⟨k * z, ?_⟩, ?_, ?_⟩
  · rw [Rat.intCast_mul, ← hz]
    have : ((D * k : Nat) : Rat) = (D : Rat) * (k : Rat) := by simp
    rw [this]
    have : (((k : Nat) : Int) : Rat) = (k : Rat) := rfl
    rw [this]
    grind
  · have := h.lo; grind
  · have := h.hi; grind
  ) only [↓qt_eq])
theorem val_mul_den {a : Nat} {f : Fr} (g : Gd a f) : val f * (f.2 : Rat) = (f.1 : Rat) := by
  unfold val
  exact Rat.div_mul_cancel (by have := g.pos; have : f.2 ≠ 0 := by omega
                               exact_mod_cast this)
-- slots of lspotsL: 0 _law_bag_here, 1 _law_rank, 2 _law_limit, 3 _law_many, 4 _law_found, 5 _law_kind, 6 _law_one, 7 _law_two, 8 _law_at
-- slots of lrowsL: 0 _law_bag_here, 1 _law_rank, 2 _law_limit, 3 _law_corners, 4 _law_found, 5 _law_at, 6 _law_weight, 7 _law_row
end


end
section
open PySem PyProof.Rows L2 Evl U.Hull

section
variable {K : Fg} {cs : Cs} {gs : Gs} {φ : PyData → Prop} {A : Rs → Prop} {ε : Xw → Prop} {w : World} {W : WX}
theorem len2 {α : Type} {l : List α} (h : l.length = 2) : ∃ a b, l = [a, b] := match l, h with | [a, b], _ => ⟨a, b, rfl⟩
/-! ### a map behind a map -/
-- slots of behind: 0 first, 1 then, 2 found, 3 row, 4 made, 5 last, 6 step, 7 inner, 8 steps, 9 one, 10 other
/-! ### bounds carried -/
end


end
section
open PySem PyProof.Rows L2 Evl U.Hull

section
variable {K : Fg} {cs : Cs} {gs : Gs} {φ : PyData → Prop} {A : Rs → Prop} {ε : Xw → Prop} {w : World} {W : WX}
/-! ### a spot lies deep where each small step on leads not out -/
end


end
section
open PySem PyProof.Rows L2 Evl U.Hull

section
variable {K : Fg} {cs : Cs} {gs : Gs} {φ : PyData → Prop} {A : Rs → Prop} {ε : Xw → Prop} {w : World} {W : WX}
-- slots of lookL: 0 _law_bag_here, 1 _law_spots_here, 2 _law_rank, 3 _law_one, 4 _law_two
-- slots of someL: 0 _law_bag_here, 1 _law_rows_here, 2 _law_rank, 3 _law_many, 4 _law_spots_here, 5 _law_at
-- slots of wideL: 0 _law_bag_here, 1 _law_rank, 2 _law_limit, 3 _law_found, 4 _law_k, 5 _law_at
-- slots of _law_deep: 0 _law_spots_here, 1 _law_spot_here, 2 _law_tiny, 3 _law_start
end


end
section
open PySem PyProof.Rows L2 Evl U.Hull
/-! ### corners and sides: what lies on a side's line -/
/-! ### Euler: the faces that hold a spot, with their signs -/
end
section
open PySem PyProof.Rows L2 Evl U.Hull
/-! ### what two bodies have in common, plain -/
end
section
open PySem PyProof.Rows L2 Evl U.Hull
/-! ### two bodies of the plane: all that both hold lies between corners and crossings -/
end
section
open PySem PyProof.Rows L2 Evl U.Hull

section
variable {K : Fg} {cs : Cs} {gs : Gs} {φ : PyData → Prop} {A : Rs → Prop} {ε : Xw → Prop} {w : World} {W : WX}
/-! ### what is drawn, told tightly -/
theorem lv_frac {y m : Int} (hm : m = 1 ∨ m = 2 ∨ m = 3) (h1 : -6 ≤ y) (h2 : y ≤ 6) : LV 6 6 (fracF y m) := qt_of (by simp (disch := with_unfolding_all
  have e : val (fracF y m) = (y : Rat) / (m : Rat) := val_frac (by omega)
  have k1 : ((-6 : Int) : Rat) ≤ (y : Rat) := by exact_mod_cast h1
  have k2 : (y : Rat) ≤ ((6 : Int) : Rat) := by exact_mod_cast h2
  rw [show ((-6 : Int) : Rat) = -6 from rfl] at k1
  rw [show ((6 : Int) : Rat) = 6 from rfl] at k2
  have n6 : ((6 : Nat) : Rat) = 6 := rfl
  rcases hm with rfl | rfl | rfl
  · rw [show ((1 : Int) : Rat) = 1 from rfl] at e
    exact ⟨⟨6 * y, by rw [e, n6, Rat.intCast_mul, show ((6 : Int) : Rat) = 6 from rfl]; grind⟩, by rw [e, n6]; grind, by rw [e, n6]; grind⟩
  · rw [show ((2 : Int) : Rat) = 2 from rfl] at e
    exact ⟨⟨3 * y, by rw [e, n6, Rat.intCast_mul, show ((3 : Int) : Rat) = 3 from rfl]; grind⟩, by rw [e, n6]; grind, by rw [e, n6]; grind⟩
  · rw [show ((3 : Int) : Rat) = 3 from rfl] at e
    exact ⟨⟨2 * y, by rw [e, n6, Rat.intCast_mul, show ((2 : Int) : Rat) = 2 from rfl]; grind⟩, by rw [e, n6]; grind, by rw [e, n6]; grind⟩
  ) only [↓qt_eq])
theorem partOf_lv (s : Bag) : LV 6 6 (partOf s) := qt_of (by simp (disch := with_unfolding_all
  obtain ⟨z1, z2⟩ := pullV_range s (n := 13) (by decide)
  obtain ⟨y1, y2⟩ := pullV_range (pullS s 13) (n := 4) (by decide)
  have hm := menu_mem (l := [1, 1, 2, 3]) y1 y2
  unfold partOf
  generalize menu _ _ = m at hm
  generalize pullV s 13 = y at *
  simp only [List.mem_cons, List.mem_singleton, List.not_mem_nil, or_false] at hm
  exact lv_frac (by omega) (by omega) (by omega)
  ) only [↓qt_eq])
theorem c_spotT {n : Int} (h0 : 0 ≤ n) (hl : n ≤ 1000) (h : ∀ ps : List Fr, Gds 3 ps → ps.length = n.toNat → (∀ f ∈ ps, LV 6 6 f) → φ (frs ps)) (s : Bag) (ok : s.ok) : ∃ r s', P_spot s [.int n] r s' ∧ s'.ok ∧ φ r := qt_of (by simp (disch := with_unfolding_all
  refine ⟨_, _, ⟨n.toNat, by rw [Int.toNat_of_nonneg h0], by omega, rfl, rfl⟩, itB_ok partS_ok ok _, ?_⟩
  unfold spotOf
  rw [drawn_fr]
  exact h _ (drawFr_gd partOf_gd3 _ _) (drawFr_len _ _ _ _) fun f hf => by
    unfold drawFr at hf
    obtain ⟨i, _, rfl⟩ := List.mem_map.mp hf
    exact partOf_lv _
  ) only [↓qt_eq])
def LVt (ss : List Spot) : Prop := ∀ s ∈ ss, ∀ f ∈ s, LV 24 6 f
theorem LVt.snoc {ss : List Spot} {s : Spot} (h : LVt ss) (k : ∀ f ∈ s, LV 24 6 f) : LVt (ss ++ [s]) := fun t ht => by
  rcases List.mem_append.mp ht with ht | ht
  · exact h t ht
  · rw [List.mem_singleton.mp ht]; exact k
theorem lvt_along {p : Int} {s t : Spot} (p0 : 0 ≤ p) (p4 : p ≤ 4) (hs : Gds 3 s) (ht : Gds 3 t) (ls : ∀ f ∈ s, LV 6 6 f) (lt : ∀ f ∈ t, LV 6 6 f) : ∀ f ∈ alongF (fracF p 4) s t, LV 24 6 f := fun f hf => by
  unfold alongF at hf
  obtain ⟨i, hi, rfl⟩ := List.getElem_of_mem hf
  simp at hi ⊢
  have gx := hs s[i] (List.getElem_mem _)
  have gy := ht t[i] (List.getElem_mem _)
  have gk : Gd 3 (fracF p 4) := Gd.frac (by unfold Bd; omega) (by unfold Bd; decide) (by decide)
  have vk : val (fracF p 4) = (p : Rat) / 4 := val_frac (by decide)
  have lx := ls s[i] (List.getElem_mem _)
  have ly := lt t[i] (List.getElem_mem _)
  have e : val (addF s[i] (mulF (fracF p 4) (subF t[i] s[i]))) = val s[i] + (p : Rat) / 4 * (val t[i] - val s[i]) := by rw [val_add gx (gk.mul (gy.sub gx)), val_mul gk (gy.sub gx), val_sub gy gx, vk]
  obtain ⟨z1, h1⟩ := lx.wh
  obtain ⟨z2, h2⟩ := ly.wh
  have q0 : (0 : Rat) ≤ (p : Rat) := by exact_mod_cast p0
  have q4' : (p : Rat) ≤ ((4 : Int) : Rat) := by exact_mod_cast p4
  have q4 : (p : Rat) ≤ 4 := q4'
  have a1 := lx.lo
  have a2 := lx.hi
  have a3 := ly.lo
  have a4 := ly.hi
  have n6 : ((6 : Nat) : Rat) = 6 := rfl
  have n24 : ((24 : Nat) : Rat) = 24 := rfl
  rw [n6] at h1 h2 a1 a2 a3 a4
  generalize val s[i] = x at *
  generalize val t[i] = y at *
  have m1 := mul_nn q0 (show 0 ≤ 6 - y by grind)
  have m2 := mul_nn q0 (show 0 ≤ 6 + y by grind)
  have m3 := mul_nn (show 0 ≤ 4 - (p : Rat) by grind) (show 0 ≤ 6 - x by grind)
  have m4 := mul_nn (show 0 ≤ 4 - (p : Rat) by grind) (show 0 ≤ 6 + x by grind)
  refine ⟨⟨4 * z1 + p * (z2 - z1), ?_⟩, ?_, ?_⟩
  · rw [e, n24, Rat.intCast_add, Rat.intCast_mul, Rat.intCast_mul, Rat.intCast_sub, ← h1, ← h2]
    have : ((4 : Int) : Rat) = 4 := rfl
    rw [this]
    grind
  · rw [e, n6]; grind
  · rw [e, n6]; grind
def P_lspotsT : Pr := fun ds A => ∃ r m : Nat, ds = [.int r, .int m] ∧ (r = 1 ∨ r = 2) ∧ 1 ≤ m ∧ m ≤ 1000 ∧ ∀ ss, LVt ss → Sps 14 r ss → 1 ≤ ss.length → ss.length ≤ m + 1 → A (.fl (ol (ss.map frs)))
def t_lspotsT (K : Fg) : TS := (tSeq (tAsg (tOp rAddI (tC (V.int 1)) (tCall (spB K P_pull) [] E0 (tCons (tVar 0) (tCons (tVar 2) tNil)))) (gName 3))
  (tSeq (tAsg (tLc (iRng1 (tCons (tVar 3) tNil)) (gName 8) tYes (tCall (spB K P_spot) [] E0 (tCons (tVar 0) (tCons (tVar 1) tNil))) [8]) (gName 4))
  (tSeq (tAsg (tCall (spB K P_pull) [] E0 (tCons (tVar 0) (tCons (tC (V.int 6)) tNil))) (gName 5))
  (tSeq (tIfS (tTest (tOp rEq (tVar 5) (tC (V.int 0)))) (tDrop (tBM K "list" rAppend (tVar 4) (tCons (tOp (rIx K) (tVar 4) (tCall (spB K P_pull) [] E0 (tCons (tVar 0) (tCons (tVar 3) tNil)))) tNil))) tNext)
  (tSeq (tIfS (tTest (tOp rEq (tVar 5) (tC (V.int 1)))) (tSeq (tAsg (tOp (rIx K) (tVar 4) (tC (V.int 0))) (gName 6))
  (tSeq (tAsg (tOp (rIx K) (tVar 4) (tUn rNegI (tC (V.int 1)))) (gName 7))
  (tDrop (tBM K "list" rAppend (tVar 4) (tCons (tCall (spP K P_along) [] E0 (tCons (tVar 6) (tCons (tVar 7) (tCons (tCall (spP K P_frac) [] E0 (tCons (tCall (spB K P_pull) [] E0 (tCons (tVar 0) (tCons (tC (V.int 5)) tNil))) (tCons (tC (V.int 4)) tNil))) tNil)))) tNil))))) tNext)
  (tRet (tVar 4)))))))
-- slots of lspotsT: 0 _law_bag_here, 1 _law_rank, 2 _law_limit, 3 _law_many, 4 _law_found, 5 _law_kind, 6 _law_one, 7 _law_two, 8 _law_at
theorem ln_lspotsT : ∀ ds A, P_lspotsT ds A → ds.length + 1 = 3 := fun ds A h => by obtain ⟨_, _, rfl, _⟩ := h; rfl
theorem rd_lspotsT {ds A} (h : P_lspotsT ds A) : SW K cs W0 (t_lspotsT K) (.bag :: frame 8 ds) (rts0 A) := qt_of (by simp (disch := with_unfolding_all
  obtain ⟨r, m, rfl, hr, hm, hm2, h⟩ := h
  unfold t_lspotsT
  refine sw_seq ?_
  walk_at "s"
  rename_i v v0 v1
  refine sw_seq (sw_asgF (ef_lc ?_))
  walk_at "s"
  refine lcD frs (fun s => (Gds 3 s ∧ s.length = r) ∧ ∀ f ∈ s, LV 6 6 f) (by rw [List.length_range]; omega) (unk1 rfl) (fun x mx => ?_) ?_
  · refine gc_name (List.mem_singleton.mpr rfl) ?_
    refine ew_callB (i := 0) rfl (aw_cons (ew_var (i := 1) rfl (aw_nil fun s ok => c_spotT (by omega) (by omega) (fun ps g l lv => ?_) s ok)))
    exact ⟨ps, rfl, ⟨g, by omega⟩, lv⟩
  intro ss hlen hss
  have h1 : Sps 3 r ss := fun s hs => (hss s hs).1
  have h66 : ∀ s ∈ ss, ∀ f ∈ s, LV 6 6 f := fun s hs => (hss s hs).2
  have h1v : LVt ss := fun s hs f hf => (h66 s hs f hf).mono (by decide) (by decide)
  rw [List.length_range] at hlen
  have g40 := h1.mono (b := 14) (by decide)
  have v3 := h1v
  walk_at "s"
  refine sw_seq ?_
  walk_at "s"
  rename_i kd k0 k1
  refine sw_cut (fun G => ∃ ts : List Spot, LVt ts ∧ Sps 14 r ts ∧ 1 ≤ ts.length ∧ (kd = 0 ∨ (Sps 3 r ts ∧ ∀ s ∈ ts, ∀ f ∈ s, LV 6 6 f)) ∧ ts.length ≤ m + (if kd = 0 then 1 else 0) ∧ G = [.bag, .d (.int r), .d (.int m), .d (.int (1 + v)), .ow (ol (ts.map frs)), .d (.int kd), .un, .un, .un]) ?_ ?_
  · walk_at "s"
    refine cnd_d (fun hk => ?_) (fun hk => ?_)
    · refine sw_app rfl (by rw [List.length_map]; omega) ?_
      walk_at "s"
      rename_i p p0 p1
      obtain ⟨s, ms, es⟩ := atI_in (f := frs) (xs := ss) p0 (by omega)
      refine ⟨_, es, ?_⟩
      walk_at "s"
      refine ⟨ss ++ [s], v3.snoc (v3 s ms), g40.snoc (g40 s ms).1 (g40 s ms).2, by simp, .inl hk, by rw [if_pos hk]; simp; omega, ?_⟩
      rw [List.map_append]; rfl
    · walk_at "s"
      exact ⟨ss, v3, g40, by omega, .inr ⟨h1, h66⟩, by omega, rfl⟩
  rintro _ ⟨ts, v40, g40, t1, h1, tl, rfl⟩
  refine sw_cut (fun G => ∃ (ts : List Spot) (e6 e7 : En), LVt ts ∧ Sps 14 r ts ∧ 1 ≤ ts.length ∧ ts.length ≤ m + 1 ∧ G = [.bag, .d (.int r), .d (.int m), .d (.int (1 + v)), .ow (ol (ts.map frs)), .d (.int kd), e6, e7, .un]) ?_ ?_
  · walk_at "s"
    refine cnd_d (fun hk => ?_) (fun hk => ?_)
    · obtain ⟨h1, h66'⟩ := h1.resolve_left (by omega)
      rw [if_neg (by omega)] at tl
      obtain ⟨s0, ms0, es0⟩ := atI_in (f := frs) (xs := ts) (j := 0) (by decide) (by omega)
      obtain ⟨ts', sl, ets⟩ : ∃ ts' sl, ts = ts' ++ [sl] := ⟨ts.dropLast, ts.getLast (by intro z; rw [z] at t1; simp at t1), (List.dropLast_concat_getLast _).symm⟩
      have msl : sl ∈ ts := by rw [ets]; simp
      have esl : atI (ts.map frs) (-1) = some (frs sl) := by rw [ets, List.map_append]; exact atm (k := 1) (by simp) (by decide) (by simp)
      refine sw_seq ?_
      walk_at "s"
      refine ⟨_, es0, ?_⟩
      walk_at "s"
      refine sw_seq ?_
      walk_at "s"
      refine ⟨_, esl, ?_⟩
      walk_at "s"
      rename_i p p0 p1
      have bp : Bd 3 p := by unfold Bd; omega
      have gk : Gd 3 (fracF p 4) := Gd.frac bp (by unfold Bd; decide) (by decide)
      refine c_frac (bp.mono (by decide)) (Bd.mono (n := 3) (by unfold Bd; decide) (by decide)) ?_
      walk_at "s"
      have e1 := (h1 s0 ms0).2
      have e2 := (h1 sl msl).2
      refine c_along (h1 s0 ms0).1 (h1 sl msl).1 gk (by rw [e1, e2]) (by omega) (by decide) (by decide) ?_
      walk_at "s"
      refine ⟨ts ++ [alongF (fracF p 4) s0 sl], .d (frs s0), .d (frs sl), v40.snoc (lvt_along p0 (by omega) (h1 s0 ms0).1 (h1 sl msl).1 (h66' s0 ms0) (h66' sl msl)), g40.snoc ((along_gd gk (h1 s0 ms0).1 (h1 sl msl).1).mono (by decide)) (by rw [along_len (by rw [e1, e2]), e1]), by simp, by simp; omega, ?_⟩
      rw [List.map_append]; rfl
    · walk_at "s"
      exact ⟨ts, _, _, v40, g40, t1, by split at tl <;> omega, rfl⟩
  rintro _ ⟨ts, e6, e7, v, g, t1, tl, rfl⟩
  refine sw_retO (i := 4) rfl ?_
  exact h ts v g t1 tl
  ) only [↓qt_eq])
-- slots of lrowsT: 0 _law_bag_here, 1 _law_rank, 2 _law_limit, 3 _law_corners, 4 _law_found, 5 _law_at, 6 _law_weight, 7 _law_row
end


end
section
open PySem PyProof.Rows L2 Evl U.Hull

section
variable {K : Fg} {cs : Cs} {gs : Gs} {φ : PyData → Prop} {A : Rs → Prop} {ε : Xw → Prop} {w : World} {W : WX}
/-! ### crossings of small spots are small -/
def lv2 (p : Sp2) : Prop := LV 48 6 p.x ∧ LV 48 6 p.y
end


end
section
open PySem PyProof.Rows L2 Evl U.Hull

section
variable {K : Fg} {cs : Cs} {gs : Gs} {φ : PyData → Prop} {A : Rs → Prop} {ε : Xw → Prop} {w : World} {W : WX}
/-! ### the body of all that two hold -/
def sp2 (s : Spot) : Sp2 := ⟨(s[0]?).getD (0, 1), (s[1]?).getD (0, 1)⟩
theorem sp2_l {s : Spot} (h : s.length = 2) : (sp2 s).l = s := by
  obtain ⟨x, y, rfl⟩ := len2 h
  rfl
theorem sp2_d {s : Spot} (h : s.length = 2) : (sp2 s).d = frs s := by
  show frs (sp2 s).l = frs s
  rw [sp2_l h]
-- slots of common: 0 one, 1 other, 2 found, 3 corner, 4 start, 5 end, 6 other_start, 7 other_end, 8 spot
end


end
section
open PySem PyProof.Rows L2 Evl U.Hull

section
variable {K : Fg} {cs : Cs} {gs : Gs} {φ : PyData → Prop} {A : Rs → Prop} {ε : Xw → Prop} {w : World} {W : WX}
/-! ### lots met -/
-- slots of met: 0 one, 1 other, 2 room, 3 found, 4 weight, 5 body, 6 other_weight, 7 other_body, 8 shared_body
-- slots of told24: 0 _law_one, 1 _law_other, 2 why
end


end
section
open PySem PyProof.Rows L2 Evl U.Hull

section
variable {K : Fg} {cs : Cs} {gs : Gs} {φ : PyData → Prop} {A : Rs → Prop} {ε : Xw → Prop} {w : World} {W : WX}
/-! ### the law's own crossing -/
-- slots of _law_cross: 0 _law_one, 1 _law_two, 2 _law_three, 3 _law_four, 4 _law_first, 5 _law_second, 6 _law_span, 7 _law_step, 8 _law_share
/-! ### the law's own meeting -/
-- slots of _law_meeting: 0 _law_one, 1 _law_other, 2 _law_found, 3 _law_at, 4 _law_to, 5 _law_spot_here
end


end
section
open PySem PyProof.Rows L2 Evl U.Hull
/-! ### the body of what two have in common, plain -/
/-! ### crossings by their values -/
structure Gp (p : Spot × Spot) : Prop where
  g1 : (sp2 p.1).g 100
  g2 : (sp2 p.2).g 100
  l1 : p.1.length = 2
  l2 : p.2.length = 2
  v1 : lv2 (sp2 p.1)
  v2 : lv2 (sp2 p.2)
/-! ### all that both hold -/
end
section
open PySem PyProof.Rows L2 Evl U.Hull

section
variable {K : Fg} {cs : Cs} {gs : Gs} {φ : PyData → Prop} {A : Rs → Prop} {ε : Xw → Prop} {w : World} {W : WX}
/-! ### looks, told tightly; spots of rows of all kinds -/
-- slots of lookT: 0 _law_bag_here, 1 _law_spots_here, 2 _law_rank, 3 _law_one, 4 _law_two
-- slots of allspM: 0 _law_rows_here, 1 _law_found, 2 _law_weight_here, 3 _law_spots_here
-- slots of someM: 0 _law_bag_here, 1 _law_rows_here, 2 _law_rank, 3 _law_many, 4 _law_spots_here, 5 _law_at
end


end
section
open PySem PyProof.Rows L2 Evl U.Hull
/-! ### numbers below, told tightly -/
/-! ### rows of small spots -/
structure TR (r n : Nat) (rs : List RowS) : Prop where
  wl : ∀ p ∈ rs, -7 ≤ p.w ∧ p.w ≤ 7
  sp : ∀ p ∈ rs, Sps 31 r p.ss ∧ 1 ≤ p.ss.length ∧ p.ss.length ≤ 5
  lv : ∀ p ∈ rs, ∀ s ∈ p.ss, ∀ f ∈ s, LV 48 6 f
  ln : rs.length ≤ n
/-! ### the pairs -/
section
variable {r n m : Nat} {rs qs : List RowS} (hr : r = 1 ∨ r = 2) (hn : n ≤ 100) (hm : m ≤ 100) (h1 : TR r n rs) (h2 : TR r m qs)
include hr hn hm h1 h2
end
/-! ### weights of what is met -/
end
section
open PySem PyProof.Rows L2 Evl U.Hull
/-! ### what a body has on a line, plain -/
structure Ln (k : Spot × Spot) : Prop where
  gp : Gp k
  ne : k.1 ≠ k.2
/-! ### times of corners and of crossings -/
end
section
open PySem PyProof.Rows L2 Evl U.Hull

section
variable {K : Fg} {cs : Cs} {gs : Gs} {φ : PyData → Prop} {A : Rs → Prop} {ε : Xw → Prop} {w : World} {W : WX}
/-! ### faces by the law, mirrored bodies -/
-- slots of _law_faces: 0 _law_spots_here, 1 _law_body_here, 2 _law_found, 3 _law_corner, 4 _law_at
-- slots of _law_turned: 0 _law_rows_here, 1 _law_found, 2 _law_weight, 3 _law_spots_here, 4 _law_sign_here, 5 _law_face
/-! ### mirrored -/
-- slots of mirrored: 0 body, 1 corner, 2 one
-- slots of unlaid: 0 body
end


end
section
open PySem PyProof.Rows L2 Evl U.Hull

section
variable {K : Fg} {cs : Cs} {gs : Gs} {φ : PyData → Prop} {A : Rs → Prop} {ε : Xw → Prop} {w : World} {W : WX}
/-! ### the program's spots on a line -/
/-! ### the law's spots on a line -/
structure SB (ss : List Spot) : Prop where
  sp : SpR 31 2 ss
  l5 : ss.length ≤ 100
  lv : ∀ s ∈ ss, ∀ f ∈ s, LV 48 6 f
end


end
section
open PySem PyProof.Rows L2 Evl U.Hull

section
variable {K : Fg} {cs : Cs} {gs : Gs} {φ : PyData → Prop} {A : Rs → Prop} {ε : Xw → Prop} {w : World} {W : WX}
/-! ### sliced -/
-- slots of time_of: 0 spot, 1 step, 2 corner, 3 at
-- slots of slice_of: 0 body, 1 spot, 2 step, 3 ahead, 4 found, 5 at, 6 corner, 7 last, 8 one
/-! the lot -/
-- slots of sliced: 0 lot, 1 spot, 2 step, 3 rows, 4 weight, 5 body, 6 row
end


end
section
open PySem PyProof.Rows L2 Evl U.Hull

section
variable {K : Fg} {cs : Cs} {gs : Gs} {φ : PyData → Prop} {A : Rs → Prop} {ε : Xw → Prop} {w : World} {W : WX}
/-! ### paired -/
-- slots of paired: 0 one, 1 other, 2 rows, 3 weight, 4 body, 5 beside, 6 upright, 7 spot, 8 high
-- slots of lpair28: 0 _law_one, 1 _law_other, 2 why
-- slots of lslice28: 0 _law_lot_here, 1 _law_spot_here, 2 _law_step, 3 why
end


end
section
open PySem PyProof.Rows L2 Evl U.Hull

section
variable {K : Fg} {cs : Cs} {gs : Gs} {φ : PyData → Prop} {A : Rs → Prop} {ε : Xw → Prop} {w : World} {W : WX}
/-! ### the law's own times -/
-- slots of _law_times: 0 _law_spots_here, 1 _law_spot_here, 2 _law_ahead, 3 _law_found, 4 _law_at, 5 _law_to, 6 _law_near, 7 _law_one, 8 _law_two, 9 _law_cut
end


end
section
open PySem PyProof.Rows L2 Evl U.Hull

section
variable {K : Fg} {cs : Cs} {gs : Gs} {φ : PyData → Prop} {A : Rs → Prop} {ε : Xw → Prop} {w : World} {W : WX}
-- slots of someT: 0 _law_bag_here, 1 _law_rows_here, 2 _law_rank, 3 _law_many, 4 _law_spots_here, 5 _law_at
/-! ### rows paired, plain -/
/-! ### rows sliced, plain -/
section
variable {k : Spot × Spot} {rs : List RowS} (hL : Ln k) (hS : ∀ p ∈ rs, SB p.ss ∧ p.ss.length ≤ 5) (hn : rs.length ≤ 5)
include hL hS hn
end
end


end
section
open PySem PyProof.Rows L2 Evl U.Hull
/-! ### Euler on a line: places less open stretches -/
end
section
open PySem PyProof.Rows L2 Evl U.Hull

section
variable {K : Fg} {cs : Cs} {gs : Gs} {φ : PyData → Prop} {A : Rs → Prop} {ε : Xw → Prop} {w : World} {W : WX}
/-! ### the law's tally on a line -/
-- slots of _law_both: 0 _law_rows_here, 1 _law_others, 2 _law_spot_here
-- slots of _law_line_tally: 0 _law_rows_here, 1 _law_others, 2 _law_one, 3 _law_two, 4 _law_cuts, 5 _law_places, 6 _law_total, 7 _law_at, 8 _law_weight_here, 9 _law_spots_here, 10 _law_gap, 11 _law_place
end


end
section
open PySem PyProof.Rows L2 Evl U.Hull
/-! ### lines as three whole numbers, plain -/
theorem gI_gcd {a b : Int} (h : a ≠ 0 ∨ b ≠ 0) : gI a b = (Int.gcd a b : Int) := by
  unfold gI gN Int.gcd
  have : 0 < Nat.gcd a.natAbs b.natAbs := Nat.pos_of_ne_zero fun z => by
    have := Nat.gcd_eq_zero_iff.mp z
    omega
  omega
theorem ipos {g x : Int} (hg : 0 < g) (h : 0 < g * x) : 0 < x := by
  rcases Int.lt_or_le 0 x with k | k
  · exact k
  · have := Int.mul_le_mul_of_nonneg_left k (Int.le_of_lt hg)
    omega
/-- three whole numbers, divided by what they share -/
def n3 (v : I3) : I3 := (v.1.fdiv (gI (gI v.1 v.2.1) v.2.2), v.2.1.fdiv (gI (gI v.1 v.2.1) v.2.2), v.2.2.fdiv (gI (gI v.1 v.2.1) v.2.2))
theorem n3_spec {a b c : Int} (h : a ≠ 0 ∨ b ≠ 0) : ∃ g a' b' c' : Int, 0 < g ∧ gI (gI a b) c = g ∧ a = g * a' ∧ b = g * b' ∧ c = g * c' ∧ n3 (a, b, c) = (a', b', c') ∧ ∀ d : Int, d ∣ a' → d ∣ b' → d ∣ c' → d ∣ 1 := qt_of (by simp (disch := with_unfolding_all
  have e1 := gI_gcd h
  have p1 := gI_pos a b
  have e2 : gI (gI a b) c = (Int.gcd (Int.gcd a b) c : Int) := by rw [gI_gcd (.inl (by omega)), e1]
  have p2 := gI_pos (gI a b) c
  generalize hg : gI (gI a b) c = g at *
  have da : g ∣ a := by
    rw [e2]
    exact Int.dvd_trans (Int.gcd_dvd_left ..) (Int.gcd_dvd_left ..)
  have db : g ∣ b := by
    rw [e2]
    exact Int.dvd_trans (Int.gcd_dvd_left ..) (Int.gcd_dvd_right ..)
  have dc : g ∣ c := by
    rw [e2]
    exact Int.gcd_dvd_right ..
  obtain ⟨a', ea⟩ := da
  obtain ⟨b', eb⟩ := db
  obtain ⟨c', ec⟩ := dc
  have fd : ∀ {x x' : Int}, x = g * x' → x.fdiv g = x' := fun {x x'} e => by
    rw [e, Int.fdiv_eq_ediv_of_nonneg _ (Int.le_of_lt p2)]
    exact Int.mul_ediv_cancel_left _ (by omega)
  refine ⟨g, a', b', c', p2, rfl, ea, eb, ec, ?_, fun d d1 d2 d3 => ?_⟩
  · show (a.fdiv (gI (gI a b) c), b.fdiv (gI (gI a b) c), c.fdiv (gI (gI a b) c)) = _
    rw [hg, fd ea, fd eb, fd ec]
  · have k : g * d ∣ g := by
      have h1 : g * d ∣ (Int.gcd a b : Int) := Int.dvd_coe_gcd (by rw [ea]; exact Int.mul_dvd_mul_left _ d1) (by rw [eb]; exact Int.mul_dvd_mul_left _ d2)
      have h2 : g * d ∣ (Int.gcd (Int.gcd a b) c : Int) := Int.dvd_coe_gcd h1 (by rw [ec]; exact Int.mul_dvd_mul_left _ d3)
      rw [← e2] at h2
      exact h2
    obtain ⟨q, hq⟩ := k
    refine ⟨q, ?_⟩
    have : g * (d * q) = g * 1 := by rw [← Int.mul_assoc, Int.mul_one]; exact hq.symm
    exact (Int.eq_of_mul_eq_mul_left (by omega) this).symm
  ) only [↓qt_eq])
/-- a line's three numbers -/
structure LnT (k : Spot × Spot) (v : I3) : Prop where
  e1 : (v.1 : Rat) * (pt k.1).x + (v.2.1 : Rat) * (pt k.1).y = (v.2.2 : Rat)
  e2 : (v.1 : Rat) * (pt k.2).x + (v.2.1 : Rat) * (pt k.2).y = (v.2.2 : Rat)
  sg : 0 < v.1 ∨ (v.1 = 0 ∧ 0 < v.2.1)
  pr : ∀ d : Int, d ∣ v.1 → d ∣ v.2.1 → d ∣ v.2.2 → d ∣ 1
theorem dvd_of {x y a b c : Int} (pr : ∀ d : Int, d ∣ a → d ∣ b → d ∣ c → d ∣ 1) (h1 : x ∣ y * a) (h2 : x ∣ y * b) (h3 : x ∣ y * c) : x ∣ y := qt_of (by simp (disch := with_unfolding_all
  have g1 : (Int.gcd (Int.gcd a b) c) = 1 := by
    have p := pr (Int.gcd (Int.gcd a b) c) (Int.dvd_trans (Int.gcd_dvd_left ..) (Int.gcd_dvd_left ..)) (Int.dvd_trans (Int.gcd_dvd_left ..) (Int.gcd_dvd_right ..)) (Int.gcd_dvd_right ..)
    have := Int.le_of_dvd (by decide) p
    have z : Int.gcd (Int.gcd a b) c ≠ 0 := fun z => by
      rw [z] at p
      obtain ⟨q, hq⟩ := p
      have : ((0 : Nat) : Int) * q = 0 := Int.zero_mul q
      omega
    omega
  have k1 : x ∣ (Int.gcd (y * a) (y * b) : Int) := Int.dvd_coe_gcd h1 h2
  have k2 : x ∣ (Int.gcd (Int.gcd (y * a) (y * b)) (y * c) : Int) := Int.dvd_coe_gcd k1 h3
  have e : Int.gcd (Int.gcd (y * a) (y * b)) (y * c) = y.natAbs := by
    rw [Int.gcd_mul_left]
    have e2 : Int.gcd ((y.natAbs * Int.gcd a b : Nat) : Int) (y * c) = Int.gcd (y * (Int.gcd a b : Int)) (y * c) := by
      unfold Int.gcd
      rw [Int.natAbs_mul y c, Int.natAbs_natCast, Int.natAbs_mul, Int.natAbs_natCast]
    rw [e2, Int.gcd_mul_left, g1, Nat.mul_one]
  rw [e] at k2
  exact Int.dvd_natAbs.mp k2
  ) only [↓qt_eq])
theorem n3_lnT {k : Spot × Spot} {a b c : Int} (h1 : (a : Rat) * (pt k.1).x + (b : Rat) * (pt k.1).y = (c : Rat)) (h2 : (a : Rat) * (pt k.2).x + (b : Rat) * (pt k.2).y = (c : Rat)) (sg : 0 < a ∨ (a = 0 ∧ 0 < b)) : LnT k (n3 (a, b, c)) := qt_of (by simp (disch := with_unfolding_all
  obtain ⟨g, a', b', c', hg, _, ea, eb, ec, en, pr⟩ := n3_spec (a := a) (b := b) (c := c) (by omega)
  rw [en]
  have g0 : (g : Rat) ≠ 0 := qne (by omega)
  rw [ea, eb, ec, Rat.intCast_mul, Rat.intCast_mul, Rat.intCast_mul] at h1 h2
  refine ⟨?_, ?_, ?_, pr⟩
  · show (a' : Rat) * _ + (b' : Rat) * _ = (c' : Rat)
    refine mul_left_inj' (c := (g : Rat)) ?_ g0
    grind
  · show (a' : Rat) * _ + (b' : Rat) * _ = (c' : Rat)
    refine mul_left_inj' (c := (g : Rat)) ?_ g0
    grind
  · show 0 < a' ∨ (a' = 0 ∧ 0 < b')
    rcases sg with h | ⟨h, hb⟩
    · left
      rw [ea] at h
      exact ipos hg h
    · right
      rw [ea] at h
      rw [eb] at hb
      refine ⟨?_, ipos hg hb⟩
      rcases Int.mul_eq_zero.mp h with z | z <;> omega
  ) only [↓qt_eq])


end
section
open PySem PyProof.Rows L2 Evl U.Hull

section
variable {K : Fg} {cs : Cs} {gs : Gs} {φ : PyData → Prop} {A : Rs → Prop} {ε : Xw → Prop} {w : World} {W : WX}
/-! ### lines, read -/
def sgn3 (a b : Int) : Bool := decide (a < 0) || (decide (a = 0) && decide (b < 0))
def lineByF (r u : Int) (s : Sp2) : I3 :=
  let r' := if sgn3 r u = true then -r else r
  let u' := if sgn3 r u = true then -u else u
  let l := addF (mulF (r', 1) s.x) (mulF (u', 1) s.y)
  n3 (r' * l.2, u' * l.2, l.1)
theorem gd_int {n : Nat} {a : Int} (h : Bd n a) (hn : 1 ≤ n) : Gd n (a, 1) := ⟨⟨h, by unfold Bd; have := Nat.pow_le_pow_right (n := 2) (by decide) hn; show (1 : Int).natAbs < 2 ^ n; omega⟩, by simp, gI_one a⟩
def P_lineBy : Pr := fun ds A => ∃ (n : Nat) (r u : Int) (s : Sp2), ds = [.tuple [.int r, .int u], s.d] ∧ Bd n r ∧ Bd n u ∧ s.g n ∧ 1 ≤ n ∧ n ≤ 900 ∧ A (.ok (i3 (lineByF r u s)))
def t_line_by (K : Fg) : TS := (tSeq (tAsg (tVar 0) (gTup K 2 (gCons (gName 3) (gCons (gName 4) gNil))))
  (tSeq (tIfS (tOr (tTest (tOp rLtI (tVar 3) (tC (V.int 0)))) (tAnd (tTest (tOp rEq (tVar 3) (tC (V.int 0)))) (tTest (tOp rLtI (tVar 4) (tC (V.int 0)))))) (tPar 3 4 (tCons (tUn rNegI (tVar 3)) (tCons (tUn rNegI (tVar 4)) tNil))) tNext)
  (tSeq (tAsg (tCall (spP K P_plus) [] E0 (tCons (tCall (spP K P_times) [] E0 (tCons (tTup (tCons (tVar 3) (tCons (tC (V.int 1)) tNil))) (tCons (tOp (rIx K) (tVar 1) (tC (V.int 0))) tNil))) (tCons (tCall (spP K P_times) [] E0 (tCons (tTup (tCons (tVar 4) (tCons (tC (V.int 1)) tNil))) (tCons (tOp (rIx K) (tVar 1) (tC (V.int 1))) tNil))) tNil))) (gTup K 2 (gCons (gName 5) (gCons (gName 6) gNil))))
  (tSeq (tAsg (tCall (spP K P_gcd) [] E0 (tCons (tCall (spP K P_gcd) [] E0 (tCons (tOp rMulI (tVar 3) (tVar 6)) (tCons (tOp rMulI (tVar 4) (tVar 6)) tNil))) (tCons (tVar 5) tNil))) (gName 2))
  (tRet (tTup (tCons (tOp rDivI (tOp rMulI (tVar 3) (tVar 6)) (tVar 2)) (tCons (tOp rDivI (tOp rMulI (tVar 4) (tVar 6)) (tVar 2)) (tCons (tOp rDivI (tVar 5) (tVar 2)) tNil)))))))))
-- slots of line_by: 0 lean, 1 spot, 2 divisor, 3 right, 4 up, 5 last, 6 below
theorem ln_line_by : ∀ ds A, P_lineBy ds A → ds.length = 2 := fun ds A h => by obtain ⟨_, _, _, _, rfl, _⟩ := h; rfl
theorem rd_line_by {ds A} (h : P_lineBy ds A) : SW K cs W0 (t_line_by K) (frame 7 ds) (rts0 A) := qt_of (by simp (disch := with_unfolding_all
  obtain ⟨n, r, u, s, rfl, hr, hu, hs, n1, n9, h⟩ := h
  unfold t_line_by
  refine sw_seq ?_
  walk_at "s"
  refine sw_cut (fun G => ∃ r' u' : Int, (r' = (if sgn3 r u = true then -r else r) ∧ u' = if sgn3 r u = true then -u else u) ∧ G = [.d (.tuple [.int r, .int u]), .d s.d, .un, .d (.int r'), .d (.int u'), .un, .un]) ?_ ?_
  · have neg : sgn3 r u = true → -r = (if sgn3 r u = true then -r else r) ∧ -u = if sgn3 r u = true then -u else u := fun e => by rw [if_pos e, if_pos e]; exact ⟨rfl, rfl⟩
    have pos : ¬ sgn3 r u = true → r = (if sgn3 r u = true then -r else r) ∧ u = if sgn3 r u = true then -u else u := fun e => by rw [if_neg e, if_neg e]; exact ⟨rfl, rfl⟩
    walk_at "s"
    refine cnd_d (fun h1 => ?_) (fun h1 => ?_)
    · walk_at "s"
      exact ⟨-r, -u, neg (by unfold sgn3; simp [h1]), rfl⟩
    · walk_at "s"
      refine cnd_d (fun h2 => ?_) (fun h2 => ?_)
      · walk_at "s"
        refine cnd_d (fun h3 => ?_) (fun h3 => ?_)
        · walk_at "s"
          exact ⟨-r, -u, neg (by unfold sgn3; simp [h2, h3]), rfl⟩
        · walk_at "s"
          exact ⟨r, u, pos (by unfold sgn3; simp [h2, h3]), rfl⟩
      · refine cnd_f ?_
        walk_at "s"
        exact ⟨r, u, pos (by unfold sgn3; simp [h1, h2]), rfl⟩
  rintro _ ⟨r', u', ⟨er, eu⟩, rfl⟩
  have br : Bd n r' := by rw [er]; split; exact (by unfold Bd at *; omega); exact hr
  have bu : Bd n u' := by rw [eu]; split; exact (by unfold Bd at *; omega); exact hu
  have gr := gd_int br n1
  have gu := gd_int bu n1
  have s1 := hs.fst
  have s2 := hs.snd
  have el : lineByF r u s = n3 (r' * (addF (mulF (r', 1) s.x) (mulF (u', 1) s.y)).2, u' * (addF (mulF (r', 1) s.x) (mulF (u', 1) s.y)).2, (addF (mulF (r', 1) s.x) (mulF (u', 1) s.y)).1) := by unfold lineByF; rw [er, eu]
  rw [el] at h
  refine sw_seq ?_
  walk_at "s"
  refine c_times (p := (r', 1)) gr s1 (by omega) fun g1 => ?_
  walk_at "s"
  refine c_times (p := (u', 1)) gu s2 (by omega) fun g2 => ?_
  walk_at "s"
  have g3 := g1.add g2
  generalize addF (mulF (r', 1) s.x) (mulF (u', 1) s.y) = l at *
  have bl := g3.sz
  have m1 := br.mul bl.2
  have m2 := bu.mul bl.2
  have b1 := (m1.g m2)
  have b2 := (b1.mono (m := n + (n + n + (n + n) + 1) + 2) (by omega)).g (bl.1.mono (n := n + n + (n + n) + 1) (m := n + (n + n + (n + n) + 1) + 2) (by omega))
  have p2 := gI_pos (gI (r' * l.2) (u' * l.2)) l.1
  refine sw_seq ?_
  walk_at "s"
  refine ⟨br.cm bl.2 (by omega), ?_⟩
  walk_at "s"
  refine ⟨bu.cm bl.2 (by omega), ?_⟩
  walk_at "s"
  refine ⟨_, ⟨_, _, rfl, rfl⟩, ?_⟩
  walk_at "s"
  refine ⟨_, ⟨_, _, rfl, rfl⟩, ?_⟩
  walk_at "s"
  refine ⟨br.cm bl.2 (by omega), ?_⟩
  walk_at "s"
  refine ⟨Bd.dv (by omega) b2 (by omega), ?_⟩
  walk_at "s"
  refine ⟨bu.cm bl.2 (by omega), ?_⟩
  walk_at "s"
  refine ⟨Bd.dv (by omega) b2 (by omega), ?_⟩
  walk_at "s"
  refine ⟨Bd.dv (by omega) b2 (by omega), ?_⟩
  walk_at "s"
  exact h
  ) only [↓qt_eq])
def lineF (s a : Sp2) : I3 := lineByF ((subF a.y s.y).1 * (subF s.x a.x).2) ((subF s.x a.x).1 * (subF a.y s.y).2) s
def P_lineThrough : Pr := fun ds A => ∃ s a : Sp2, ds = [s.d, a.d] ∧ s.g 100 ∧ a.g 100 ∧ (s = a → A (.er (xw "Flat"))) ∧ (s ≠ a → A (.ok (i3 (lineF s a))))
def t_line_through (K : Fg) (cs : Cs) (W : WX) : TS := (tSeq (tIfS (tTest (tOp (rEqD K) (tVar 0) (tVar 1))) (tRaiseX (cs "Flat") (spIn K ["word"] gFlat) [] tNil W) tNext)
  (tSeq (tAsg (tCall (spP K P_minus) [] E0 (tCons (tOp (rIx K) (tVar 1) (tC (V.int 1))) (tCons (tOp (rIx K) (tVar 0) (tC (V.int 1))) tNil))) (gName 2))
  (tSeq (tAsg (tCall (spP K P_minus) [] E0 (tCons (tOp (rIx K) (tVar 0) (tC (V.int 0))) (tCons (tOp (rIx K) (tVar 1) (tC (V.int 0))) tNil))) (gName 3))
  (tRet (tCall (spW0 K P_lineBy) [] E0 (tCons (tTup (tCons (tOp rMulI (tOp (rIx K) (tVar 2) (tC (V.int 0))) (tOp (rIx K) (tVar 3) (tC (V.int 1)))) (tCons (tOp rMulI (tOp (rIx K) (tVar 3) (tC (V.int 0))) (tOp (rIx K) (tVar 2) (tC (V.int 1)))) tNil))) (tCons (tVar 0) tNil)))))))
-- slots of line_through: 0 spot, 1 other, 2 right, 3 up
theorem ln_line_through : ∀ ds A, P_lineThrough ds A → ds.length = 2 := fun ds A h => by obtain ⟨_, _, rfl, _⟩ := h; rfl
theorem rd_line_through {ds A} (cf1 : ClsF K cs "Flat" ["word"]) (h : P_lineThrough ds A) (W : WX) : SW K cs W (t_line_through K cs W) (frame 4 ds) (rts A) := qt_of (by simp (disch := with_unfolding_all
  obtain ⟨s, a, rfl, hs, ha, h1, h2⟩ := h
  have s1 := hs.fst
  have s2 := hs.snd
  have a1 := ha.fst
  have a2 := ha.snd
  unfold t_line_through
  refine sw_seq ?_
  walk_at "s"
  refine ⟨sh_frs (s := s.l) (by show 2 ≤ 1000; decide), sh_frs (s := a.l) (by show 2 ≤ 1000; decide), ?_⟩
  walk_at "s"
  rw [eqv_frs' s.l a.l]
  refine cnd_d (fun e => ?_) (fun e => ?_)
  · refine sw_raise0 cf1 rfl ?_
    exact h1 (sp2_eq.mp e)
  · walk_at "wi"
    have g1 := a2.sub s2
    have g2 := s1.sub a1
    refine ⟨g1.sz.1.cm g2.sz.2 (by decide), ?_⟩
    walk_at "wi"
    refine ⟨g2.sz.1.cm g1.sz.2 (by decide), ?_⟩
    walk_at "wi"
    refine ⟨402, _, _, s, rfl, g1.sz.1.mul g2.sz.2, g2.sz.1.mul g1.sz.2, hs.mono (by decide), by decide, by decide, ?_⟩
    exact h2 fun z => e (sp2_eq.mpr z)
  ) only [↓qt_eq])
-- slots of told48: 0 _law_one, 1 _law_two, 2 why
end


end
section
open PySem PyProof.Rows L2 Evl U.Hull

section
variable {K : Fg} {cs : Cs} {gs : Gs} {φ : PyData → Prop} {A : Rs → Prop} {ε : Xw → Prop} {w : World} {W : WX}
/-! ### the law's line -/
def llA (s a : Sp2) : Int := (s.y.1 * s.x.2) * (a.x.2 * a.y.2) - (s.x.2 * s.y.2) * (a.y.1 * a.x.2)
def llB (s a : Sp2) : Int := (s.x.2 * s.y.2) * (a.x.1 * a.y.2) - (s.x.1 * s.y.2) * (a.x.2 * a.y.2)
def llC (s a : Sp2) : Int := (s.y.1 * s.x.2) * (a.x.1 * a.y.2) - (s.x.1 * s.y.2) * (a.y.1 * a.x.2)
def llD (s a : Sp2) : Int := if sgn3 (llA s a) (llB s a) = true then -gI (gI (llA s a) (llB s a)) (llC s a) else gI (gI (llA s a) (llB s a)) (llC s a)
def llineF (s a : Sp2) : I3 := ((llA s a).fdiv (llD s a), (llB s a).fdiv (llD s a), (llC s a).fdiv (llD s a))
def P_lline : Pr := fun ds A => ∃ s a : Sp2, ds = [s.d, a.d] ∧ s.g 100 ∧ a.g 100 ∧ A (.ok (i3 (llineF s a)))
def t__law_line (K : Fg) : TS := (tSeq (tAsg (tCall (spP K P_hom) [] E0 (tCons (tVar 0) tNil)) (gName 2))
  (tSeq (tAsg (tCall (spP K P_hom) [] E0 (tCons (tVar 1) tNil)) (gName 3))
  (tSeq (tAsg (tOp rSubI (tOp rMulI (tOp (rIx K) (tVar 2) (tC (V.int 1))) (tOp (rIx K) (tVar 3) (tC (V.int 2)))) (tOp rMulI (tOp (rIx K) (tVar 2) (tC (V.int 2))) (tOp (rIx K) (tVar 3) (tC (V.int 1))))) (gName 4))
  (tSeq (tAsg (tOp rSubI (tOp rMulI (tOp (rIx K) (tVar 2) (tC (V.int 2))) (tOp (rIx K) (tVar 3) (tC (V.int 0)))) (tOp rMulI (tOp (rIx K) (tVar 2) (tC (V.int 0))) (tOp (rIx K) (tVar 3) (tC (V.int 2))))) (gName 5))
  (tSeq (tAsg (tOp rSubI (tOp rMulI (tOp (rIx K) (tVar 2) (tC (V.int 1))) (tOp (rIx K) (tVar 3) (tC (V.int 0)))) (tOp rMulI (tOp (rIx K) (tVar 2) (tC (V.int 0))) (tOp (rIx K) (tVar 3) (tC (V.int 1))))) (gName 6))
  (tSeq (tAsg (tCall (spP K P_gcd) [] E0 (tCons (tCall (spP K P_gcd) [] E0 (tCons (tVar 4) (tCons (tVar 5) tNil))) (tCons (tVar 6) tNil))) (gName 7))
  (tSeq (tIfS (tOr (tTest (tOp rLtI (tVar 4) (tC (V.int 0)))) (tAnd (tTest (tOp rEq (tVar 4) (tC (V.int 0)))) (tTest (tOp rLtI (tVar 5) (tC (V.int 0)))))) (tAsg (tUn rNegI (tVar 7)) (gName 7)) tNext)
  (tRet (tTup (tCons (tOp rDivI (tVar 4) (tVar 7)) (tCons (tOp rDivI (tVar 5) (tVar 7)) (tCons (tOp rDivI (tVar 6) (tVar 7)) tNil))))))))))))
-- slots of _law_line: 0 _law_one, 1 _law_two, 2 _law_first, 3 _law_second, 4 _law_a, 5 _law_b, 6 _law_c, 7 _law_divisor
theorem ln__law_line : ∀ ds A, P_lline ds A → ds.length = 2 := fun ds A h => by obtain ⟨_, _, rfl, _⟩ := h; rfl
theorem c_hom {s : Sp2} (hs : s.g 100) (k : φ (i3 (s.x.1 * s.y.2, s.y.1 * s.x.2, s.x.2 * s.y.2))) : ∃ r, P_hom [s.d] r ∧ φ r := ⟨_, ⟨s.l, rfl, .inr rfl, fun p hp => (hs p hp).sz.mono (by decide), rfl⟩, k⟩
theorem rd__law_line {ds A} (h : P_lline ds A) : SW K cs W0 (t__law_line K) (frame 8 ds) (rts0 A) := qt_of (by simp (disch := with_unfolding_all
  obtain ⟨s, a, rfl, hs, ha, h⟩ := h
  have sx := hs.fst.sz
  have sy := hs.snd.sz
  have ax := ha.fst.sz
  have ay := ha.snd.sz
  have h0 := sx.1.mul sy.2
  have h1 := sy.1.mul sx.2
  have h2 := sx.2.mul sy.2
  have k0 := ax.1.mul ay.2
  have k1 := ay.1.mul ax.2
  have k2 := ax.2.mul ay.2
  have bA : Bd 401 (llA s a) := (h1.mul k2).sub (h2.mul k1)
  have bB : Bd 401 (llB s a) := (h2.mul k0).sub (h0.mul k2)
  have bC : Bd 401 (llC s a) := (h1.mul k0).sub (h0.mul k1)
  have bG : Bd 403 (gI (gI (llA s a) (llB s a)) (llC s a)) := (bA.g bB).g (bC.mono (by decide))
  have pG := gI_pos (gI (llA s a) (llB s a)) (llC s a)
  have bD : Bd 403 (llD s a) ∧ llD s a ≠ 0 := by
    unfold llD
    split
    · exact ⟨bG.neg, by omega⟩
    · exact ⟨bG, by omega⟩
  unfold t__law_line
  refine sw_seq ?_
  walk_at "s"
  refine c_hom hs ?_
  walk_at "s"
  refine sw_seq ?_
  walk_at "s"
  refine c_hom ha ?_
  walk_at "s"
  refine sw_cut (fun G => G = [.d s.d, .d a.d, .d (i3 (s.x.1 * s.y.2, s.y.1 * s.x.2, s.x.2 * s.y.2)), .d (i3 (a.x.1 * a.y.2, a.y.1 * a.x.2, a.x.2 * a.y.2)), .d (.int (llA s a)), .un, .un, .un]) ?_ ?_
  · walk_at "s"
    refine ⟨h1.cm k2 (by decide), ?_⟩
    walk_at "s"
    refine ⟨h2.cm k1 (by decide), ?_⟩
    walk_at "s"
    rfl
  rintro _ rfl
  refine sw_cut (fun G => G = [.d s.d, .d a.d, .d (i3 (s.x.1 * s.y.2, s.y.1 * s.x.2, s.x.2 * s.y.2)), .d (i3 (a.x.1 * a.y.2, a.y.1 * a.x.2, a.x.2 * a.y.2)), .d (.int (llA s a)), .d (.int (llB s a)), .un, .un]) ?_ ?_
  · walk_at "s"
    refine ⟨h2.cm k0 (by decide), ?_⟩
    walk_at "s"
    refine ⟨h0.cm k2 (by decide), ?_⟩
    walk_at "s"
    rfl
  rintro _ rfl
  refine sw_cut (fun G => G = [.d s.d, .d a.d, .d (i3 (s.x.1 * s.y.2, s.y.1 * s.x.2, s.x.2 * s.y.2)), .d (i3 (a.x.1 * a.y.2, a.y.1 * a.x.2, a.x.2 * a.y.2)), .d (.int (llA s a)), .d (.int (llB s a)), .d (.int (llC s a)), .un]) ?_ ?_
  · walk_at "s"
    refine ⟨h1.cm k0 (by decide), ?_⟩
    walk_at "s"
    refine ⟨h0.cm k1 (by decide), ?_⟩
    walk_at "s"
    rfl
  rintro _ rfl
  refine sw_seq ?_
  walk_at "s"
  refine ⟨_, ⟨_, _, rfl, rfl⟩, ?_⟩
  walk_at "s"
  refine ⟨_, ⟨_, _, rfl, rfl⟩, ?_⟩
  walk_at "s"
  refine sw_cut (fun G => G = [.d s.d, .d a.d, .d (i3 (s.x.1 * s.y.2, s.y.1 * s.x.2, s.x.2 * s.y.2)), .d (i3 (a.x.1 * a.y.2, a.y.1 * a.x.2, a.x.2 * a.y.2)), .d (.int (llA s a)), .d (.int (llB s a)), .d (.int (llC s a)), .d (.int (llD s a))]) ?_ ?_
  · have neg : sgn3 (llA s a) (llB s a) = true → -gI (gI (llA s a) (llB s a)) (llC s a) = llD s a := fun e => by unfold llD; rw [if_pos e]
    have pos : ¬ sgn3 (llA s a) (llB s a) = true → gI (gI (llA s a) (llB s a)) (llC s a) = llD s a := fun e => by unfold llD; rw [if_neg e]
    walk_at "s"
    refine cnd_d (fun h1 => ?_) (fun h1 => ?_)
    · walk_at "s"
      rw [neg (by unfold sgn3; simp [h1])]
      rfl
    · walk_at "s"
      refine cnd_d (fun h2 => ?_) (fun h2 => ?_)
      · walk_at "s"
        refine cnd_d (fun h3 => ?_) (fun h3 => ?_)
        · walk_at "s"
          rw [neg (by unfold sgn3; simp [h2, h3])]
          rfl
        · walk_at "s"
          rw [pos (by unfold sgn3; simp [h2, h3])]
          rfl
      · refine cnd_f ?_
        walk_at "s"
        rw [pos (by unfold sgn3; simp [h1, h2])]
        rfl
  rintro _ rfl
  walk_at "s"
  refine ⟨Bd.dv bD.2 bD.1 (by decide), ?_⟩
  walk_at "s"
  refine ⟨Bd.dv bD.2 bD.1 (by decide), ?_⟩
  walk_at "s"
  refine ⟨Bd.dv bD.2 bD.1 (by decide), ?_⟩
  walk_at "s"
  exact h
  ) only [↓qt_eq])
end


end
section
open PySem PyProof.Rows L2 Evl U.Hull

section
variable {K : Fg} {cs : Cs} {gs : Gs} {φ : PyData → Prop} {A : Rs → Prop} {ε : Xw → Prop} {w : World} {W : WX}
/-! ### columns -/
structure CR where
  p : Fr
  a : Int
  b : Int
/-! ### weights on the line -/
end


end
section
open PySem PyProof.Rows L2 Evl U.Hull

section
variable {K : Fg} {cs : Cs} {gs : Gs} {φ : PyData → Prop} {A : Rs → Prop} {ε : Xw → Prop} {w : World} {W : WX}
-- slots of least_column: 0 rows, 1 found, 2 ahead, 3 place, 4 at, 5 behind
-- slots of weight_on: 0 column, 1 place, 2 found, 3 row, 4 at, 5 behind, 6 side
/-! ### bodies of the line -/
theorem slt1 (f g : Fr) : sLt [f] [g] ↔ val f < val g := ⟨fun h => by
  rcases h with k | ⟨_, k⟩
  · exact k
  · exact k.elim, fun h => .inl h⟩
def hd1 (s : Spot) : Fr := s.headD (0, 1)
-- slots of column_of: 0 lot, 1 places, 2 found, 3 spot, 4 at, 5 stay, 6 corner, 7 weight, 8 body
-- slots of told36: 0 _law_lot, 1 why
/-! ### the law's own column -/
-- slots of _law_column: 0 _law_rows_here, 1 _law_found, 2 _law_ahead, 3 _law_places, 4 _law_at, 5 _law_here, 6 _law_rear
end


end
section
open PySem PyProof.Rows L2 Evl U.Hull
section
/-! ### columns mixed -/
end


end
section
open PySem PyProof.Rows L2 Evl U.Hull

section
variable {K : Fg} {cs : Cs} {gs : Gs} {φ : PyData → Prop} {A : Rs → Prop} {ε : Xw → Prop} {w : World} {W : WX}
-- slots of weight_after: 0 column, 1 place, 2 found, 3 row, 4 at, 5 behind
/-! ### the ways to mix -/
-- slots of _law_mix: 0 _law_by, 1 _law_one, 2 _law_other
end


end
section
open PySem PyProof.Rows L2 Evl U.Hull
section
/-! ### what a full column tells -/
end


end
section
open PySem PyProof.Rows L2 Evl U.Hull
section
/-! ### the law's column by more places than its own -/
end


end
section
open PySem PyProof.Rows L2 Evl U.Hull
section
/-! ### the law's mixed rows -/
end


end
section
open PySem PyProof.Rows L2 Evl U.Hull
section
/-! ### the least column of a function of worths -/
end


end
section
open PySem PyProof.Rows L2 Evl U.Hull
section
/-! ### sides that are not upright, and what a body has on an upright -/
def frQ (x : Rat) : Fr := (x.num, (x.den : Int))
theorem val_frQ (x : Rat) : val (frQ x) = x := by
  unfold val frQ
  simp only
  show (x.num : Rat) / ((x.den : Int) : Rat) = x
  rw [← Rat.divInt_eq_div, Rat.num_divInt_den]
end


end
section
open PySem PyProof.Rows L2 Evl U.Hull
section
/-! ### between two breaks nothing changes -/
/-- lines with weights on them and above them -/
structure BR where
  l : Fr × Fr
  on : Int
  ab : Int
  deriving DecidableEq
end


end
section
open PySem PyProof.Rows L2 Evl U.Hull
section
/-! ### stacks, plain -/
structure SRow where
  p : Fr
  at_ : List CR
  be : List BR
instance instDecidableEqCR : DecidableEq CR := fun u v => if h : u.p = v.p ∧ u.a = v.a ∧ u.b = v.b then .isTrue (by cases u; cases v; simp only at h; obtain ⟨h1, h2, h3⟩ := h; subst h1; subst h2; subst h3; rfl) else .isFalse fun e => h (by subst e; exact ⟨rfl, rfl, rfl⟩)
/-! ### one weighing has one stack -/
end


end
section
open PySem PyProof.Rows L2 Evl U.Hull

section
variable {K : Fg} {cs : Cs} {gs : Gs} {φ : PyData → Prop} {A : Rs → Prop} {ε : Xw → Prop} {w : World} {W : WX}
/-! ### stacks as data -/
-- slots of height: 0 line, 1 place
-- slots of told_there: 0 behind, 1 place, 2 line, 3 on, 4 above
-- slots of met_at: 0 line, 1 other
-- slots of within: 0 place, 1 low, 2 high
/-! ### shapes -/
/-! ### needless rows left out -/
-- slots of least_stack: 0 rows, 1 found, 2 ahead, 3 place, 4 at, 5 behind
end


end
section
open PySem PyProof.Rows L2 Evl U.Hull

section
variable {K : Fg} {cs : Cs} {gs : Gs} {φ : PyData → Prop} {A : Rs → Prop} {ε : Xw → Prop} {w : World} {W : WX}
/-! ### what a stack tells -/
-- slots of upright: 0 stack, 1 place, 2 found, 3 row, 4 at, 5 behind, 6 side
-- slots of weight_in: 0 stack, 1 spot
end


end
section
open PySem PyProof.Rows L2 Evl U.Hull

section
variable {K : Fg} {cs : Cs} {gs : Gs} {φ : PyData → Prop} {A : Rs → Prop} {ε : Xw → Prop} {w : World} {W : WX}
/-! ### sides that are not upright, each once -/
-- slots of edges_of: 0 bodies, 1 found, 2 body, 3 side, 4 low, 5 high, 6 lean, 7 line
end


end
section
open PySem PyProof.Rows L2 Evl U.Hull

section
variable {K : Fg} {cs : Cs} {gs : Gs} {φ : PyData → Prop} {A : Rs → Prop} {ε : Xw → Prop} {w : World} {W : WX}
/-! ### where something can change -/
-- slots of breaks_of: 0 bodies, 1 edges, 2 found, 3 at, 4 body, 5 corner, 6 line, 7 low, 8 high, 9 other, 10 other_low, 11 other_high, 12 place, 13 spot
end


end
section
open PySem PyProof.Rows L2 Evl U.Hull

section
variable {K : Fg} {cs : Cs} {gs : Gs} {φ : PyData → Prop} {A : Rs → Prop} {ε : Xw → Prop} {w : World} {W : WX}
/-! ### lines with small numbers -/
/-! ### bodies fit for stacks -/
end


end
section
open PySem PyProof.Rows L2 Evl U.Hull

section
variable {K : Fg} {cs : Cs} {gs : Gs} {φ : PyData → Prop} {A : Rs → Prop} {ε : Xw → Prop} {w : World} {W : WX}
/-! ### what a body has on an upright -/
-- slots of reach: 0 body, 1 place, 2 found, 3 line, 4 low, 5 high, 6 corner
/-! ### what a lot has on an upright -/
-- slots of lot_there: 0 lot, 1 place, 2 rows, 3 weight, 4 body, 5 row
end


end
section
open PySem PyProof.Rows L2 Evl U.Hull

section
variable {K : Fg} {cs : Cs} {gs : Gs} {φ : PyData → Prop} {A : Rs → Prop} {ε : Xw → Prop} {w : World} {W : WX}
/-! ### a column's places told by lines -/
def ekF (f : Fr) : List PyData := inz [f.1, f.2]
theorem ekF_inj (f g : Fr) (h : kk (ekF f) = kk (ekF g)) : f = g := by
  have := kk_inj _ _ h
  injection this with a b
  injection b with b _
  exact Prod.ext a b
-- slots of by_lines: 0 column, 1 lines, 2 place, 3 line_at, 4 line, 5 high, 6 on, 7 above
/-! ### the column of a lot on an upright, plain -/
end


end
section
open PySem PyProof.Rows L2 Evl U.Hull

section
variable {K : Fg} {cs : Cs} {gs : Gs} {φ : PyData → Prop} {A : Rs → Prop} {ε : Xw → Prop} {w : World} {W : WX} {fv : Nat → Addr}
/-! ### the six ways -/
-- slots of sum_of_two: 0 one, 1 other
-- slots of rest_of_two: 0 one, 1 other
-- slots of product_of_two: 0 one, 1 other
-- slots of least_of_two: 0 one, 1 other
-- slots of most_of_two: 0 one, 1 other
-- slots of apart_of_two: 0 one, 1 other
/-! ### the def of a way -/
-- slots of mixer_of: 0 way
/-! ### two columns mixed -/
end


end
section
open PySem PyProof.Rows L2 Evl U.Hull

section
variable {K : Fg} {cs : Cs} {gs : Gs} {φ : PyData → Prop} {A : Rs → Prop} {ε : Xw → Prop} {w : World} {W : WX} {fv : Nat → Addr}
-- slots of mixed_columns: 0 one, 1 other, 2 way, 3 mixer, 4 found, 5 place, 6 at, 7 row
end


end
section
open PySem PyProof.Rows L2 Evl U.Hull

section
variable {K : Fg} {cs : Cs} {gs : Gs} {φ : PyData → Prop} {A : Rs → Prop} {ε : Xw → Prop} {w : World} {W : WX} {fv : Nat → Addr}
-- slots of told44: 0 _law_one, 1 _law_other, 2 _law_by, 3 why
/-! ### bounds -/
-- slots of ldue44: 0 _law_rows_here, 1 _law_others, 2 _law_by, 3 _law_found, 4 _law_ahead, 5 _law_places, 6 _law_at, 7 _law_here, 8 _law_rear, 9 _law_gap
end


end
section
open PySem PyProof.Rows L2 Evl U.Hull
section
/-! ### a lot with its edges -/
end


end
section
open PySem PyProof.Rows L2 Evl U.Hull
section
/-! ### the whole stack, plain -/
end


end
section
open PySem PyProof.Rows L2 Evl U.Hull
section
/-! ### a common number of the breaks -/
end


end
section
open PySem PyProof.Rows L2 Evl U.Hull
section
/-! ### how much a stack holds -/
end


end
section
open PySem PyProof.Rows L2 Evl U.Hull

section
variable {K : Fg} {cs : Cs} {gs : Gs} {φ : PyData → Prop} {A : Rs → Prop} {ε : Xw → Prop} {w : World} {W : WX}
-- slots of stack_of: 0 lot, 1 bodies, 2 edges, 3 places, 4 found, 5 at, 6 place, 7 behind, 8 mid, 9 lines, 10 weight, 11 body, 12 line, 13 low, 14 high
end


end
section
open PySem PyProof.Rows L2 Evl U.Hull
section
/-! ### columns mixed, as functions -/
/-! ### lines that keep their order -/
/-! ### what is just behind a place -/
end


end
section
open PySem PyProof.Rows L2 Evl U.Hull
section
/-! ### stacks mixed, plain -/
end


end
section
open PySem PyProof.Rows L2 Evl U.Hull
section
/-! ### small lots are fit for stacks -/
end


end
section
open PySem PyProof.Rows L2 Evl U.Hull
section
end


end
section
open PySem PyProof.Rows L2 Evl U.Hull
section
/-! ### the places of two stacks mixed -/
end


end
section
open PySem PyProof.Rows L2 Evl U.Hull

section
variable {K : Fg} {cs : Cs} {gs : Gs} {φ : PyData → Prop} {A : Rs → Prop} {ε : Xw → Prop} {w : World} {W : WX}
-- slots of behind_of: 0 stack, 1 place, 2 found, 3 row, 4 at, 5 behind
-- slots of mixed_places: 0 one, 1 other, 2 places, 3 found, 4 low, 5 high, 6 line, 7 on, 8 above, 9 spot, 10 row, 11 beside, 12 beside_on, 13 beside_above, 14 place
end


end
section
open PySem PyProof.Rows L2 Evl U.Hull

section
variable {K : Fg} {cs : Cs} {gs : Gs} {φ : PyData → Prop} {A : Rs → Prop} {ε : Xw → Prop} {w : World} {W : WX} {fv : Nat → Addr}
-- slots of mixed_stacks: 0 one, 1 other, 2 way, 3 places, 4 found, 5 at, 6 place, 7 behind, 8 mid, 9 lines, 10 row
end


end
section
open PySem PyProof.Rows L2 Evl U.Hull
section
/-! ### sides of what two bodies have in common lie along sides of these -/
end


end
section
open PySem PyProof.Rows L2 Evl U.Hull
section
/-! ### what two lots have in common is fit for stacks -/
end


end
section
open PySem PyProof.Rows L2 Evl U.Hull

section
variable {K : Fg} {cs : Cs} {gs : Gs} {φ : PyData → Prop} {A : Rs → Prop} {ε : Xw → Prop} {w : World} {W : WX} {fv : Nat → Addr}
-- slots of mixed: 0 one, 1 other, 2 way
-- slots of told45: 0 _law_one, 1 _law_other, 2 _law_by, 3 why
end


end
section
open PySem PyProof.Rows L2 Evl U.Hull

section
variable {K : Fg} {cs : Cs} {gs : Gs} {φ : PyData → Prop} {A : Rs → Prop} {ε : Xw → Prop} {w : World} {W : WX}
/-! ### the law's rows of small spots, on the lattice -/
-- slots of threesT: 0 _law_bag_here, 1 _law_rank, 2 _law_limit, 3 _law_found, 4 _law_at, 5 _law_spots, 6 _law_corner
end


end
section
open PySem PyProof.Rows L2 Evl U.Hull
section
variable {φ : PyData → Prop} {ε : Xw → Prop}
/-! ### lots added, scaled and met, and their stacks -/
end


end
section
open PySem PyProof.Rows L2 Evl U.Hull

section
variable {K : Fg} {cs : Cs} {gs : Gs} {φ : PyData → Prop} {A : Rs → Prop} {ε : Xw → Prop} {w : World} {W : WX}
-- slots of someF: 0 _law_bag_here, 1 _law_rows_here, 2 _law_rank, 3 _law_many, 4 _law_spots_here, 5 _law_at
end


end
section
open PySem PyProof.Rows L2 Evl U.Hull
section
/-! ### the first spot that tells two lots apart, plain -/
end


end
section
open PySem PyProof.Rows L2 Evl U.Hull

section
variable {K : Fg} {cs : Cs} {gs : Gs} {φ : PyData → Prop} {A : Rs → Prop} {ε : Xw → Prop} {w : World} {W : WX} {fv : Nat → Addr}
/-! ### lots of the line as functions -/
noncomputable def g1 (l : List Row) (y : Rat) : Int := wat 1 l [frQ y]
/-! ### the program's way -/
-- slots of middle_of: 0 column, 1 at
-- slots of first_place: 0 column
end


end
section
open PySem PyProof.Rows L2 Evl U.Hull
section
/-! ### lines through a spot, in the order of turning, plain -/
theorem lnT_uniq2 {k : Spot × Spot} {v w : I3} (pn0 : pt k.2 ≠ pt k.1) (hv : LnT k v) (hw : LnT k w) : v = w := qt_of (by simp (disch := with_unfolding_all
  obtain ⟨a, b, c⟩ := v
  obtain ⟨a', b', c'⟩ := w
  obtain ⟨v1, v2, v3, v4⟩ := hv
  obtain ⟨w1, w2, w3, w4⟩ := hw
  have pn := ne_of_pt pn0
  simp only at v1 v2 v3 v4 w1 w2 w3 w4
  -- all three are proportional
  have q1 : (a : Rat) * (b' : Rat) = (a' : Rat) * (b : Rat) := by
    generalize (pt k.1).x = x1 at *
    generalize (pt k.1).y = y1 at *
    generalize (pt k.2).x = x2 at *
    generalize (pt k.2).y = y2 at *
    have d1 : (a : Rat) * (x2 - x1) + (b : Rat) * (y2 - y1) = 0 := by grind
    have d2 : (a' : Rat) * (x2 - x1) + (b' : Rat) * (y2 - y1) = 0 := by grind
    rcases pn with p | p
    · refine mul_left_inj' (c := x2 - x1) ?_ p; grind
    · refine mul_left_inj' (c := y2 - y1) ?_ p; grind
  have q2 : (a : Rat) * (c' : Rat) = (a' : Rat) * (c : Rat) := by grind
  have q3 : (b : Rat) * (c' : Rat) = (b' : Rat) * (c : Rat) := by grind
  have i1 : a * b' = a' * b := by exact_mod_cast q1
  have i2 : a * c' = a' * c := by exact_mod_cast q2
  have i3 : b * c' = b' * c := by exact_mod_cast q3
  have anti : ∀ {x y : Int}, 0 < x → 0 < y → x ∣ y → y ∣ x → x = y := fun hx hy h1 h2 => Int.le_antisymm (Int.le_of_dvd hy h1) (Int.le_of_dvd hx h2)
  rcases v3 with va | ⟨va, vb⟩
  · have ha' : 0 < a' := by
      rcases w3 with h | ⟨h, hb⟩
      · exact h
      · rw [h] at i1
        have : a * b' = 0 := by rw [i1, Int.zero_mul]
        rcases Int.mul_eq_zero.mp this with z | z <;> omega
    have d1 : a ∣ a' := dvd_of v4 (Int.dvd_mul_left _ _) ⟨b', i1.symm⟩ ⟨c', i2.symm⟩
    have d2 : a' ∣ a := dvd_of w4 (Int.dvd_mul_left _ _) ⟨b, i1⟩ ⟨c, i2⟩
    have e := anti va ha' d1 d2
    subst e
    have e2 := Int.eq_of_mul_eq_mul_left (by omega) i1
    have e3 := Int.eq_of_mul_eq_mul_left (by omega) i2
    rw [e2, e3]
  · subst va
    have ha' : a' = 0 := by
      have : a' * b = 0 := by rw [← i1, Int.zero_mul]
      rcases Int.mul_eq_zero.mp this with z | z <;> omega
    subst ha'
    have hb' : 0 < b' := by rcases w3 with h | ⟨_, h⟩ <;> omega
    have d1 : b ∣ b' := dvd_of v4 (by rw [Int.mul_zero]; exact Int.dvd_zero _) (Int.dvd_mul_left _ _) ⟨c', i3.symm⟩
    have d2 : b' ∣ b := dvd_of w4 (by rw [Int.mul_zero]; exact Int.dvd_zero _) (Int.dvd_mul_left _ _) ⟨c, i3⟩
    have e := anti vb hb' d1 d2
    subst e
    have e3 := Int.eq_of_mul_eq_mul_left (by omega) i3
    rw [e3]
  ) only [↓qt_eq])
theorem lineF_ln2 {s a : Sp2} (hs : s.g 100) (ha : a.g 100) (nz : ¬ (a.x = s.x ∧ a.y = s.y)) : LnT (s.l, a.l) (lineF s a) := qt_of (by simp (disch := with_unfolding_all
  have g1 := ha.snd.sub hs.snd
  have g2 := hs.fst.sub ha.fst
  have v1 := val_sub ha.snd hs.snd
  have v2 := val_sub hs.fst ha.fst
  have m1 := val_mul_den g1
  have m2 := val_mul_den g2
  have px : pt s.l = ⟨val s.x, val s.y⟩ := rfl
  have pa : pt a.l = ⟨val a.x, val a.y⟩ := rfl
  unfold lineF lineByF
  generalize hr : (subF a.y s.y).1 * (subF s.x a.x).2 = r
  generalize hu : (subF s.x a.x).1 * (subF a.y s.y).2 = u
  have q1 := g1.qpos
  have q2 := g2.qpos
  -- (r, u) stands as the line's first two numbers
  have er : (r : Rat) = (((subF a.y s.y).2 : Rat) * ((subF s.x a.x).2 : Rat)) * (val a.y - val s.y) := by rw [← hr, Rat.intCast_mul, ← m1, v1]; grind
  have eu : (u : Rat) = (((subF a.y s.y).2 : Rat) * ((subF s.x a.x).2 : Rat)) * (val s.x - val a.x) := by rw [← hu, Rat.intCast_mul, ← m2, v2]; grind
  have perp : (r : Rat) * (val a.x - val s.x) + (u : Rat) * (val a.y - val s.y) = 0 := by rw [er, eu]; grind
  have n0 : r ≠ 0 ∨ u ≠ 0 := by
    apply Classical.byContradiction
    intro hn
    have z1 : r = 0 := by omega
    have z2 : u = 0 := by omega
    rw [z1] at er
    rw [z2] at eu
    have qq := Rat.mul_pos q1 q2
    have y0 := mul_eq0 (a := ((subF a.y s.y).2 : Rat) * ((subF s.x a.x).2 : Rat)) (b := val a.y - val s.y) er.symm (by grind)
    have x0 := mul_eq0 (a := ((subF a.y s.y).2 : Rat) * ((subF s.x a.x).2 : Rat)) (b := val s.x - val a.x) eu.symm (by grind)
    exact nz ⟨(val_inj hs.fst ha.fst (by grind)).symm, (val_inj hs.snd ha.snd (by grind)).symm⟩
  obtain ⟨r', u', e1, e2, perp', sg'⟩ : ∃ r' u' : Int, (if sgn3 r u = true then -r else r) = r' ∧ (if sgn3 r u = true then -u else u) = u' ∧ (r' : Rat) * (val a.x - val s.x) + (u' : Rat) * (val a.y - val s.y) = 0 ∧ (0 < r' ∨ (r' = 0 ∧ 0 < u')) := by
    by_cases c : sgn3 r u = true
    · refine ⟨-r, -u, if_pos c, if_pos c, ?_, ?_⟩
      · rw [Rat.intCast_neg, Rat.intCast_neg]; grind
      · unfold sgn3 at c
        simp only [Bool.or_eq_true, Bool.and_eq_true, decide_eq_true_eq] at c
        omega
    · refine ⟨r, u, if_neg c, if_neg c, perp, ?_⟩
      unfold sgn3 at c
      simp only [Bool.or_eq_true, Bool.and_eq_true, decide_eq_true_eq] at c
      omega
  simp only [e1, e2]
  obtain ⟨N, bN1, bN2⟩ : ∃ N, Bd N r' ∧ Bd N u' := ⟨r'.natAbs + u'.natAbs, Nat.lt_of_le_of_lt (by omega) Nat.lt_two_pow_self, Nat.lt_of_le_of_lt (by omega) Nat.lt_two_pow_self⟩
  have gr := gd_int (bN1.mono (Nat.le_succ N)) (Nat.le_add_left 1 N)
  have gu := gd_int (bN2.mono (Nat.le_succ N)) (Nat.le_add_left 1 N)
  have gl := (gr.mul hs.fst).add (gu.mul hs.snd)
  have vl := val_add (gr.mul hs.fst) (gu.mul hs.snd)
  have i1 : ∀ z : Int, val (z, 1) = (z : Rat) := fun z => by unfold val; show (z : Rat) / ((1 : Int) : Rat) = _; rw [show ((1 : Int) : Rat) = 1 from rfl]; grind
  rw [val_mul gr hs.fst, val_mul gu hs.snd, i1, i1] at vl
  have ml := val_mul_den gl
  have ql := gl.pos
  generalize addF (mulF (r', 1) s.x) (mulF (u', 1) s.y) = l at *
  refine n3_lnT ?_ ?_ ?_
  · rw [px, Rat.intCast_mul, Rat.intCast_mul, ← ml, vl]; grind
  · rw [pa, Rat.intCast_mul, Rat.intCast_mul, ← ml, vl]; grind
  · rcases sg' with h | ⟨h, h'⟩
    · left; exact Int.mul_pos h ql
    · right; exact ⟨by rw [h, Int.zero_mul], Int.mul_pos h' ql⟩
  ) only [↓qt_eq])
theorem llineF_ln2 {s a : Sp2} (hs : s.g 100) (ha : a.g 100) (nz : ¬ (a.x = s.x ∧ a.y = s.y)) : LnT (s.l, a.l) (llineF s a) := qt_of (by simp (disch := with_unfolding_all
  have px : pt s.l = ⟨val s.x, val s.y⟩ := rfl
  have pa : pt a.l = ⟨val a.x, val a.y⟩ := rfl
  have m1 := val_mul_den hs.fst
  have m2 := val_mul_den hs.snd
  have m3 := val_mul_den ha.fst
  have m4 := val_mul_den ha.snd
  have q1 := hs.fst.qpos
  have q2 := hs.snd.qpos
  have q3 := ha.fst.qpos
  have q4 := ha.snd.qpos
  have eA : (llA s a : Rat) = ((s.x.2 : Rat) * (s.y.2 : Rat) * ((a.x.2 : Rat) * (a.y.2 : Rat))) * (val s.y - val a.y) := by
    unfold llA
    rw [Rat.intCast_sub, Rat.intCast_mul, Rat.intCast_mul, Rat.intCast_mul, Rat.intCast_mul, Rat.intCast_mul, Rat.intCast_mul, ← m2, ← m4]; grind
  have eB : (llB s a : Rat) = ((s.x.2 : Rat) * (s.y.2 : Rat) * ((a.x.2 : Rat) * (a.y.2 : Rat))) * (val a.x - val s.x) := by
    unfold llB
    rw [Rat.intCast_sub, Rat.intCast_mul, Rat.intCast_mul, Rat.intCast_mul, Rat.intCast_mul, Rat.intCast_mul, Rat.intCast_mul, ← m1, ← m3]; grind
  have eC : (llC s a : Rat) = ((s.x.2 : Rat) * (s.y.2 : Rat) * ((a.x.2 : Rat) * (a.y.2 : Rat))) * (val s.y * val a.x - val s.x * val a.y) := by
    unfold llC
    rw [Rat.intCast_sub, Rat.intCast_mul, Rat.intCast_mul, Rat.intCast_mul, Rat.intCast_mul, Rat.intCast_mul, Rat.intCast_mul, ← m1, ← m2, ← m3, ← m4]; grind
  have qq := Rat.mul_pos (Rat.mul_pos q1 q2) (Rat.mul_pos q3 q4)
  have n0 : llA s a ≠ 0 ∨ llB s a ≠ 0 := by
    apply Classical.byContradiction
    intro hn
    have z1 : llA s a = 0 := by omega
    have z2 : llB s a = 0 := by omega
    rw [z1] at eA
    rw [z2] at eB
    have y0 := mul_eq0 (b := val s.y - val a.y) eA.symm (by grind)
    have x0 := mul_eq0 (b := val a.x - val s.x) eB.symm (by grind)
    exact nz ⟨val_inj ha.fst hs.fst (by grind), val_inj ha.snd hs.snd (by grind)⟩
  obtain ⟨g, a', b', c', hg, eg, ea, eb, ec, en, pr⟩ := n3_spec (c := llC s a) n0
  have g0 : (g : Rat) ≠ 0 := qne (by omega)
  have fd : ∀ {x x' : Int}, x = g * x' → x.fdiv g = x' := fun {x x'} e => by
    rw [e, Int.fdiv_eq_ediv_of_nonneg _ (Int.le_of_lt hg)]
    exact Int.mul_ediv_cancel_left _ (by omega)
  have fn : ∀ {x x' : Int}, x = g * x' → x.fdiv (-g) = -x' := fun {x x'} e => by
    have := Int.neg_fdiv_neg (-x) g
    rw [Int.neg_neg] at this
    rw [this]
    exact fd (by rw [e, Int.mul_neg])
  have l1 : (llA s a : Rat) * val s.x + (llB s a : Rat) * val s.y = (llC s a : Rat) := by rw [eA, eB, eC]; grind
  have l2 : (llA s a : Rat) * val a.x + (llB s a : Rat) * val a.y = (llC s a : Rat) := by rw [eA, eB, eC]; grind
  rw [ea, eb, ec, Rat.intCast_mul, Rat.intCast_mul, Rat.intCast_mul] at l1 l2
  have k1 : (a' : Rat) * val s.x + (b' : Rat) * val s.y = (c' : Rat) := by refine mul_left_inj' (c := (g : Rat)) ?_ g0; grind
  have k2 : (a' : Rat) * val a.x + (b' : Rat) * val a.y = (c' : Rat) := by refine mul_left_inj' (c := (g : Rat)) ?_ g0; grind
  unfold llineF llD
  by_cases c : sgn3 (llA s a) (llB s a) = true
  · rw [if_pos c, eg, fn ea, fn eb, fn ec]
    refine ⟨?_, ?_, ?_, fun d d1 d2 d3 => pr d (Int.dvd_neg.mp d1) (Int.dvd_neg.mp d2) (Int.dvd_neg.mp d3)⟩
    · rw [px]; simp only [Rat.intCast_neg]; grind
    · rw [pa]; simp only [Rat.intCast_neg]; grind
    · unfold sgn3 at c
      simp only [Bool.or_eq_true, Bool.and_eq_true, decide_eq_true_eq] at c
      show 0 < -a' ∨ (-a' = 0 ∧ 0 < -b')
      rcases c with c | ⟨c, c2⟩
      · left
        exact ipos hg (by rw [Int.mul_neg, ← ea]; omega)
      · right
        refine ⟨?_, ipos hg (by rw [Int.mul_neg, ← eb]; omega)⟩
        rw [ea] at c
        rcases Int.mul_eq_zero.mp c with z | z <;> omega
  · rw [if_neg c, eg, fd ea, fd eb, fd ec]
    refine ⟨by rw [px]; exact k1, by rw [pa]; exact k2, ?_, pr⟩
    unfold sgn3 at c
    simp only [Bool.or_eq_true, Bool.and_eq_true, decide_eq_true_eq] at c
    show 0 < a' ∨ (a' = 0 ∧ 0 < b')
    by_cases z : llA s a = 0
    · right
      refine ⟨?_, ipos hg (by rw [← eb]; omega)⟩
      rw [ea] at z
      rcases Int.mul_eq_zero.mp z with z | z <;> omega
    · left
      exact ipos hg (by rw [← ea]; omega)
  ) only [↓qt_eq])
abbrev cr3 (v w : I3) : Int := v.1 * w.2.1 - v.2.1 * w.1
abbrev Sg (v : I3) : Prop := 0 < v.1 ∨ (v.1 = 0 ∧ 0 < v.2.1)
/-- a line through a spot -/
structure LT (s : Sp2) (v : I3) : Prop where
  e : (v.1 : Rat) * val s.x + (v.2.1 : Rat) * val s.y = (v.2.2 : Rat)
  sg : Sg v
  pr : ∀ d : Int, d ∣ v.1 → d ∣ v.2.1 → d ∣ v.2.2 → d ∣ 1
theorem lt_of {s a : Sp2} {v : I3} (h : LnT (s.l, a.l) v) : LT s v := ⟨h.e1, h.sg, h.pr⟩
theorem lt_uniq {s : Sp2} {u v : I3} (hu : LT s u) (hv : LT s v) (z : cr3 u v = 0) : u = v := qt_of (by simp (disch := with_unfolding_all
  obtain ⟨a, b, c⟩ := u
  obtain ⟨a', b', c'⟩ := v
  have e1 := hu.e
  have e2 := hv.e
  have z : a * b' - b * a' = 0 := z
  have zq : (a : Rat) * (b' : Rat) - (b : Rat) * (a' : Rat) = 0 := by exact_mod_cast z
  simp only at e1 e2
  have pe : pt [frQ (val s.x - (b : Rat)), frQ (val s.y + (a : Rat))] = ⟨val s.x - (b : Rat), val s.y + (a : Rat)⟩ := by
    show (⟨val _, val _⟩ : Pt) = _
    rw [val_frQ, val_frQ]
  have ps : pt s.l = ⟨val s.x, val s.y⟩ := rfl
  have sg : 0 < a ∨ (a = 0 ∧ 0 < b) := hu.sg
  refine lnT_uniq2 (k := (s.l, [frQ (val s.x - (b : Rat)), frQ (val s.y + (a : Rat))])) (fun e => ?_) ⟨?_, ?_, hu.sg, hu.pr⟩ ⟨?_, ?_, hv.sg, hv.pr⟩
  · rw [pe, ps] at e
    injection e with ex ey
    have a0 : (a : Rat) = 0 := by grind
    have b0 : (b : Rat) = 0 := by grind
    have a1 : a = 0 := by exact_mod_cast a0
    have b1 : b = 0 := by exact_mod_cast b0
    omega
  · rw [ps]; exact e1
  · rw [pe]; simp only; grind
  · rw [ps]; exact e2
  · rw [pe]; simp only; grind
  ) only [↓qt_eq])
/-- lines in the order of turning, each way once -/
structure Turn (ls us : List I3) : Prop where
  pw : us.Pairwise fun v w => 0 < cr3 v w
  sub : ∀ u ∈ us, u ∈ ls
  cov : ∀ v ∈ ls, ∃ u ∈ us, cr3 u v = 0
theorem Turn.nodup {ls us : List I3} (h : Turn ls us) : us.Nodup := h.pw.imp fun {v w} p e => by
  subst e
  have : cr3 v v = 0 := by unfold cr3; rw [Int.mul_comm]; omega
  omega
theorem Turn.mem {s : Sp2} {ls us : List I3} (h : Turn ls us) (hl : ∀ v ∈ ls, LT s v) (v : I3) : v ∈ us ↔ v ∈ ls := by
  refine ⟨h.sub v, fun hv => ?_⟩
  obtain ⟨u, hu, z⟩ := h.cov v hv
  rw [← lt_uniq (hl u (h.sub u hu)) (hl v hv) z]
  exact hu
abbrev i3z (v : I3) : List Int := [v.1, v.2.1, v.2.2]
theorem i3z_inj {v w : I3} (h : i3z v = i3z w) : v = w := by
  obtain ⟨a, b, c⟩ := v
  obtain ⟨a', b', c'⟩ := w
  injection h with h1 h
  injection h with h2 h
  injection h with h3 _
  simp only at h1 h2 h3
  rw [h1, h2, h3]
theorem srt_same {xs ys : List (List Int)} (hx : xs.Nodup) (hy : ys.Nodup) (h : ∀ a, a ∈ xs ↔ a ∈ ys) : srtI xs = srtI ys :=
  pw_uniq (R := (· < ·)) (fun x => List.lt_irrefl x) (fun x y a b => List.lt_irrefl _ (List.lt_trans a b)) (srtI_lt hx) (srtI_lt hy) fun a => by rw [srtI_mem, srtI_mem, h]
theorem turn_srt {s : Sp2} {ls us : List I3} (h : Turn ls us) (hl : ∀ v ∈ ls, LT s v) {ks : List (List Int)} (nd : ks.Nodup) (hk : ∀ k, k ∈ ks ↔ k ∈ ls.map i3z) : srtI ks = srtI (us.map i3z) :=
  srt_same nd (List.Pairwise.map _ (fun a b ne e => ne (i3z_inj e)) h.nodup) fun k => by
    rw [hk]
    constructor
    · intro m
      obtain ⟨v, hv, rfl⟩ := List.mem_map.mp m
      exact List.mem_map.mpr ⟨v, (h.mem hl v).mpr hv, rfl⟩
    · intro m
      obtain ⟨v, hv, rfl⟩ := List.mem_map.mp m
      exact List.mem_map.mpr ⟨v, h.sub v hv, rfl⟩
/-! the program's way -/
def lean3 (v : I3) : Fr := divF (v.2.1, 1) (v.1, 1)
abbrev amT (ls : List I3) : List (Fr × I3) := amap [] (ls.filter fun v => decide (v.1 ≠ 0)) lean3 id
def turnF (ls : List I3) (ys : List Spot) : List I3 := (ys.map fun y => (aget (amT ls) (hd1 y)).getD (0, 0, 0)) ++ (ls.filter fun v => decide (v.1 = 0)).take 1
theorem lean_val {n : Nat} {v : I3} (h1 : Bd n v.1) (h2 : Bd n v.2.1) (hn : 1 ≤ n) (nz : v.1 ≠ 0) : Gd (n + n) (lean3 v) ∧ val (lean3 v) * (v.1 : Rat) = (v.2.1 : Rat) := qt_of (by simp (disch := with_unfolding_all
  have g1 := gd_int h1 hn
  have g2 := gd_int h2 hn
  have i1 : ∀ z : Int, val (z, 1) = (z : Rat) := fun z => by unfold val; show (z : Rat) / ((1 : Int) : Rat) = _; rw [show ((1 : Int) : Rat) = 1 from rfl]; grind
  refine ⟨g2.div g1 nz, ?_⟩
  unfold lean3
  rw [val_div g2 g1 nz, i1, i1]
  exact Rat.div_mul_cancel (qne nz)
  ) only [↓qt_eq])
theorem amT_get {ls : List I3} {p : Fr} (h : ∃ v ∈ ls, v.1 ≠ 0 ∧ lean3 v = p) : ∃ v ∈ ls, v.1 ≠ 0 ∧ lean3 v = p ∧ aget (amT ls) p = some v := qt_of (by simp (disch := with_unfolding_all
  rcases amap_get lean3 id p (ls.filter fun v => decide (v.1 ≠ 0)) [] with ⟨v, hv, e, k⟩ | ⟨k, _⟩
  · rw [List.mem_filter] at hv
    exact ⟨v, hv.1, by simpa using hv.2, e, k⟩
  · obtain ⟨v, hv, nz, e⟩ := h
    exact absurd e (k v (List.mem_filter.mpr ⟨hv, by simpa using nz⟩))
  ) only [↓qt_eq])
theorem turn_ok {n : Nat} {ls : List I3} (hn : 1 ≤ n) (hl : ∀ v ∈ ls, Bd n v.1 ∧ Bd n v.2.1 ∧ Sg v) {ys : List Spot} (hy : Rising (((amT ls).map (·.1)).map fun f => [f]) ys) : Turn ls (turnF ls ys) := qt_of (by simp (disch := with_unfolding_all
  have key : ∀ {f : Fr}, [f] ∈ ys ↔ ∃ v ∈ ls, v.1 ≠ 0 ∧ lean3 v = f := fun {f} => by
    rw [hy.2]
    constructor
    · intro h
      obtain ⟨g, hg, e⟩ := List.mem_map.mp h
      obtain ⟨v, hv, e2⟩ := amap_mem.mp hg
      rw [List.mem_filter] at hv
      injection e with e _
      exact ⟨v, hv.1, by simpa using hv.2, by rw [e2, e]⟩
    · rintro ⟨v, hv, nz, rfl⟩
      exact List.mem_map.mpr ⟨_, amap_mem.mpr ⟨v, List.mem_filter.mpr ⟨hv, by simpa using nz⟩, rfl⟩, rfl⟩
  have one : ∀ y ∈ ys, ∃ v ∈ ls, v.1 ≠ 0 ∧ y = [lean3 v] ∧ aget (amT ls) (hd1 y) = some v := fun y my => by
    have := (hy.2 y).mp my
    obtain ⟨g, hg, rfl⟩ := List.mem_map.mp this
    obtain ⟨v, hv, nz, e, k⟩ := amT_get (key.mp my)
    exact ⟨v, hv, nz, by rw [e], k⟩
  have pos : ∀ v ∈ ls, v.1 ≠ 0 → 0 < v.1 := fun v hv nz => by
    rcases (hl v hv).2.2 with h | ⟨h, _⟩
    · exact h
    · exact absurd h nz
  have tmem : ∀ u ∈ (ls.filter fun v => decide (v.1 = 0)).take 1, u ∈ ls ∧ u.1 = 0 := fun u hu => by
    have := List.mem_filter.mp (List.mem_of_mem_take hu)
    exact ⟨this.1, by simpa using this.2⟩
  refine ⟨?_, fun u hu => ?_, fun v hv => ?_⟩
  · unfold turnF
    rw [List.pairwise_append]
    refine ⟨?_, ?_, fun a ha b hb => ?_⟩
    · rw [List.pairwise_map]
      refine hy.1.imp_of_mem fun {x y} mx my lt => ?_
      obtain ⟨v, hv, nv, ev, kv⟩ := one x mx
      obtain ⟨w, hw, nw, ew, kw⟩ := one y my
      rw [kv, kw]
      rw [ev, ew] at lt
      have lt := (slt1 _ _).mp lt
      show 0 < cr3 v w
      obtain ⟨_, lv⟩ := lean_val (hl v hv).1 (hl v hv).2.1 hn nv
      obtain ⟨_, lw⟩ := lean_val (hl w hw).1 (hl w hw).2.1 hn nw
      have pv : (0 : Rat) < (v.1 : Rat) := by exact_mod_cast pos v hv nv
      have pw : (0 : Rat) < (w.1 : Rat) := by exact_mod_cast pos w hw nw
      have q : (0 : Rat) < (v.1 : Rat) * (w.2.1 : Rat) - (v.2.1 : Rat) * (w.1 : Rat) := by
        rw [← lv, ← lw]
        have := Rat.mul_pos (Rat.mul_pos pv pw) (show 0 < val (lean3 w) - val (lean3 v) by grind)
        grind
      unfold cr3
      have : (0 : Rat) < ((v.1 * w.2.1 - v.2.1 * w.1 : Int) : Rat) := by
        rw [Rat.intCast_sub, Rat.intCast_mul, Rat.intCast_mul]
        exact q
      exact_mod_cast this
    · cases h : (ls.filter fun v => decide (v.1 = 0)) with
      | nil => simp
      | cons a t => simp
    · obtain ⟨y, my, rfl⟩ := List.mem_map.mp ha
      obtain ⟨v, hv, nv, ev, kv⟩ := one y my
      rw [kv]
      obtain ⟨mb, zb⟩ := tmem b hb
      show 0 < v.1 * b.2.1 - v.2.1 * b.1
      have pb : 0 < b.2.1 := by
        rcases (hl b mb).2.2 with h | ⟨_, h⟩
        · omega
        · exact h
      rw [zb, Int.mul_zero, Int.sub_zero]
      exact Int.mul_pos (pos v hv nv) pb
  · unfold turnF at hu
    rcases List.mem_append.mp hu with hu | hu
    · obtain ⟨y, my, rfl⟩ := List.mem_map.mp hu
      obtain ⟨v, hv, _, _, kv⟩ := one y my
      rw [kv]
      exact hv
    · exact (tmem u hu).1
  · by_cases nz : v.1 = 0
    · have mf : v ∈ ls.filter fun v => decide (v.1 = 0) := List.mem_filter.mpr ⟨hv, by simpa using nz⟩
      cases h : (ls.filter fun v => decide (v.1 = 0)) with
      | nil => rw [h] at mf; simp at mf
      | cons a t =>
        have ma : a ∈ (ls.filter fun v => decide (v.1 = 0)).take 1 := by rw [h]; simp
        refine ⟨a, by unfold turnF; exact List.mem_append.mpr (.inr ma), ?_⟩
        have := (tmem a ma).2
        show a.1 * v.2.1 - a.2.1 * v.1 = 0
        rw [this, nz]
        omega
    · have my : [lean3 v] ∈ ys := key.mpr ⟨v, hv, nz, rfl⟩
      obtain ⟨w, hw, nw, ew, kw⟩ := one _ my
      refine ⟨w, by unfold turnF; exact List.mem_append.mpr (.inl (List.mem_map.mpr ⟨_, my, by rw [kw]; rfl⟩)), ?_⟩
      injection ew with ew _
      obtain ⟨_, lv⟩ := lean_val (hl v hv).1 (hl v hv).2.1 hn nz
      obtain ⟨_, lw⟩ := lean_val (hl w hw).1 (hl w hw).2.1 hn nw
      have q : (w.1 : Rat) * (v.2.1 : Rat) - (w.2.1 : Rat) * (v.1 : Rat) = 0 := by
        rw [← lv, ← lw, ew]
        grind
      show w.1 * v.2.1 - w.2.1 * v.1 = 0
      have : ((w.1 * v.2.1 - w.2.1 * v.1 : Int) : Rat) = 0 := by
        rw [Rat.intCast_sub, Rat.intCast_mul, Rat.intCast_mul]
        exact q
      exact_mod_cast this
  ) only [↓qt_eq])
end


end
section
open PySem PyProof.Rows L2 Evl U.Hull

section
variable {K : Fg} {cs : Cs} {gs : Gs} {φ : PyData → Prop} {A : Rs → Prop} {ε : Xw → Prop} {w : World} {W : WX}
/-! ### what a line hits -/
def sideQ (v : I3) (p : Pt) : Rat := (v.1 : Rat) * p.x + (v.2.1 : Rat) * p.y - (v.2.2 : Rat)
/-! readings -/
-- slots of side_on: 0 line, 1 corner, 2 found
def P_lside48 : Pr := fun ds A => ∃ (v : I3) (s : Sp2), ds = [i3 v, s.d] ∧ s.g 100 ∧ Bd 1000 v.1 ∧ Bd 1000 v.2.1 ∧ Bd 1000 v.2.2 ∧ A (.ok (.int (sgnQ (sideQ v (pt s.l)))))
def t__law_side (K : Fg) : TS := (tSeq (tAsg (tCall (spP K P_hom) [] E0 (tCons (tVar 1) tNil)) (gName 2))
  (tSeq (tAsg (tOp rSubI (tOp rMulI (tOp (rIx K) (tVar 0) (tC (V.int 0))) (tOp (rIx K) (tVar 2) (tC (V.int 0)))) (tOp rMulI (tOp (rIx K) (tVar 0) (tC (V.int 2))) (tOp (rIx K) (tVar 2) (tC (V.int 2))))) (gName 3))
  (tRet (tCall (spP K P_sign) [] E0 (tCons (tOp rAddI (tVar 3) (tOp rMulI (tOp (rIx K) (tVar 0) (tC (V.int 1))) (tOp (rIx K) (tVar 2) (tC (V.int 1))))) tNil)))))
-- slots of _law_side: 0 _law_line_here, 1 _law_spot_here, 2 _law_place, 3 _law_gap
theorem ln__law_side : ∀ ds A, P_lside48 ds A → ds.length = 2 := fun ds A h => by obtain ⟨_, _, rfl, _⟩ := h; rfl
theorem rd__law_side {ds A} (h : P_lside48 ds A) : SW K cs W0 (t__law_side K) (frame 4 ds) (rts0 A) := qt_of (by simp (disch := with_unfolding_all
  obtain ⟨v, s, rfl, hs, b1, b2, b3, h⟩ := h
  have sx := hs.fst.sz
  have sy := hs.snd.sz
  have h0 := sx.1.mul sy.2
  have h1 := sy.1.mul sx.2
  have h2 := sx.2.mul sy.2
  have ev : sgnQ (sideQ v (pt s.l)) = sgn (v.1 * (s.x.1 * s.y.2) - v.2.2 * (s.x.2 * s.y.2) + v.2.1 * (s.y.1 * s.x.2)) := by
    rw [sgn_int]
    have m1 := val_mul_den hs.fst
    have m2 := val_mul_den hs.snd
    have qq := Rat.mul_pos hs.fst.qpos hs.snd.qpos
    have e : ((v.1 * (s.x.1 * s.y.2) - v.2.2 * (s.x.2 * s.y.2) + v.2.1 * (s.y.1 * s.x.2) : Int) : Rat) = ((s.x.2 : Rat) * (s.y.2 : Rat)) * sideQ v (pt s.l) := by
      rw [Rat.intCast_add, Rat.intCast_sub, Rat.intCast_mul, Rat.intCast_mul, Rat.intCast_mul, Rat.intCast_mul, Rat.intCast_mul, Rat.intCast_mul, ← m1, ← m2]
      show _ = _ * ((v.1 : Rat) * val s.x + (v.2.1 : Rat) * val s.y - (v.2.2 : Rat))
      grind
    rw [e, sgnQ_mul qq]
  rw [ev] at h
  unfold t__law_side
  refine sw_seq ?_
  walk_at "s"
  refine c_hom hs ?_
  walk_at "s"
  refine sw_seq ?_
  walk_at "s"
  refine ⟨b1.cm h0 (by decide), ?_⟩
  walk_at "s"
  refine ⟨b3.cm h2 (by decide), ?_⟩
  walk_at "s"
  refine ⟨b2.cm h1 (by decide), ?_⟩
  walk_at "s"
  refine ⟨_, ⟨_, rfl, rfl⟩, ?_⟩
  exact h
  ) only [↓qt_eq])
-- slots of line_tally: 0 lot, 1 line, 2 found, 3 weight, 4 body, 5 seen, 6 corner
-- slots of flat48: 0 _law_lot, 1 _law_line_here, 2 why
-- slots of _law_line_weight: 0 _law_rows_here, 1 _law_line_here, 2 _law_total, 3 _law_weight_here, 4 _law_spots_here, 5 _law_sides, 6 _law_spot_here
end


end
section
open PySem PyProof.Rows L2 Evl U.Hull

section
variable {K : Fg} {cs : Cs} {gs : Gs} {φ : PyData → Prop} {A : Rs → Prop} {ε : Xw → Prop} {w : World} {W : WX} {fv : Nat → Addr}
/-! ### marked lines, read -/
/-- a dict by a comprehension with a test -/
theorem putAll_filt {β : Type} (pt : β → Bool) (a : β → List PyData × PyData) : ∀ (xs : List β) (m : Kvs), (xs.map fun x => if pt x = true then some (a x) else none).foldl putO m = ((xs.filter pt).map fun x => some (a x)).foldl putO m
  | [], _ => rfl
  | x :: xs, m => by
    rw [List.map_cons, List.foldl_cons, List.filter_cons]
    cases h : pt x with
    | true =>
      rw [if_pos rfl, if_pos rfl, List.map_cons, List.foldl_cons]
      exact putAll_filt pt a xs _
    | false =>
      rw [if_neg (by simp), if_neg (by simp)]
      exact putAll_filt pt a xs m
theorem dcF {χ : Own → Prop} {g : TG} {tt : TT} {tk tv : TE} {vs : List Nat} {G : Gam} {β : Type} {xs : List β} {f : β → PyData} (pt : β → Bool) (hk : β → List PyData) (hv : β → PyData) (hz : xs.length ≤ 16000000) (hu : Unk vs G)
    (hs : ∀ x, x ∈ xs → GC K g vs G (f x) (fun Gt => TW K cs W tt Gt (fun b => b = pt x ∧ (b = true → EW K cs W tk Gt (fun y => EW K cs W tv Gt (fun z => y = .tuple (hk x) ∧ KG (hk x) ∧ z = hv x) noX) noX)) noX))
    (p : ∀ ep, χ (od w ep (putAll ((xs.filter pt).map fun x => some (hk x, hv x))))) : DcI K cs W w g tt tk tv vs G χ (xs.map f) := by
  refine ⟨by rw [List.length_map]; exact hz, hu, fun i o => ∀ x, xs[i]? = some x → o = if pt x = true then some (hk x, hv x) else none, fun i y hy => ?_, fun os ep ha => ?_⟩
  · obtain ⟨x, hx, rfl, hm⟩ := map_at hy
    refine gc_mono (hs x hm) fun Gt h => tw_mono h fun b ⟨eb, h⟩ => ?_
    subst eb
    cases hp : pt x with
    | true =>
      refine cnd_t (ew_mono (h hp) fun y h => ew_mono h fun z ⟨e1, e2, e3⟩ => ⟨_, e1, e2, fun x' hx' => ?_⟩)
      rw [hx] at hx'
      obtain rfl := Option.some.inj hx'
      rw [hp, if_pos rfl, e3]
    | false =>
      refine cnd_f fun x' hx' => ?_
      rw [hx] at hx'
      obtain rfl := Option.some.inj hx'
      rw [hp, if_neg (by simp)]
  · have eo : os = xs.map fun x => if pt x = true then some (hk x, hv x) else none := by
      obtain ⟨h1, h2⟩ := ha
      rw [List.length_map] at h1
      apply List.ext_getElem?
      intro i
      rcases Nat.lt_or_ge i xs.length with hl | hl
      · rw [List.getElem?_map, List.getElem?_eq_getElem hl, List.getElem?_eq_getElem (by omega : i < os.length)]
        exact congrArg some (h2 i _ (List.getElem?_eq_getElem (by omega)) _ (List.getElem?_eq_getElem hl))
      · rw [List.getElem?_eq_none (by omega), List.getElem?_eq_none (by rw [List.length_map]; exact hl)]
    rw [eo]
    have := putAll_filt pt (fun x => (hk x, hv x)) xs []
    have p := p ep
    unfold putAll at *
    rw [this]
    exact p
theorem cb_any {a : Nat} : ∀ {fs : List Fr}, (∀ f ∈ fs, Gd a f) → ∃ c0 : Int, 0 < c0 ∧ (∀ f ∈ fs, f.2 ∣ c0) ∧ Bd (1 + a * fs.length) c0
  | [], _ => ⟨1, by decide, by simp, by unfold Bd; show (1 : Int).natAbs < 2 ^ (1 + a * 0); rw [Nat.mul_zero]; decide⟩
  | f :: fs, h => by
    obtain ⟨c0, c1, c2, c3⟩ := cb_any (fs := fs) fun g hg => h g (by simp [hg])
    have gf := h f (by simp)
    refine ⟨f.2 * c0, Int.mul_pos gf.pos c1, fun g hg => ?_, ?_⟩
    · rcases List.mem_cons.mp hg with rfl | hg
      · exact Int.dvd_mul_right _ _
      · exact Int.dvd_trans (c2 g hg) (Int.dvd_mul_left _ _)
    · have := gf.sz.2.mul c3
      rw [List.length_cons, Nat.mul_add]
      exact this.mono (by omega)
theorem cb_one {a : Nat} {fs : List Fr} (h : ∀ f ∈ fs, Gd a f) : CbB a (1 + a * fs.length) (fs.map fun f => [f]) := qt_of (by simp (disch := with_unfolding_all
  obtain ⟨c0, c1, c2, c3⟩ := cb_any h
  refine ⟨fun s hs => ?_, c0, c1, fun s hs f hf => ?_, c3⟩
  · obtain ⟨f, hf, rfl⟩ := List.mem_map.mp hs
    intro p hp
    rw [List.mem_singleton.mp hp]
    exact h f hf
  · obtain ⟨g, hg, rfl⟩ := List.mem_map.mp hs
    rw [List.mem_singleton.mp hf]
    exact c2 g hg
  ) only [↓qt_eq])
theorem amap_lenX {κ β γ : Type} [DecidableEq κ] (k : γ → κ) (v : γ → β) (xs : List γ) : (amap [] xs k v).length ≤ xs.length := qt_of (by simp (disch := with_unfolding_all
  have nd := amap_keys k v xs [] List.nodup_nil
  have := nd.length_le_of_subset (l₂ := xs.map k) fun j hj => by
    obtain ⟨x, hx, rfl⟩ := amap_mem.mp hj
    exact List.mem_map.mpr ⟨x, hx, rfl⟩
  rw [List.length_map, List.length_map] at this
  exact this
  ) only [↓qt_eq])
/-- a call that may raise and doesn't, within a comprehension -/
theorem ew_cX0 {P : List PyData → Except Xw PyData → Prop} {ta : TA} {G : Gam} (h : AW K cs W ta G (fun ds => ∃ y, P ds (.ok y) ∧ φ y) ε) : EW K cs W (tCallSD (spX K cs P) [] (WE W0) ta) G φ ε := fun Wd B ad H0 H σ S Q q x =>
  h Wd B ad H0 H σ S _ (fun ds ⟨y, hp, p⟩ vs H1 S1 e1 d1 => ⟨Zs Wd B ad G, ds, .ok y, S1.there, by rw [List.append_nil]; exact d1, hp, fun v H' e d => q y p v H' (S1.ext e) (e1.trans (.of e)) d⟩) x
theorem c_overOk {n : Nat} {p q : Fr} (hp : Gd n p) (hq : Gd n q) (hl : n ≤ 3900) (hne : q.1 ≠ 0) (h : φ (fr (divF p q))) : ∃ y, P_over [fr p, fr q] (.ok y) ∧ φ y := qt_of (by simp (disch := with_unfolding_all
  obtain ⟨r, h1, h2⟩ := c_over (φ := fun y => y = fr (divF p q)) (ε := fun _ => False) hp hq (by omega) hne fun _ => rfl
  cases r with
  | ok y => exact ⟨y, h1, by rw [show y = fr (divF p q) from h2]; exact h⟩
  | error e => exact absurd h2 (fun z => z)
  ) only [↓qt_eq])
def P_byTurn : Pr := fun ds A => ∃ ls : List I3, ds = [.list (ls.map i3)] ∧ (∀ v ∈ ls, Bd 200 v.1 ∧ Bd 200 v.2.1 ∧ Sg v) ∧ ls.length ≤ 50 ∧ ∀ us, Turn ls us → A (.ok (.list (us.map i3)))
def t_by_turning (K : Fg) (w : World) (cs : Cs) (W : WX) : TS := (tSeq (tAsg (tDcd K w (iList K (tVar 0)) (gName 3) (tTest (tOp rNe (tOp (rIx K) (tVar 3) (tC (V.int 0))) (tC (V.int 0)))) (tCallSD (spX K cs P_over) [] (WE W0) (tCons (tTup (tCons (tOp (rIx K) (tVar 3) (tC (V.int 1))) (tCons (tC (V.int 1)) tNil))) (tCons (tTup (tCons (tOp (rIx K) (tVar 3) (tC (V.int 0))) (tCons (tC (V.int 1)) tNil))) tNil))) (tVar 3) [3]) (gName 1))
  (tSeq (tAsg (tLc (iList K (tCall (spW0 K P_rising) [] E0 (tCons (tLc (iDct w (tVar 1)) (gName 4) tYes (tTup (tCons (tVar 4) tNil)) [4]) tNil))) (gTup K 1 (gCons (gName 4) gNil)) tYes (tOp (rDx K w) (tVar 1) (tVar 4)) [4]) (gName 2))
  (tRet (tOp (rCatL K) (tVar 2) (tSl (rSlL K) (tLc (iList K (tVar 0)) (gName 3) (tTest (tOp rEq (tOp (rIx K) (tVar 3) (tC (V.int 0))) (tC (V.int 0)))) (tVar 3) [3]) tNoPart (tPart (tC (V.int 1))))))))
-- slots of by_turning: 0 lines, 1 leaning, 2 found, 3 line, 4 lean
theorem ln_by_turning : ∀ ds A, P_byTurn ds A → ds.length = 1 := fun ds A h => by obtain ⟨_, rfl, _⟩ := h; rfl
theorem rd_by_turning {ds A} (h : P_byTurn ds A) (W : WX) : SW K cs W (t_by_turning K w cs W) (frame 5 ds) (rts A) := qt_of (by simp (disch := with_unfolding_all
  obtain ⟨ls, rfl, hv, hl, h⟩ := h
  unfold t_by_turning
  refine sw_seq (sw_asgF ?_)
  walk_at "ef"
  walk_at "s"
  refine dcF (f := i3) (fun v => decide (v.1 ≠ 0)) (fun v => ekF (lean3 v)) i3 (by omega) (unk1 rfl) (fun v mv => ?_) fun ep => ?_
  · obtain ⟨b1, b2, sg⟩ := hv v mv
    walk_at "s"
    refine ⟨by simp, fun z => ?_⟩
    have nz : v.1 ≠ 0 := by simpa using z
    have g1 := gd_int b1 (by decide)
    have g2 := gd_int b2 (by decide)
    walk_at "s"
    refine ew_cX0 ?_
    walk_at "s"
    refine c_overOk (p := (v.2.1, 1)) (q := (v.1, 1)) g2 g1 (by decide) nz ?_
    walk_at "s"
    exact ⟨rfl, kg_ints _, rfl⟩
  have ee : putAll ((ls.filter fun v => decide (v.1 ≠ 0)).map fun v => some (ekF (lean3 v), i3 v)) = encM ekF i3 (amT ls) := putAll_enc (ek := ekF) (ev := i3) ekF_inj lean3 id _
  have la : (amT ls).length ≤ 50 := Nat.le_trans (amap_lenX _ _ _) (Nat.le_trans (List.length_filter_le _ _) hl)
  rw [ee]
  have ek : (encM ekF i3 (amT ls)).map (fun q => PyData.tuple q.1) = ((amT ls).map (·.1)).map fr := by
    unfold encM
    rw [List.map_map, List.map_map]
    rfl
  have gk : ∀ f ∈ (amT ls).map (·.1), Gd 400 f := fun f hf => by
    obtain ⟨v, hv', rfl⟩ := amap_mem.mp hf
    rw [List.mem_filter] at hv'
    obtain ⟨b1, b2, _⟩ := hv v hv'.1
    exact (lean_val b1 b2 (by decide) (by simpa using hv'.2)).1
  have cb := cb_one gk
  obtain ⟨k1, k2, _⟩ := cb.spc
  obtain ⟨ys, hy⟩ : ∃ ys, Rising (((amT ls).map (·.1)).map fun f => [f]) ys := ⟨_, risL_rising k1 k2⟩
  have T := turn_ok (n := 200) (by decide) hv hy
  refine sw_freezeO (i := 1) rfl ?_
  refine sw_seq (sw_asgF (ef_lc ?_))
  walk_at "s"
  rw [ek]
  refine lcM (f := fr) (fun f => frs [f]) (by rw [List.length_map]; omega) (unk1 rfl) (fun f mf => ?_) ?_
  · walk_at "s"
    rfl
  refine ⟨_, rfl, ?_⟩
  walk_at "s"
  have lk : (((amT ls).map (·.1)).map fun f => ([f] : Spot)).length ≤ 50 := by rw [List.length_map, List.length_map]; exact la
  have l2 : ((amT ls).map (·.1)).length ≤ 50 := by rw [List.length_map]; exact la
  have yl : ys.length ≤ 50 := by
    have nd : ys.Nodup := hy.1.imp_of_mem fun {s t} ms mt z e => by
      obtain ⟨f, _, rfl⟩ := List.mem_map.mp ((hy.2 s).mp ms)
      rw [← e] at z
      have := (slt1 f f).mp z
      grind
    exact Nat.le_trans (nd.length_le_of_subset fun s hs => (hy.2 s).mp hs) lk
  have ex : itemsOf (.list (((amT ls).map (·.1)).map fun f => frs [f])) = some ((((amT ls).map (·.1)).map fun f => ([f] : Spot)).map frs) := by
    show some _ = some _
    congr 1
    generalize (amT ls).map (·.1) = q
    rw [List.map_map]
    rfl
  refine ⟨_, 400, _, ((amT ls).map (·.1)).map fun f => ([f] : Spot), ys, rfl, ex, cb, by decide, by omega, fun s hs e => ?_, by omega, fun s hs => ?_, hy, ?_⟩
  · obtain ⟨f, _, rfl⟩ := List.mem_map.mp hs
    cases e
  · obtain ⟨f, _, rfl⟩ := List.mem_map.mp hs
    show 1 ≤ 1000
    decide
  walk_at "s"
  refine lcM (f := frs) (fun y => i3 ((aget (amT ls) (hd1 y)).getD (0, 0, 0))) (by omega) (unk1 rfl) (fun y my => ?_) ?_
  · obtain ⟨f, mf, rfl⟩ := List.mem_map.mp ((hy.2 y).mp my)
    obtain ⟨v, mv, e⟩ := amap_mem.mp mf
    rw [List.mem_filter] at mv
    obtain ⟨u, _, _, _, gu⟩ := amT_get (ls := ls) (p := f) ⟨v, mv.1, by simpa using mv.2, e⟩
    refine gc_tup (xs := [fr f]) rfl (gsc_cons (gc_name (by simp) (gsc_nil ?_)))
    walk_at "s"
    refine ⟨ekF f, i3 u, rfl, kg_ints _, ?_, ?_⟩
    · rw [look_enc (ek := ekF) ekF_inj, gu]; rfl
    · show i3 u = i3 ((aget (amT ls) f).getD (0, 0, 0))
      rw [gu]
      rfl
  show SW K cs W _ _ _
  refine sw_freeze (i := 2) rfl ?_
  walk_at "s"
  refine lcF (f := i3) (fun v => decide (v.1 = 0)) i3 (by omega) (unk1 rfl) (fun v mv => ?_) ?_
  · walk_at "s"
    refine ⟨rfl, fun _ => ?_⟩
    walk_at "s"
    rfl
  walk_at "s"
  refine ⟨?_, ?_⟩
  · rw [show ((1 : Int)) = ((1 : Nat) : Int) from rfl, cutD_to, List.length_map, List.length_take, List.length_map]
    omega
  · have h := h _ T
    show A _
    rw [show ((1 : Int)) = ((1 : Nat) : Int) from rfl, cutD_to]
    unfold turnF at h
    rw [List.map_append, List.map_map, List.map_take] at h
    exact h
  ) only [↓qt_eq])
/-! gaps -/
def uAt (us : List I3) (i : Nat) : I3 := (us[i]?).getD (0, 0, 0)
def leanG (us : List I3) (i : Nat) : Int × Int :=
  if us.length = 1 then (-(uAt us i).2.1, (uAt us i).1) else if i + 1 < us.length then ((uAt us i).1 + (uAt us (i + 1)).1, (uAt us i).2.1 + (uAt us (i + 1)).2.1) else ((uAt us i).1 - (uAt us 0).1, (uAt us i).2.1 - (uAt us 0).2.1)
def gapL (s : Sp2) (us : List I3) (ps : List (Nat × I3)) : List I3 := ps.map fun p => lineByF (leanG us p.1).1 (leanG us p.1).2 s
def mkLs (s : Sp2) (ms : List Spot) : List I3 := (ms.filter fun m => decide (m ≠ s.l)).map fun m => lineF s (sp2 m)
theorem sp2_nz {s : Sp2} {m : Spot} (l : m.length = 2) (ne : m ≠ s.l) : ¬ ((sp2 m).x = s.x ∧ (sp2 m).y = s.y) := fun ⟨a, b⟩ => ne (by
  obtain ⟨x, y, rfl⟩ := len2 l
  have a : x = s.x := a
  have b : y = s.y := b
  rw [a, b])
theorem line_eq {s a : Sp2} (hs : s.g 100) (ha : a.g 100) (nz : ¬ (a.x = s.x ∧ a.y = s.y)) : lineF s a = llineF s a := qt_of (by simp (disch := with_unfolding_all
  refine lnT_uniq2 (k := (s.l, a.l)) (fun e => nz ?_) (lineF_ln2 hs ha nz) (llineF_ln2 hs ha nz)
  have e : (⟨val a.x, val a.y⟩ : Pt) = ⟨val s.x, val s.y⟩ := e
  injection e with e1 e2
  exact ⟨val_inj ha.fst hs.fst e1, val_inj ha.snd hs.snd e2⟩
  ) only [↓qt_eq])
theorem line_bd {s a : Sp2} (hs : s.g 47) (ha : a.g 47) (nz : ¬ (a.x = s.x ∧ a.y = s.y)) : Bd 190 (lineF s a).1 ∧ Bd 190 (lineF s a).2.1 ∧ Bd 190 (lineF s a).2.2 := qt_of (by simp (disch := with_unfolding_all
  rw [line_eq (hs.mono (by decide)) (ha.mono (by decide)) nz]
  have sx := hs.fst.sz
  have sy := hs.snd.sz
  have ax := ha.fst.sz
  have ay := ha.snd.sz
  have h0 := sx.1.mul sy.2
  have h1 := sy.1.mul sx.2
  have h2 := sx.2.mul sy.2
  have k0 := ax.1.mul ay.2
  have k1 := ay.1.mul ax.2
  have k2 := ax.2.mul ay.2
  have bA : Bd 189 (llA s a) := (h1.mul k2).sub (h2.mul k1)
  have bB : Bd 189 (llB s a) := (h2.mul k0).sub (h0.mul k2)
  have bC : Bd 189 (llC s a) := (h1.mul k0).sub (h0.mul k1)
  exact ⟨(bA.fdiv _).mono (by decide), (bB.fdiv _).mono (by decide), (bC.fdiv _).mono (by decide)⟩
  ) only [↓qt_eq])
theorem mk_ok {s : Sp2} {ms : List Spot} (hs : s.g 47) (hm : ∀ m ∈ ms, Gds 47 m ∧ m.length = 2) : ∀ v ∈ mkLs s ms, (Bd 190 v.1 ∧ Bd 190 v.2.1 ∧ Bd 190 v.2.2) ∧ LT s v := fun v hv => by
  obtain ⟨m, mm, rfl⟩ := List.mem_map.mp hv
  rw [List.mem_filter] at mm
  obtain ⟨g, l⟩ := hm m mm.1
  have ga : (sp2 m).g 47 := by unfold Sp2.g; rw [sp2_l l]; exact g
  have nz := sp2_nz (s := s) l (by simpa using mm.2)
  exact ⟨line_bd hs ga nz, lt_of (lineF_ln2 (hs.mono (by decide)) (ga.mono (by decide)) nz)⟩
def P_marked : Pr := fun ds A => ∃ (s : Sp2) (ms : List Spot), ds = [s.d, .list (ms.map frs)] ∧ s.g 47 ∧ (∀ m ∈ ms, Gds 47 m ∧ m.length = 2) ∧ ms.length ≤ 40 ∧ ∀ us, Turn (mkLs s ms) us → us.length ≤ 40 → A (.ok (.tuple [.list (us.map i3), .list ((gapL s us (enL us)).map i3)]))
def t_marked_lines (K : Fg) (cs : Cs) (W : WX) : TS := (tSeq (tAsg (tCallSD (spW K cs P_byTurn) [] (WE W) (tCons (tLc (iList K (tVar 1)) (gName 7) (tTest (tOp (rNeD K) (tVar 7) (tVar 0))) (tCallSD (spW K cs P_lineThrough) [] (WE W0) (tCons (tVar 0) (tCons (tVar 7) tNil))) [7]) tNil)) (gName 2))
  (tSeq (tAsg (tLst tNil) (gName 3))
  (tSeq (tFor (iEnumM K (tCons (tVar 2) tNil)) (gTup K 2 (gCons (gName 4) (gCons (gName 5) gNil))) (tSeq (tIfS (tTest (tOp rEq (tCB (rLenQ K) (tCons (tVar 2) tNil)) (tC (V.int 1)))) (tAsg (tTup (tCons (tUn rNegI (tOp (rIx K) (tVar 5) (tC (V.int 1)))) (tCons (tOp (rIx K) (tVar 5) (tC (V.int 0))) tNil))) (gName 6)) (tIfS (tTest (tOp rLtI (tOp rAddI (tVar 4) (tC (V.int 1))) (tCB (rLenQ K) (tCons (tVar 2) tNil)))) (tAsg (tTup (tCons (tOp rAddI (tOp (rIx K) (tVar 5) (tC (V.int 0))) (tOp (rIx K) (tOp (rIx K) (tVar 2) (tOp rAddI (tVar 4) (tC (V.int 1)))) (tC (V.int 0)))) (tCons (tOp rAddI (tOp (rIx K) (tVar 5) (tC (V.int 1))) (tOp (rIx K) (tOp (rIx K) (tVar 2) (tOp rAddI (tVar 4) (tC (V.int 1)))) (tC (V.int 1)))) tNil))) (gName 6)) (tAsg (tTup (tCons (tOp rSubI (tOp (rIx K) (tVar 5) (tC (V.int 0))) (tOp (rIx K) (tOp (rIx K) (tVar 2) (tC (V.int 0))) (tC (V.int 0)))) (tCons (tOp rSubI (tOp (rIx K) (tVar 5) (tC (V.int 1))) (tOp (rIx K) (tOp (rIx K) (tVar 2) (tC (V.int 0))) (tC (V.int 1)))) tNil))) (gName 6))))
  (tDrop (tBM K "list" rAppend (tVar 3) (tCons (tCall (spW0 K P_lineBy) [] E0 (tCons (tVar 6) (tCons (tVar 0) tNil))) tNil)))))
  (tRet (tTup (tCons (tVar 2) (tCons (tVar 3) tNil)))))))
-- slots of marked_lines: 0 spot, 1 marks, 2 found, 3 gaps, 4 at, 5 line, 6 lean, 7 mark
theorem ln_marked_lines : ∀ ds A, P_marked ds A → ds.length = 2 := fun ds A h => by obtain ⟨_, _, rfl, _⟩ := h; rfl
theorem rd_marked_lines {ds A} (h : P_marked ds A) (W : WX) : SW K cs W (t_marked_lines K cs W) (frame 8 ds) (rts A) := qt_of (by simp (disch := with_unfolding_all
  obtain ⟨s, ms, rfl, hs, hm, hl, h⟩ := h
  have ok := mk_ok hs hm
  unfold t_marked_lines
  refine sw_seq ?_
  walk_at "s"
  refine lcF (f := frs) (fun m => decide (m ≠ s.l)) (fun m => i3 (lineF s (sp2 m))) (by omega) (unk1 rfl) (fun m mm => ?_) ?_
  · obtain ⟨g, l⟩ := hm m mm
    have ga : (sp2 m).g 47 := by unfold Sp2.g; rw [sp2_l l]; exact g
    walk_at "s"
    refine ⟨sh_frs (by omega), sh_frs (s := s.l) (by show 2 ≤ 1000; decide), ?_⟩
    rw [show s.d = frs s.l from rfl, eqv_frs']
    refine ⟨_, rfl, by simp, fun z => ?_⟩
    have ne : m ≠ s.l := by simpa using z
    refine ew_cW0 ?_
    walk_at "s"
    refine ⟨s, sp2 m, by rw [sp2_d l], hs.mono (by decide), ga.mono (by decide), fun e => absurd (by rw [e, sp2_l l]) ne, fun _ => ?_⟩
    walk_at "s"
    rfl
  walk_at "s"
  have e0 : (ms.filter fun m => decide (m ≠ s.l)).map (fun m => i3 (lineF s (sp2 m))) = (mkLs s ms).map i3 := by unfold mkLs; rw [List.map_map]; rfl
  have l0 : (mkLs s ms).length ≤ 40 := by unfold mkLs; rw [List.length_map]; exact Nat.le_trans (List.length_filter_le _ _) hl
  rw [e0]
  refine ⟨mkLs s ms, rfl, fun v hv => ⟨(ok v hv).1.1.mono (by decide), (ok v hv).1.2.1.mono (by decide), (ok v hv).2.sg⟩, by omega, fun us T => ?_⟩
  have ul : us.length ≤ 40 := Nat.le_trans (T.nodup.length_le_of_subset fun u hu => T.sub u hu) l0
  have h := h us T ul
  have bu : ∀ {i}, i < us.length → us[i]? = some (uAt us i) ∧ Bd 190 (uAt us i).1 ∧ Bd 190 (uAt us i).2.1 := fun {i} hi => by
    have e : us[i]? = some us[i] := List.getElem?_eq_getElem hi
    have e2 : uAt us i = us[i] := by unfold uAt; rw [e]; rfl
    rw [e2]
    have := (ok _ (T.sub _ (List.getElem_mem hi))).1
    exact ⟨e, this.1, this.2.1⟩
  have au : ∀ {i : Nat}, i < us.length → atI (us.map i3) (i : Int) = some (i3 (uAt us i)) := fun {i} hi => atI_nat (by rw [List.getElem?_map, (bu hi).1]; rfl)
  clear ok T e0 l0
  show SW K cs W _ _ _
  refine sw_seq (sw_asgF (ef_lst0 ?_))
  walk_at "s"
  refine sw_cut (fun G => ∃ e4 e5 e6, G = [.d s.d, .d (.list (ms.map frs)), .d (.list (us.map i3)), .ow (ol ((gapL s us (enL us)).map i3)), e4, e5, e6, .un]) ?_ ?_
  · walk_at "s"
    rw [enD_map]
    refine forP (xs := enL us) (fun pre G => ∃ e4 e5 e6, G = [.d s.d, .d (.list (ms.map frs)), .d (.list (us.map i3)), .ow (ol ((gapL s us pre).map i3)), e4, e5, e6, .un]) ⟨_, _, _, rfl⟩ ?_ ?_
    · rintro pre p post _ e ⟨e4, e5, e6, rfl⟩
      have mp := enL_mem (show p ∈ enL us by rw [e]; simp)
      have hp := (List.getElem?_eq_some_iff.mp mp).1
      have ep : p.2 = uAt us p.1 := by unfold uAt; rw [mp]; rfl
      obtain ⟨_, b1, b2⟩ := bu hp
      have lpre : pre.length ≤ 40 := by have := congrArg List.length e; rw [enL_len] at this; simp at this; omega
      refine gw_tup (xs := [.int p.1, i3 p.2]) rfl (gsw_cons (gw_name (gsw_cons (gw_name (gsw_nil ?_)))))
      rw [ep]
      refine sw_cut (fun G => ∃ r u : Int, leanG us p.1 = (r, u) ∧ Bd 191 r ∧ Bd 191 u ∧ G = [.d s.d, .d (.list (ms.map frs)), .d (.list (us.map i3)), .ow (ol ((gapL s us pre).map i3)), .d (.int p.1), .d (i3 (uAt us p.1)), .d (.tuple [.int r, .int u]), .un]) ?_ ?_
      · walk_at "s"
        rw [List.length_map]
        refine cnd_d (fun n1 => ?_) (fun n1 => ?_)
        · walk_at "s"
          refine ⟨-(uAt us p.1).2.1, (uAt us p.1).1, by unfold leanG; rw [if_pos (by omega)], b2.neg.mono (by decide), b1.mono (by decide), ?_⟩
          rfl
        · walk_at "s"
          rw [List.length_map]
          refine cnd_d (fun n2 => ?_) (fun n2 => ?_)
          · have hp1 : p.1 + 1 < us.length := by omega
            obtain ⟨_, c1, c2⟩ := bu hp1
            have a1 := au hp1
            rw [show (((p.1 + 1 : Nat) : Int)) = (p.1 : Int) + 1 by omega] at a1
            walk_at "s"
            refine ⟨_, a1, ?_⟩
            walk_at "s"
            refine ⟨_, a1, ?_⟩
            walk_at "s"
            refine ⟨(uAt us p.1).1 + (uAt us (p.1 + 1)).1, (uAt us p.1).2.1 + (uAt us (p.1 + 1)).2.1, by unfold leanG; rw [if_neg (by omega), if_pos hp1], b1.add c1, b2.add c2, ?_⟩
            rfl
          · have hp0 : 0 < us.length := by omega
            obtain ⟨_, c1, c2⟩ := bu hp0
            have a0 := au hp0
            walk_at "s"
            refine ⟨_, a0, ?_⟩
            walk_at "s"
            refine ⟨_, a0, ?_⟩
            walk_at "s"
            refine ⟨(uAt us p.1).1 - (uAt us 0).1, (uAt us p.1).2.1 - (uAt us 0).2.1, by unfold leanG; rw [if_neg (by omega), if_neg (by omega)], b1.sub c1, b2.sub c2, ?_⟩
            rfl
      rintro _ ⟨r, u, el, br, bu', rfl⟩
      refine sw_app (i := 3) rfl (by unfold gapL; rw [List.length_map, List.length_map]; omega) ?_
      walk_at "s"
      refine ⟨191, r, u, s, rfl, br, bu', hs.mono (by decide), by decide, by decide, ?_⟩
      walk_at "s"
      refine ⟨.d (.int p.1), .d (i3 (uAt us p.1)), .d (.tuple [.int r, .int u]), ?_⟩
      have e1 : gapL s us (pre ++ [p]) = gapL s us pre ++ [lineByF r u s] := by unfold gapL; rw [List.map_append, List.map_cons, List.map_nil, el]
      rw [e1, List.map_append]
      rfl
    · rintro _ ⟨e4, e5, e6, rfl⟩
      exact ⟨_, rfl, _, _, _, rfl⟩
  rintro _ ⟨e4, e5, e6, rfl⟩
  refine sw_freeze (i := 3) rfl ?_
  walk_at "s"
  exact h
  ) only [↓qt_eq])
/-! ### the law's own way with lines -/
def P_crossOf : Pr := fun ds A => ∃ (a b c d : Int) (xs ys : List PyData), ds = [.tuple (.int a :: .int b :: xs), .tuple (.int c :: .int d :: ys)] ∧ Bd 1000 a ∧ Bd 1000 b ∧ Bd 1000 c ∧ Bd 1000 d ∧ A (.ok (.int (sgn (a * d - b * c))))
def t__law_cross_of (K : Fg) : TS := (tRet (tCall (spP K P_sign) [] E0 (tCons (tOp rSubI (tOp rMulI (tOp (rIx K) (tVar 0) (tC (V.int 0))) (tOp (rIx K) (tVar 1) (tC (V.int 1)))) (tOp rMulI (tOp (rIx K) (tVar 0) (tC (V.int 1))) (tOp (rIx K) (tVar 1) (tC (V.int 0))))) tNil)))
-- slots of _law_cross_of: 0 _law_one, 1 _law_other
theorem ln__law_cross_of : ∀ ds A, P_crossOf ds A → ds.length = 2 := fun ds A h => by obtain ⟨_, _, _, _, _, _, rfl, _⟩ := h; rfl
theorem rd__law_cross_of {ds A} (h : P_crossOf ds A) : SW K cs W0 (t__law_cross_of K) (frame 2 ds) (rts0 A) := qt_of (by simp (disch := with_unfolding_all
  obtain ⟨a, b, c, d, xs, ys, rfl, ba, bb, bc, bd, h⟩ := h
  unfold t__law_cross_of
  walk_at "s"
  refine ⟨ba.cm bd (by decide), _, rfl, ?_⟩
  walk_at "s"
  refine ⟨bb.cm bc (by decide), _, rfl, ?_⟩
  walk_at "s"
  exact ⟨_, ⟨_, rfl, rfl⟩, h⟩
  ) only [↓qt_eq])
theorem sgn_le (x : Int) : sgn x ≤ 0 ↔ x ≤ 0 := by
  unfold sgn
  by_cases a : 0 < x <;> by_cases b : x < 0 <;> simp [a, b] <;> omega
theorem sgn_z (x : Int) : sgn x = 0 ↔ x = 0 := by
  unfold sgn
  by_cases a : 0 < x <;> by_cases b : x < 0 <;> simp [a, b] <;> omega
theorem sgn_p (x : Int) : 0 < sgn x ↔ 0 < x := by
  unfold sgn
  by_cases a : 0 < x <;> by_cases b : x < 0 <;> simp [a, b] <;> omega
theorem cut3 (a b c : PyData) : cutD [a, b, c] none (some 2) = [a, b] := by
  rw [show (2 : Int) = ((2 : Nat) : Int) from rfl, cutD_to]
  rfl
def ends3 (v u : I3) : Int × Int := if cr3 v u ≤ 0 then (-u.1, -u.2.1) else (u.1, u.2.1)
def btwB (v g u : I3) : Bool := if v.1 * (ends3 v g).2 - v.2.1 * (ends3 v g).1 ≤ 0 then false else decide (v.1 * (ends3 v u).2 - v.2.1 * (ends3 v u).1 = 0) || decide (0 < (ends3 v g).1 * (ends3 v u).2 - (ends3 v g).2 * (ends3 v u).1)
def P_btwL : Pr := fun ds A => ∃ v g u : I3, ds = [i3 v, i3 g, i3 u] ∧ (∀ x ∈ [v, g, u], Bd 900 x.1 ∧ Bd 900 x.2.1) ∧ A (.ok (.bool (btwB v g u)))
def t__law_between_lines (K : Fg) : TS := (tSeq (tAsg (tSl (rSlA K) (tVar 2) tNoPart (tPart (tC (V.int 2)))) (gName 3))
  (tSeq (tIfS (tTest (tOp rLeI (tCall (spW0 K P_crossOf) [] E0 (tCons (tVar 0) (tCons (tVar 2) tNil))) (tC (V.int 0)))) (tAsg (tTup (tCons (tUn rNegI (tOp (rIx K) (tVar 2) (tC (V.int 0)))) (tCons (tUn rNegI (tOp (rIx K) (tVar 2) (tC (V.int 1)))) tNil))) (gName 3)) tNext)
  (tSeq (tAsg (tSl (rSlA K) (tVar 1) tNoPart (tPart (tC (V.int 2)))) (gName 4))
  (tSeq (tIfS (tTest (tOp rLeI (tCall (spW0 K P_crossOf) [] E0 (tCons (tVar 0) (tCons (tVar 1) tNil))) (tC (V.int 0)))) (tAsg (tTup (tCons (tUn rNegI (tOp (rIx K) (tVar 1) (tC (V.int 0)))) (tCons (tUn rNegI (tOp (rIx K) (tVar 1) (tC (V.int 1)))) tNil))) (gName 4)) tNext)
  (tSeq (tIfS (tTest (tOp rLeI (tCall (spW0 K P_crossOf) [] E0 (tCons (tVar 0) (tCons (tVar 4) tNil))) (tC (V.int 0)))) (tRet (tC (V.bl false))) tNext)
  (tRet (tOrV (tOp rEq (tCall (spW0 K P_crossOf) [] E0 (tCons (tVar 0) (tCons (tVar 3) tNil))) (tC (V.int 0))) (tOp rGtI (tCall (spW0 K P_crossOf) [] E0 (tCons (tVar 4) (tCons (tVar 3) tNil))) (tC (V.int 0))))))))))
-- slots of _law_between_lines: 0 _law_line_here, 1 _law_gap, 2 _law_after, 3 _law_ends, 4 _law_turned_gap
theorem ln__law_between_lines : ∀ ds A, P_btwL ds A → ds.length = 3 := fun ds A h => by obtain ⟨_, _, _, rfl, _⟩ := h; rfl
theorem rd__law_between_lines {ds A} (h : P_btwL ds A) : SW K cs W0 (t__law_between_lines K) (frame 5 ds) (rts0 A) := qt_of (by simp (disch := with_unfolding_all
  obtain ⟨v, g, u, rfl, hb, h⟩ := h
  obtain ⟨v1, v2⟩ := hb v (by simp)
  obtain ⟨g1, g2⟩ := hb g (by simp)
  obtain ⟨u1, u2⟩ := hb u (by simp)
  have be : ∀ {x : I3}, Bd 900 x.1 → Bd 900 x.2.1 → Bd 1000 (ends3 v x).1 ∧ Bd 1000 (ends3 v x).2 := fun {x} h1 h2 => by
    unfold ends3
    split
    · exact ⟨h1.neg.mono (by decide), h2.neg.mono (by decide)⟩
    · exact ⟨h1.mono (by decide), h2.mono (by decide)⟩
  have bv1 : Bd 1000 v.1 := v1.mono (by decide)
  have bv2 : Bd 1000 v.2.1 := v2.mono (by decide)
  unfold t__law_between_lines
  refine sw_seq ?_
  walk_at "s"
  rw [cut3]
  refine sw_cut (fun G => G = [.d (i3 v), .d (i3 g), .d (i3 u), .d (.tuple [.int (ends3 v u).1, .int (ends3 v u).2]), .un]) ?_ ?_
  · walk_at "s"
    refine ⟨v.1, v.2.1, u.1, u.2.1, [.int v.2.2], [.int u.2.2], rfl, bv1, bv2, u1.mono (by decide), u2.mono (by decide), ?_⟩
    walk_at "s"
    refine cnd_d (fun le => ?_) (fun le => ?_)
    · rw [sgn_le] at le
      walk_at "s"
      unfold ends3
      rw [if_pos le]
      rfl
    · rw [sgn_le] at le
      walk_at "s"
      unfold ends3
      rw [if_neg le]
      rfl
  rintro _ rfl
  refine sw_seq ?_
  walk_at "s"
  rw [cut3]
  refine sw_cut (fun G => G = [.d (i3 v), .d (i3 g), .d (i3 u), .d (.tuple [.int (ends3 v u).1, .int (ends3 v u).2]), .d (.tuple [.int (ends3 v g).1, .int (ends3 v g).2])]) ?_ ?_
  · walk_at "s"
    refine ⟨v.1, v.2.1, g.1, g.2.1, [.int v.2.2], [.int g.2.2], rfl, bv1, bv2, g1.mono (by decide), g2.mono (by decide), ?_⟩
    walk_at "s"
    refine cnd_d (fun le => ?_) (fun le => ?_)
    · rw [sgn_le] at le
      walk_at "s"
      unfold ends3
      rw [if_pos le]
      rfl
    · rw [sgn_le] at le
      walk_at "s"
      unfold ends3
      rw [if_neg le]
      rfl
  rintro _ rfl
  obtain ⟨eu1, eu2⟩ := be u1 u2
  obtain ⟨eg1, eg2⟩ := be g1 g2
  unfold btwB at h
  refine sw_seq ?_
  walk_at "s"
  refine ⟨v.1, v.2.1, (ends3 v g).1, (ends3 v g).2, [.int v.2.2], [], rfl, bv1, bv2, eg1, eg2, ?_⟩
  walk_at "s"
  refine cnd_d (fun le => ?_) (fun le => ?_)
  · rw [sgn_le] at le
    walk_at "s"
    rw [if_pos le] at h
    exact h
  · rw [sgn_le] at le
    rw [if_neg le] at h
    walk_at "s"
    refine ⟨v.1, v.2.1, (ends3 v u).1, (ends3 v u).2, [.int v.2.2], [], rfl, bv1, bv2, eu1, eu2, ?_⟩
    walk_at "s"
    refine cnd_d (fun z => ?_) (fun z => ?_)
    · rw [sgn_z] at z
      rw [decide_eq_true z] at h
      exact h
    · rw [sgn_z] at z
      rw [decide_eq_false z] at h
      walk_at "s"
      refine ⟨(ends3 v g).1, (ends3 v g).2, (ends3 v u).1, (ends3 v u).2, [], [], rfl, eg1, eg2, eu1, eu2, ?_⟩
      walk_at "s"
      have e : ∀ x : Int, decide (0 < sgn x) = decide (0 < x) := fun x => decide_eq_decide.mpr (sgn_p x)
      show A (.ok (.bool (decide (0 < sgn _))))
      rw [e]
      exact h
  ) only [↓qt_eq])
def P_lgood : Pr := fun ds A => ∃ (v : I3) (s : Sp2), ds = [i3 v, s.d] ∧ s.g 100 ∧ Bd 1000 v.1 ∧ Bd 1000 v.2.1 ∧ Bd 1000 v.2.2 ∧ LT s v ∧ A (.ok (.bool true))
def t__law_good (K : Fg) : TS := (tSeq (tIfS (tOr (tNot (tB (tCB (rIsi K) (tCons (tVar 0) (tCons (tC (V.ty "tuple")) tNil))))) (tTest (tOp rNe (tCB (rLenQ K) (tCons (tVar 0) tNil)) (tC (V.int 3))))) (tRet (tC (V.bl false))) tNext)
  (tSeq (tIfS (tNot (tB (tCB (rAll K) (tCons (tLc (iTup K (tVar 0)) (gName 2) tYes (tAndV (tCB (rIsi K) (tCons (tVar 2) (tCons (tC (V.ty "int")) tNil))) (tNotV (tCB (rIsi K) (tCons (tVar 2) (tCons (tC (V.ty "bool")) tNil))))) [2]) tNil)))) (tRet (tC (V.bl false))) tNext)
  (tSeq (tIfS (tOr (tTest (tOp rNe (tCall (spP K P_gcd) [] E0 (tCons (tCall (spP K P_gcd) [] E0 (tCons (tOp (rIx K) (tVar 0) (tC (V.int 0))) (tCons (tOp (rIx K) (tVar 0) (tC (V.int 1))) tNil))) (tCons (tOp (rIx K) (tVar 0) (tC (V.int 2))) tNil))) (tC (V.int 1)))) (tTest (tOp (rEqD K) (tSl (rSlA K) (tVar 0) tNoPart (tPart (tC (V.int 2)))) (tTup (tCons (tC (V.int 0)) (tCons (tC (V.int 0)) tNil)))))) (tRet (tC (V.bl false))) tNext)
  (tRet (tAndV (tOrV (tOp rGtI (tOp (rIx K) (tVar 0) (tC (V.int 0))) (tC (V.int 0))) (tAndV (tOp rEq (tOp (rIx K) (tVar 0) (tC (V.int 0))) (tC (V.int 0))) (tOp rGtI (tOp (rIx K) (tVar 0) (tC (V.int 1))) (tC (V.int 0))))) (tOp rEq (tCall (spW0 K P_lside48) [] E0 (tCons (tVar 0) (tCons (tVar 1) tNil))) (tC (V.int 0))))))))
-- slots of _law_good: 0 _law_line_here, 1 _law_spot_here, 2 _law_number
theorem ln__law_good : ∀ ds A, P_lgood ds A → ds.length = 2 := fun ds A h => by obtain ⟨_, _, rfl, _⟩ := h; rfl
theorem rd__law_good {ds A} (h : P_lgood ds A) : SW K cs W0 (t__law_good K) (frame 3 ds) (rts0 A) := qt_of (by simp (disch := with_unfolding_all
  obtain ⟨v, s, rfl, hs, b1, b2, b3, L, h⟩ := h
  unfold t__law_good
  refine sw_seq ?_
  walk_at "s"
  refine ⟨true, kit_tuple_tuple, _, rfl, ?_⟩
  refine cnd_F rfl ?_
  walk_at "s"
  refine cnd_F (by simp) ?_
  walk_at "s"
  refine sw_seq ?_
  walk_at "s"
  show LcI K cs W0 _ _ _ _ _ _ ([v.1, v.2.1, v.2.2].map PyData.int)
  refine lcM (f := PyData.int) (fun _ => .bool true) (by simp) (unk1 rfl) (fun x mx => ?_) ?_
  · walk_at "s"
    refine ⟨true, kit_int_int, _, rfl, cnd_t ?_⟩
    walk_at "s"
    refine ⟨false, kit_int_bool, ?_⟩
    walk_at "s"
    rfl
  walk_at "s"
  refine cnd_F (by simp) ?_
  walk_at "s"
  refine sw_seq ?_
  walk_at "s"
  obtain ⟨a, b, c⟩ := v
  have ab : a ≠ 0 ∨ b ≠ 0 := by
    have : 0 < a ∨ (a = 0 ∧ 0 < b) := L.sg
    omega
  have pr : ∀ d : Int, d ∣ a → d ∣ b → d ∣ c → d ∣ 1 := L.pr
  have g0 : gI a b = (Int.gcd a b : Int) := gI_gcd ab
  have gz : (Int.gcd a b : Int) ≠ 0 := fun z => by
    have z : Int.gcd a b = 0 := by omega
    have := Int.gcd_eq_zero_iff.mp z
    omega
  have g1 : gI (gI a b) c = 1 := by
    rw [g0, gI_gcd (.inl gz)]
    have p := pr (Int.gcd (Int.gcd a b) c) (Int.dvd_trans (Int.gcd_dvd_left ..) (Int.gcd_dvd_left ..)) (Int.dvd_trans (Int.gcd_dvd_left ..) (Int.gcd_dvd_right ..)) (Int.gcd_dvd_right ..)
    have := Int.le_of_dvd (by decide) p
    have z : Int.gcd (Int.gcd a b) c ≠ 0 := fun z => by
      have := (Int.gcd_eq_zero_iff.mp z).1
      exact gz this
    omega
  refine ⟨_, ⟨a, b, rfl, rfl⟩, ?_⟩
  walk_at "s"
  refine ⟨_, ⟨_, c, rfl, rfl⟩, ?_⟩
  rw [g1]
  walk_at "s"
  refine cnd_F (by simp) ?_
  walk_at "s"
  rw [cut3]
  have shT : ∀ x y : Int, SeqAt.shaped (.tuple [.int x, .int y]) = true := fun x y => shaped_ok (n := 2) (can_tup fun z hz => by
    simp at hz
    rcases hz with rfl | rfl <;> rfl) (okD_tup (by simp) fun z hz => by
    simp at hz
    rcases hz with rfl | rfl <;> exact okD_i _ _) (by decide)
  refine ⟨shT a b, shT 0 0, ?_⟩
  have ne : PyData.eqv (.tuple [.int a, .int b]) (.tuple [.int 0, .int 0]) = false := by
    show (a == 0 && (b == 0 && true)) = false
    rcases ab with z | z <;> simp [z]
  rw [ne]
  refine ⟨_, rfl, ?_⟩
  refine cnd_f ?_
  walk_at "s"
  have side0 : sgnQ (sideQ (a, b, c) (pt s.l)) = 0 := by
    have e : (a : Rat) * val s.x + (b : Rat) * val s.y = (c : Rat) := L.e
    have z : sideQ (a, b, c) (pt s.l) = 0 := by
      show (a : Rat) * val s.x + (b : Rat) * val s.y - (c : Rat) = 0
      grind
    rw [z]
    unfold sgnQ
    rw [if_neg (by grind), if_neg (by grind)]
  refine cnd_d (fun p => ?_) (fun p => ?_)
  · refine ⟨true, rfl, cnd_t ?_⟩
    walk_at "s"
    refine ⟨(a, b, c), s, rfl, hs, b1, b2, b3, ?_⟩
    walk_at "s"
    rw [side0]
    exact h
  · have ab' : a = 0 ∧ 0 < b := by
      have q : 0 < a ∨ (a = 0 ∧ 0 < b) := L.sg
      have p : ¬ 0 < a := p
      omega
    walk_at "s"
    refine cnd_yes ab'.1 ?_
    walk_at "s"
    refine cnd_yes ab'.2 ?_
    walk_at "s"
    refine ⟨(a, b, c), s, rfl, hs, b1, b2, b3, ?_⟩
    walk_at "s"
    rw [side0]
    exact h
  ) only [↓qt_eq])
end


end
section
open PySem PyProof.Rows L2 Evl U.Hull
section
/-! ### the lines between, plain -/
theorem lineBy_ok {n : Nat} {s : Sp2} {r u : Int} (hs : s.g n) (n0 : r ≠ 0 ∨ u ≠ 0) : LT s (lineByF r u s) ∧ (lineByF r u s).1 * u = (lineByF r u s).2.1 * r := qt_of (by simp (disch := with_unfolding_all
  unfold lineByF
  obtain ⟨r', u', e1, e2, par, sg'⟩ : ∃ r' u' : Int, (if sgn3 r u = true then -r else r) = r' ∧ (if sgn3 r u = true then -u else u) = u' ∧ r' * u = u' * r ∧ (0 < r' ∨ (r' = 0 ∧ 0 < u')) := by
    by_cases c : sgn3 r u = true
    · refine ⟨-r, -u, if_pos c, if_pos c, ?_, ?_⟩
      · rw [Int.neg_mul, Int.neg_mul, Int.mul_comm]
      · unfold sgn3 at c
        simp only [Bool.or_eq_true, Bool.and_eq_true, decide_eq_true_eq] at c
        omega
    · refine ⟨r, u, if_neg c, if_neg c, Int.mul_comm _ _, ?_⟩
      unfold sgn3 at c
      simp only [Bool.or_eq_true, Bool.and_eq_true, decide_eq_true_eq] at c
      omega
  simp only [e1, e2]
  obtain ⟨N, bN1, bN2⟩ : ∃ N, Bd N r' ∧ Bd N u' := ⟨r'.natAbs + u'.natAbs, Nat.lt_of_le_of_lt (by omega) Nat.lt_two_pow_self, Nat.lt_of_le_of_lt (by omega) Nat.lt_two_pow_self⟩
  have gr := gd_int (bN1.mono (Nat.le_succ N)) (Nat.le_add_left 1 N)
  have gu := gd_int (bN2.mono (Nat.le_succ N)) (Nat.le_add_left 1 N)
  have gl := (gr.mul hs.fst).add (gu.mul hs.snd)
  have vl := val_add (gr.mul hs.fst) (gu.mul hs.snd)
  have i1 : ∀ z : Int, val (z, 1) = (z : Rat) := fun z => by unfold val; show (z : Rat) / ((1 : Int) : Rat) = _; rw [show ((1 : Int) : Rat) = 1 from rfl]; grind
  rw [val_mul gr hs.fst, val_mul gu hs.snd, i1, i1] at vl
  have ml := val_mul_den gl
  have ql := gl.pos
  generalize addF (mulF (r', 1) s.x) (mulF (u', 1) s.y) = l at *
  have sg2 : 0 < r' * l.2 ∨ (r' * l.2 = 0 ∧ 0 < u' * l.2) := by
    rcases sg' with h | ⟨h, h'⟩
    · left; exact Int.mul_pos h ql
    · right; exact ⟨by rw [h, Int.zero_mul], Int.mul_pos h' ql⟩
  obtain ⟨g, a', b', c', hg, _, ea, eb, ec, en, pr⟩ := n3_spec (a := r' * l.2) (b := u' * l.2) (c := l.1) (by omega)
  rw [en]
  have g0 : (g : Rat) ≠ 0 := qne (by omega)
  refine ⟨⟨?_, ?_, pr⟩, ?_⟩
  · show (a' : Rat) * val s.x + (b' : Rat) * val s.y = (c' : Rat)
    have qa : (r' : Rat) * (l.2 : Rat) = (g : Rat) * (a' : Rat) := by exact_mod_cast ea
    have qb : (u' : Rat) * (l.2 : Rat) = (g : Rat) * (b' : Rat) := by exact_mod_cast eb
    have qc : (l.1 : Rat) = (g : Rat) * (c' : Rat) := by exact_mod_cast ec
    refine mul_left_inj' (c := (g : Rat)) ?_ g0
    have : (val s.x * ((g : Rat) * (a' : Rat)) + val s.y * ((g : Rat) * (b' : Rat))) = (g : Rat) * (c' : Rat) := by
      rw [← qa, ← qb, ← qc, ← ml, vl]; grind
    grind
  · show 0 < a' ∨ (a' = 0 ∧ 0 < b')
    rcases sg2 with h | ⟨h, hb⟩
    · left
      rw [ea] at h
      exact ipos hg h
    · right
      rw [ea] at h
      rw [eb] at hb
      refine ⟨?_, ipos hg hb⟩
      rcases Int.mul_eq_zero.mp h with z | z <;> omega
  · show a' * u = b' * r
    have k : g * (a' * u) = g * (b' * r) := by
      rw [← Int.mul_assoc, ← Int.mul_assoc, ← ea, ← eb]
      calc r' * l.2 * u = r' * u * l.2 := by rw [Int.mul_assoc, Int.mul_comm l.2, ← Int.mul_assoc]
        _ = u' * r * l.2 := by rw [par]
        _ = u' * l.2 * r := by rw [Int.mul_assoc, Int.mul_comm r, ← Int.mul_assoc]
    exact Int.eq_of_mul_eq_mul_left (by omega) k
  ) only [↓qt_eq])
/-- a line between two, as the law asks -/
theorem btw_of {v g w : I3} {r u : Int} (par : g.1 * u = g.2.1 * r) (sg : Sg g) (h : 0 < v.1 * u - v.2.1 * r) (k : v.1 * (ends3 v w).2 - v.2.1 * (ends3 v w).1 = 0 ∨ 0 < r * (ends3 v w).2 - u * (ends3 v w).1) : btwB v g w = true := qt_of (by simp (disch := with_unfolding_all
  obtain ⟨a, b, c⟩ := v
  obtain ⟨p, q, z⟩ := g
  have par : p * u = q * r := par
  have sg : 0 < p ∨ (p = 0 ∧ 0 < q) := sg
  have h : 0 < a * u - b * r := h
  -- the cross with the line between is not nought
  have nz : a * q - b * p ≠ 0 := fun z => by
    have z1 : p * (a * u - b * r) = 0 := by
      have : p * (a * u - b * r) = r * (a * q - b * p) + a * (p * u - q * r) := by grind
      rw [this, z, par]; omega
    have z2 : q * (a * u - b * r) = 0 := by
      have : q * (a * u - b * r) = u * (a * q - b * p) + b * (p * u - q * r) := by grind
      rw [this, z, par]; omega
    rcases Int.mul_eq_zero.mp z1 with z1 | z1
    · rcases Int.mul_eq_zero.mp z2 with z2 | z2 <;> omega
    · omega
  obtain ⟨t, et, tp, tpar⟩ : ∃ t : Int × Int, ends3 (a, b, c) (p, q, z) = t ∧ 0 < a * t.2 - b * t.1 ∧ t.1 * u = t.2 * r := by
    unfold ends3
    by_cases l : cr3 (a, b, c) (p, q, z) ≤ 0
    · have l' : a * q - b * p ≤ 0 := l
      refine ⟨(-p, -q), if_pos l, ?_, ?_⟩
      · show 0 < a * -q - b * -p
        rw [Int.mul_neg, Int.mul_neg]
        omega
      · show -p * u = -q * r
        rw [Int.neg_mul, Int.neg_mul, par]
    · have l' : ¬ a * q - b * p ≤ 0 := l
      exact ⟨(p, q), if_neg l, by show 0 < a * q - b * p; omega, par⟩
  unfold btwB
  rw [et]
  have hE : ∀ e : Int × Int, (a * e.2 - b * e.1 = 0 ∨ 0 < r * e.2 - u * e.1) → (decide (a * e.2 - b * e.1 = 0) || decide (0 < t.1 * e.2 - t.2 * e.1)) = true := fun e k => by
    rcases k with k | k
    · rw [decide_eq_true k]; rfl
    · have id : (t.1 * e.2 - t.2 * e.1) * (a * u - b * r) = (r * e.2 - u * e.1) * (a * t.2 - b * t.1) := by
        have : (t.1 * e.2 - t.2 * e.1) * (a * u - b * r) - (r * e.2 - u * e.1) * (a * t.2 - b * t.1) = (t.1 * u - t.2 * r) * (e.2 * a - e.1 * b) := by grind
        rw [tpar] at this
        have z : (t.2 * r - t.2 * r) * (e.2 * a - e.1 * b) = 0 := by rw [Int.sub_self, Int.zero_mul]
        omega
      have pos := Int.mul_pos k tp
      rw [← id] at pos
      have : 0 < t.1 * e.2 - t.2 * e.1 := Int.pos_of_mul_pos_left pos h
      rw [decide_eq_true this, Bool.or_true]
  have tp' : ¬ (a, b, c).1 * t.2 - (a, b, c).2.1 * t.1 ≤ 0 := by
    show ¬ a * t.2 - b * t.1 ≤ 0
    omega
  rw [if_neg tp']
  exact hE _ k
  ) only [↓qt_eq])
end


end
section
open PySem PyProof.Rows L2 Evl U.Hull
section
/-! ### every line between is one, plain -/
theorem lineBy_bd {s : Sp2} {r u : Int} (hs : s.g 47) (hr : Bd 191 r) (hu : Bd 191 u) : Bd 900 (lineByF r u s).1 ∧ Bd 900 (lineByF r u s).2.1 ∧ Bd 900 (lineByF r u s).2.2 := qt_of (by simp (disch := with_unfolding_all
  unfold lineByF
  obtain ⟨r', u', e1, e2, b1, b2⟩ : ∃ r' u' : Int, (if sgn3 r u = true then -r else r) = r' ∧ (if sgn3 r u = true then -u else u) = u' ∧ Bd 191 r' ∧ Bd 191 u' := by
    by_cases c : sgn3 r u = true
    · exact ⟨-r, -u, if_pos c, if_pos c, hr.neg, hu.neg⟩
    · exact ⟨r, u, if_neg c, if_neg c, hr, hu⟩
  simp only [e1, e2]
  have gl := ((gd_int b1 (by decide)).mul hs.fst).add ((gd_int b2 (by decide)).mul hs.snd)
  generalize addF (mulF (r', 1) s.x) (mulF (u', 1) s.y) = l at *
  have k1 := b1.mul gl.sz.2
  have k2 := b2.mul gl.sz.2
  unfold n3
  exact ⟨(k1.fdiv _).mono (by decide), (k2.fdiv _).mono (by decide), (gl.sz.1.fdiv _).mono (by decide)⟩
  ) only [↓qt_eq])
theorem sq_nni (a : Int) : 0 ≤ a * a := by
  rcases Int.le_total 0 a with h | h
  · exact Int.mul_nonneg h h
  · exact Int.mul_nonneg_of_nonpos_of_nonpos h h
theorem u_at {us : List I3} {i : Nat} (h : i < us.length) : uAt us i = us[i] := by
  unfold uAt
  rw [List.getElem?_eq_getElem h]
  rfl
theorem turn_lt {ls us : List I3} (T : Turn ls us) {i j : Nat} (hi : i < j) (hj : j < us.length) : 0 < cr3 (uAt us i) (uAt us j) := by
  rw [u_at (by omega), u_at hj]
  exact List.pairwise_iff_getElem.mp T.pw i j (by omega) hj hi
theorem gap_ok {ls us : List I3} {s : Sp2} {n : Nat} (T : Turn ls us) (hl : ∀ v ∈ ls, LT s v) (hs : s.g n) {i : Nat} (hi : i < us.length) :
    LT s (lineByF (leanG us i).1 (leanG us i).2 s) ∧ btwB (uAt us i) (lineByF (leanG us i).1 (leanG us i).2 s) (uAt us ((i + 1) % us.length)) = true := qt_of (by simp (disch := with_unfolding_all
  have sgv : Sg (uAt us i) := by rw [u_at hi]; exact (hl _ (T.sub _ (List.getElem_mem hi))).sg
  have nz : ∀ {r u : Int}, 0 < (uAt us i).1 * u - (uAt us i).2.1 * r → r ≠ 0 ∨ u ≠ 0 := fun {r u} h => by
    apply Classical.byContradiction
    intro z
    have z1 : r = 0 := by omega
    have z2 : u = 0 := by omega
    rw [z1, z2] at h
    simp at h
  obtain ⟨h, k⟩ : 0 < (uAt us i).1 * (leanG us i).2 - (uAt us i).2.1 * (leanG us i).1 ∧ ((uAt us i).1 * (ends3 (uAt us i) (uAt us ((i + 1) % us.length))).2 - (uAt us i).2.1 * (ends3 (uAt us i) (uAt us ((i + 1) % us.length))).1 = 0 ∨ 0 < (leanG us i).1 * (ends3 (uAt us i) (uAt us ((i + 1) % us.length))).2 - (leanG us i).2 * (ends3 (uAt us i) (uAt us ((i + 1) % us.length))).1) := by
    by_cases n1 : us.length = 1
    · have i0 : i = 0 := by omega
      have e : (i + 1) % us.length = i := by rw [n1, i0]
      rw [e]
      unfold leanG
      rw [if_pos n1]
      generalize uAt us i = v at *
      obtain ⟨a, b, c⟩ := v
      have sg : 0 < a ∨ (a = 0 ∧ 0 < b) := sgv
      refine ⟨?_, .inl ?_⟩
      · show 0 < a * a - b * -b
        rw [Int.mul_neg]
        have q1 : 0 ≤ a * a := sq_nni a
        have q2 : 0 ≤ b * b := sq_nni b
        rcases sg with p | ⟨_, p⟩
        · have := Int.mul_pos p p
          omega
        · have := Int.mul_pos p p
          omega
      · unfold ends3
        have z : cr3 (a, b, c) (a, b, c) ≤ 0 := by
          show a * b - b * a ≤ 0
          rw [Int.mul_comm]
          omega
        rw [if_pos z]
        show a * -b - b * -a = 0
        rw [Int.mul_neg, Int.mul_neg, Int.mul_comm b a]
        omega
    · by_cases n2 : i + 1 < us.length
      · have e : (i + 1) % us.length = i + 1 := Nat.mod_eq_of_lt n2
        rw [e]
        have c := turn_lt T (show i < i + 1 by omega) n2
        unfold leanG
        rw [if_neg n1, if_pos n2]
        generalize uAt us i = v at *
        generalize uAt us (i + 1) = w at *
        obtain ⟨a, b, _⟩ := v
        obtain ⟨a', b', _⟩ := w
        have c : 0 < a * b' - b * a' := c
        refine ⟨?_, .inr ?_⟩
        · show 0 < a * (b + b') - b * (a + a')
          rw [Int.mul_add, Int.mul_add, Int.mul_comm b a]
          omega
        · unfold ends3
          rw [if_neg (show ¬ a * b' - b * a' ≤ 0 by omega)]
          show 0 < (a + a') * b' - (b + b') * a'
          rw [Int.add_mul, Int.add_mul, Int.mul_comm b' a']
          omega
      · have e : (i + 1) % us.length = 0 := by rw [show i + 1 = us.length by omega, Nat.mod_self]
        rw [e]
        have c := turn_lt T (show 0 < i by omega) hi
        unfold leanG
        rw [if_neg n1, if_neg n2]
        generalize uAt us i = v at *
        generalize uAt us 0 = w at *
        obtain ⟨a, b, _⟩ := v
        obtain ⟨a', b', _⟩ := w
        have c : 0 < a' * b - b' * a := c
        have c2 : a * b' - b * a' < 0 := by rw [Int.mul_comm a b', Int.mul_comm b a']; omega
        refine ⟨?_, .inr ?_⟩
        · show 0 < a * (b - b') - b * (a - a')
          rw [Int.mul_sub, Int.mul_sub, Int.mul_comm b a]
          omega
        · unfold ends3
          rw [if_pos (show a * b' - b * a' ≤ 0 by omega)]
          show 0 < (a - a') * -b' - (b - b') * -a'
          rw [Int.mul_neg, Int.mul_neg, Int.sub_mul, Int.sub_mul, Int.mul_comm b' a']
          omega
  obtain ⟨L, par⟩ := lineBy_ok hs (nz h)
  exact ⟨L, btw_of par L.sg h k⟩
  ) only [↓qt_eq])
end


end
namespace Law
def topS (i : Nat) : Stmt := PySem.Challenge.pw_umbrage_k49_marked_lines_turn.main.body.getD i (.Pass ⟨0, 0, 0, 0⟩)
def clsS (i j : Nat) : Stmt := match topS i with | .ClassDef _ _ _ b _ _ _ _ _ _ _ => b.getD j (.Pass ⟨0, 0, 0, 0⟩) | _ => .Pass ⟨0, 0, 0, 0⟩
abbrev si_Flat : Stmt := clsS 1 0
theorem sci_Flat : FnScope ["self"] ["self"] (defScope si_Flat) := ⟨rfl, rfl, rfl, by decide +kernel, rfl, by decide +kernel, by decide +kernel⟩
abbrev s__law_bag : Stmt := topS 19
theorem sc__law_bag : FnScope ["_law_script"] ["_law_script"] (defScope s__law_bag) := ⟨rfl, rfl, rfl, by decide +kernel, rfl, by decide +kernel, by decide +kernel⟩
abbrev s__law_gcd : Stmt := topS 21
theorem sc__law_gcd : FnScope ["_law_one", "_law_other", "_law_kept"] ["_law_one", "_law_other"] (defScope s__law_gcd) := ⟨rfl, rfl, rfl, by decide +kernel, rfl, by decide +kernel, by decide +kernel⟩
abbrev s__law_frac : Stmt := topS 22
theorem sc__law_frac : FnScope ["_law_above", "_law_below", "_law_divisor"] ["_law_above", "_law_below"] (defScope s__law_frac) := ⟨rfl, rfl, rfl, by decide +kernel, rfl, by decide +kernel, by decide +kernel⟩
abbrev s__law_pull : Stmt := topS 20
theorem sc__law_pull : FnScope ["_law_bag_here", "_law_size", "_law_cells", "_law_cell", "_law_spot_here"] ["_law_bag_here", "_law_size"] (defScope s__law_pull) := ⟨rfl, rfl, rfl, by decide +kernel, rfl, by decide +kernel, by decide +kernel⟩
abbrev s__law_part : Stmt := topS 27
theorem sc__law_part : FnScope ["_law_bag_here"] ["_law_bag_here"] (defScope s__law_part) := ⟨rfl, rfl, rfl, by decide +kernel, rfl, by decide +kernel, by decide +kernel⟩
abbrev s__law_spot : Stmt := topS 28
theorem sc__law_spot : FnScope ["_law_bag_here", "_law_rank", "_law_at"] ["_law_bag_here", "_law_rank"] (defScope s__law_spot) := ⟨rfl, rfl, rfl, by decide +kernel, rfl, by decide +kernel, by decide +kernel⟩
abbrev s__law_sub : Stmt := topS 24
theorem sc__law_sub : FnScope ["_law_one", "_law_other"] ["_law_one", "_law_other"] (defScope s__law_sub) := ⟨rfl, rfl, rfl, by decide +kernel, rfl, by decide +kernel, by decide +kernel⟩
abbrev s__law_add : Stmt := topS 23
theorem sc__law_add : FnScope ["_law_one", "_law_other"] ["_law_one", "_law_other"] (defScope s__law_add) := ⟨rfl, rfl, rfl, by decide +kernel, rfl, by decide +kernel, by decide +kernel⟩
abbrev s__law_mul : Stmt := topS 25
theorem sc__law_mul : FnScope ["_law_one", "_law_other"] ["_law_one", "_law_other"] (defScope s__law_mul) := ⟨rfl, rfl, rfl, by decide +kernel, rfl, by decide +kernel, by decide +kernel⟩
abbrev s__law_along : Stmt := topS 31
theorem sc__law_along : FnScope ["_law_one", "_law_two", "_law_share", "_law_steps", "_law_at"] ["_law_one", "_law_two", "_law_share"] (defScope s__law_along) := ⟨rfl, rfl, rfl, by decide +kernel, rfl, by decide +kernel, by decide +kernel⟩
abbrev s__law_spots : Stmt := topS 30
theorem sc__law_spots : FnScope ["_law_bag_here", "_law_rank", "_law_limit", "_law_many", "_law_found", "_law_kind", "_law_one", "_law_two", "_law_at"] ["_law_bag_here", "_law_rank", "_law_limit"] (defScope s__law_spots) := ⟨rfl, rfl, rfl, by decide +kernel, rfl, by decide +kernel, by decide +kernel⟩
abbrev s_shared : Stmt := topS 3
theorem sc_shared : FnScope ["one", "other"] ["one", "other"] (defScope s_shared) := ⟨rfl, rfl, rfl, by decide +kernel, rfl, by decide +kernel, by decide +kernel⟩
abbrev s_part : Stmt := topS 4
theorem sc_part : FnScope ["above", "below", "divisor"] ["above", "below"] (defScope s_part) := ⟨rfl, rfl, rfl, by decide +kernel, rfl, by decide +kernel, by decide +kernel⟩
abbrev s_over : Stmt := topS 8
theorem sc_over : FnScope ["one", "other"] ["one", "other"] (defScope s_over) := ⟨rfl, rfl, rfl, by decide +kernel, rfl, by decide +kernel, by decide +kernel⟩
abbrev s_common_below : Stmt := topS 10
theorem sc_common_below : FnScope ["spots", "found", "spot", "above", "below"] ["spots"] (defScope s_common_below) := ⟨rfl, rfl, rfl, by decide +kernel, rfl, by decide +kernel, by decide +kernel⟩
abbrev s_whole_row : Stmt := topS 11
theorem sc_whole_row : FnScope ["spot", "common", "above", "below"] ["spot", "common"] (defScope s_whole_row) := ⟨rfl, rfl, rfl, by decide +kernel, rfl, by decide +kernel, by decide +kernel⟩
abbrev s_rising : Stmt := topS 12
theorem sc_rising : FnScope ["spots", "common", "by_worth", "spot", "key"] ["spots"] (defScope s_rising) := ⟨rfl, rfl, rfl, by decide +kernel, rfl, by decide +kernel, by decide +kernel⟩
abbrev s_by_turning : Stmt := topS 16
theorem sc_by_turning : FnScope ["lines", "leaning", "found", "line", "lean"] ["lines"] (defScope s_by_turning) := ⟨rfl, rfl, rfl, by decide +kernel, rfl, by decide +kernel, by decide +kernel⟩
abbrev s_minus : Stmt := topS 6
theorem sc_minus : FnScope ["one", "other"] ["one", "other"] (defScope s_minus) := ⟨rfl, rfl, rfl, by decide +kernel, rfl, by decide +kernel, by decide +kernel⟩
abbrev s_plus : Stmt := topS 5
theorem sc_plus : FnScope ["one", "other"] ["one", "other"] (defScope s_plus) := ⟨rfl, rfl, rfl, by decide +kernel, rfl, by decide +kernel, by decide +kernel⟩
abbrev s_times : Stmt := topS 7
theorem sc_times : FnScope ["one", "other"] ["one", "other"] (defScope s_times) := ⟨rfl, rfl, rfl, by decide +kernel, rfl, by decide +kernel, by decide +kernel⟩
abbrev s_line_by : Stmt := topS 14
theorem sc_line_by : FnScope ["lean", "spot", "divisor", "right", "up", "last", "below"] ["lean", "spot"] (defScope s_line_by) := ⟨rfl, rfl, rfl, by decide +kernel, rfl, by decide +kernel, by decide +kernel⟩
abbrev s_line_through : Stmt := topS 15
theorem sc_line_through : FnScope ["spot", "other", "right", "up"] ["spot", "other"] (defScope s_line_through) := ⟨rfl, rfl, rfl, by decide +kernel, rfl, by decide +kernel, by decide +kernel⟩
abbrev s_marked_lines : Stmt := topS 17
theorem sc_marked_lines : FnScope ["spot", "marks", "found", "gaps", "at", "line", "lean", "mark"] ["spot", "marks"] (defScope s_marked_lines) := ⟨rfl, rfl, rfl, by decide +kernel, rfl, by decide +kernel, by decide +kernel⟩
abbrev s__law_hom : Stmt := topS 29
theorem sc__law_hom : FnScope ["_law_spot_here"] ["_law_spot_here"] (defScope s__law_hom) := ⟨rfl, rfl, rfl, by decide +kernel, rfl, by decide +kernel, by decide +kernel⟩
abbrev s__law_line : Stmt := topS 32
theorem sc__law_line : FnScope ["_law_one", "_law_two", "_law_first", "_law_second", "_law_a", "_law_b", "_law_c", "_law_divisor"] ["_law_one", "_law_two"] (defScope s__law_line) := ⟨rfl, rfl, rfl, by decide +kernel, rfl, by decide +kernel, by decide +kernel⟩
abbrev s__law_sign : Stmt := topS 26
theorem sc__law_sign : FnScope ["_law_number"] ["_law_number"] (defScope s__law_sign) := ⟨rfl, rfl, rfl, by decide +kernel, rfl, by decide +kernel, by decide +kernel⟩
abbrev s__law_cross_of : Stmt := topS 34
theorem sc__law_cross_of : FnScope ["_law_one", "_law_other"] ["_law_one", "_law_other"] (defScope s__law_cross_of) := ⟨rfl, rfl, rfl, by decide +kernel, rfl, by decide +kernel, by decide +kernel⟩
abbrev s__law_between_lines : Stmt := topS 36
theorem sc__law_between_lines : FnScope ["_law_line_here", "_law_gap", "_law_after", "_law_ends", "_law_turned_gap"] ["_law_line_here", "_law_gap", "_law_after"] (defScope s__law_between_lines) := ⟨rfl, rfl, rfl, by decide +kernel, rfl, by decide +kernel, by decide +kernel⟩
abbrev s__law_side : Stmt := topS 33
theorem sc__law_side : FnScope ["_law_line_here", "_law_spot_here", "_law_place", "_law_gap"] ["_law_line_here", "_law_spot_here"] (defScope s__law_side) := ⟨rfl, rfl, rfl, by decide +kernel, rfl, by decide +kernel, by decide +kernel⟩
abbrev s__law_good : Stmt := topS 35
theorem sc__law_good : FnScope ["_law_line_here", "_law_spot_here", "_law_number"] ["_law_line_here", "_law_spot_here"] (defScope s__law_good) := ⟨rfl, rfl, rfl, by decide +kernel, rfl, by decide +kernel, by decide +kernel⟩
abbrev s_law : Stmt := topS 37
theorem sc_law : FnScope ["_law_script", "_law_bag_here", "_law_spot_here", "_law_marks", "_law_handed", "_law_lines", "_law_at", "_law_found", "_law_gaps", "_law_mark", "_law_one", "_law_line_here"] ["_law_script"] (defScope s_law) := ⟨rfl, rfl, rfl, by decide +kernel, rfl, by decide +kernel, by decide +kernel⟩
set_option genInjectivity false
set_option genSizeOf false
structure TX (K : Fg) (mg : Str → Option Value) where
  cs : Cs
  ox_Flat : OxK K (cs "Flat")
  kC_Flat : PySem.W.keepIn K (.ref (cs "Flat")) = true
  fI_Flat : Addr
  dI_Flat : FuncData
  FI_Flat : Fun K "__init__" "Flat.__init__" si_Flat fI_Flat dI_Flat
  i_Flat : PySem.W.findIn K (.ref (cs "Flat")) "__init__" = some (some (.ref fI_Flat))
  ti_Flat : PySem.W.typeIn K (.ref fI_Flat) = some (.type "function")
  bi_Flat : Binds K dI_Flat ["self"] []
  g_Flat : mg "Flat" = some (.ref (cs "Flat"))
  xf_Flat : XfC K (cs "Flat")
  nw_Flat_word : PySem.W.findIn K (.ref (cs "Flat")) "word" = some none
  cf_Flat : ClsF K cs "Flat" ["word"]
  a__law_bag : Addr
  d__law_bag : FuncData
  F__law_bag : Fun K "_law_bag" "_law_bag" s__law_bag a__law_bag d__law_bag
  g__law_bag : mg "_law_bag" = some (.ref a__law_bag)
  b__law_bag : Binds K d__law_bag ["_law_script"] []
  a__law_gcd : Addr
  d__law_gcd : FuncData
  F__law_gcd : Fun K "_law_gcd" "_law_gcd" s__law_gcd a__law_gcd d__law_gcd
  g__law_gcd : mg "_law_gcd" = some (.ref a__law_gcd)
  b__law_gcd : Binds K d__law_gcd ["_law_one", "_law_other"] []
  a__law_frac : Addr
  d__law_frac : FuncData
  F__law_frac : Fun K "_law_frac" "_law_frac" s__law_frac a__law_frac d__law_frac
  g__law_frac : mg "_law_frac" = some (.ref a__law_frac)
  b__law_frac : Binds K d__law_frac ["_law_above", "_law_below"] []
  a__law_pull : Addr
  d__law_pull : FuncData
  F__law_pull : Fun K "_law_pull" "_law_pull" s__law_pull a__law_pull d__law_pull
  g__law_pull : mg "_law_pull" = some (.ref a__law_pull)
  b__law_pull : Binds K d__law_pull ["_law_bag_here", "_law_size"] []
  a__law_part : Addr
  d__law_part : FuncData
  F__law_part : Fun K "_law_part" "_law_part" s__law_part a__law_part d__law_part
  g__law_part : mg "_law_part" = some (.ref a__law_part)
  b__law_part : Binds K d__law_part ["_law_bag_here"] []
  a__law_spot : Addr
  d__law_spot : FuncData
  F__law_spot : Fun K "_law_spot" "_law_spot" s__law_spot a__law_spot d__law_spot
  g__law_spot : mg "_law_spot" = some (.ref a__law_spot)
  b__law_spot : Binds K d__law_spot ["_law_bag_here", "_law_rank"] []
  a__law_sub : Addr
  d__law_sub : FuncData
  F__law_sub : Fun K "_law_sub" "_law_sub" s__law_sub a__law_sub d__law_sub
  g__law_sub : mg "_law_sub" = some (.ref a__law_sub)
  b__law_sub : Binds K d__law_sub ["_law_one", "_law_other"] []
  a__law_add : Addr
  d__law_add : FuncData
  F__law_add : Fun K "_law_add" "_law_add" s__law_add a__law_add d__law_add
  g__law_add : mg "_law_add" = some (.ref a__law_add)
  b__law_add : Binds K d__law_add ["_law_one", "_law_other"] []
  a__law_mul : Addr
  d__law_mul : FuncData
  F__law_mul : Fun K "_law_mul" "_law_mul" s__law_mul a__law_mul d__law_mul
  g__law_mul : mg "_law_mul" = some (.ref a__law_mul)
  b__law_mul : Binds K d__law_mul ["_law_one", "_law_other"] []
  a__law_along : Addr
  d__law_along : FuncData
  F__law_along : Fun K "_law_along" "_law_along" s__law_along a__law_along d__law_along
  g__law_along : mg "_law_along" = some (.ref a__law_along)
  b__law_along : Binds K d__law_along ["_law_one", "_law_two", "_law_share"] []
  a__law_spots : Addr
  d__law_spots : FuncData
  F__law_spots : Fun K "_law_spots" "_law_spots" s__law_spots a__law_spots d__law_spots
  g__law_spots : mg "_law_spots" = some (.ref a__law_spots)
  b__law_spots : Binds K d__law_spots ["_law_bag_here", "_law_rank", "_law_limit"] []
  a_shared : Addr
  d_shared : FuncData
  F_shared : Fun K "shared" "shared" s_shared a_shared d_shared
  g_shared : mg "shared" = some (.ref a_shared)
  b_shared : Binds K d_shared ["one", "other"] []
  a_part : Addr
  d_part : FuncData
  F_part : FunD K "part" "part" (defArgs s_part) (defBody s_part) (defScope s_part) [V.int 1] [] a_part d_part
  g_part : mg "part" = some (.ref a_part)
  b_part : Binds K d_part ["above", "below"] []
  e1_part : List Value
  v1_part : Vals [V.int 1] e1_part
  b1_part : Binds K d_part ["above", "below"] e1_part
  a_over : Addr
  d_over : FuncData
  F_over : Fun K "over" "over" s_over a_over d_over
  g_over : mg "over" = some (.ref a_over)
  b_over : Binds K d_over ["one", "other"] []
  a_common_below : Addr
  d_common_below : FuncData
  F_common_below : Fun K "common_below" "common_below" s_common_below a_common_below d_common_below
  g_common_below : mg "common_below" = some (.ref a_common_below)
  b_common_below : Binds K d_common_below ["spots"] []
  a_whole_row : Addr
  d_whole_row : FuncData
  F_whole_row : Fun K "whole_row" "whole_row" s_whole_row a_whole_row d_whole_row
  g_whole_row : mg "whole_row" = some (.ref a_whole_row)
  b_whole_row : Binds K d_whole_row ["spot", "common"] []
  a_rising : Addr
  d_rising : FuncData
  F_rising : Fun K "rising" "rising" s_rising a_rising d_rising
  g_rising : mg "rising" = some (.ref a_rising)
  b_rising : Binds K d_rising ["spots"] []
  a_by_turning : Addr
  d_by_turning : FuncData
  F_by_turning : Fun K "by_turning" "by_turning" s_by_turning a_by_turning d_by_turning
  g_by_turning : mg "by_turning" = some (.ref a_by_turning)
  b_by_turning : Binds K d_by_turning ["lines"] []
  a_minus : Addr
  d_minus : FuncData
  F_minus : Fun K "minus" "minus" s_minus a_minus d_minus
  g_minus : mg "minus" = some (.ref a_minus)
  b_minus : Binds K d_minus ["one", "other"] []
  a_plus : Addr
  d_plus : FuncData
  F_plus : Fun K "plus" "plus" s_plus a_plus d_plus
  g_plus : mg "plus" = some (.ref a_plus)
  b_plus : Binds K d_plus ["one", "other"] []
  a_times : Addr
  d_times : FuncData
  F_times : Fun K "times" "times" s_times a_times d_times
  g_times : mg "times" = some (.ref a_times)
  b_times : Binds K d_times ["one", "other"] []
  a_line_by : Addr
  d_line_by : FuncData
  F_line_by : Fun K "line_by" "line_by" s_line_by a_line_by d_line_by
  g_line_by : mg "line_by" = some (.ref a_line_by)
  b_line_by : Binds K d_line_by ["lean", "spot"] []
  a_line_through : Addr
  d_line_through : FuncData
  F_line_through : Fun K "line_through" "line_through" s_line_through a_line_through d_line_through
  g_line_through : mg "line_through" = some (.ref a_line_through)
  b_line_through : Binds K d_line_through ["spot", "other"] []
  a_marked_lines : Addr
  d_marked_lines : FuncData
  F_marked_lines : Fun K "marked_lines" "marked_lines" s_marked_lines a_marked_lines d_marked_lines
  g_marked_lines : mg "marked_lines" = some (.ref a_marked_lines)
  b_marked_lines : Binds K d_marked_lines ["spot", "marks"] []
  a__law_hom : Addr
  d__law_hom : FuncData
  F__law_hom : Fun K "_law_hom" "_law_hom" s__law_hom a__law_hom d__law_hom
  g__law_hom : mg "_law_hom" = some (.ref a__law_hom)
  b__law_hom : Binds K d__law_hom ["_law_spot_here"] []
  a__law_line : Addr
  d__law_line : FuncData
  F__law_line : Fun K "_law_line" "_law_line" s__law_line a__law_line d__law_line
  g__law_line : mg "_law_line" = some (.ref a__law_line)
  b__law_line : Binds K d__law_line ["_law_one", "_law_two"] []
  a__law_sign : Addr
  d__law_sign : FuncData
  F__law_sign : Fun K "_law_sign" "_law_sign" s__law_sign a__law_sign d__law_sign
  g__law_sign : mg "_law_sign" = some (.ref a__law_sign)
  b__law_sign : Binds K d__law_sign ["_law_number"] []
  a__law_cross_of : Addr
  d__law_cross_of : FuncData
  F__law_cross_of : Fun K "_law_cross_of" "_law_cross_of" s__law_cross_of a__law_cross_of d__law_cross_of
  g__law_cross_of : mg "_law_cross_of" = some (.ref a__law_cross_of)
  b__law_cross_of : Binds K d__law_cross_of ["_law_one", "_law_other"] []
  a__law_between_lines : Addr
  d__law_between_lines : FuncData
  F__law_between_lines : Fun K "_law_between_lines" "_law_between_lines" s__law_between_lines a__law_between_lines d__law_between_lines
  g__law_between_lines : mg "_law_between_lines" = some (.ref a__law_between_lines)
  b__law_between_lines : Binds K d__law_between_lines ["_law_line_here", "_law_gap", "_law_after"] []
  a__law_side : Addr
  d__law_side : FuncData
  F__law_side : Fun K "_law_side" "_law_side" s__law_side a__law_side d__law_side
  g__law_side : mg "_law_side" = some (.ref a__law_side)
  b__law_side : Binds K d__law_side ["_law_line_here", "_law_spot_here"] []
  a__law_good : Addr
  d__law_good : FuncData
  F__law_good : Fun K "_law_good" "_law_good" s__law_good a__law_good d__law_good
  g__law_good : mg "_law_good" = some (.ref a__law_good)
  b__law_good : Binds K d__law_good ["_law_line_here", "_law_spot_here"] []
  n_abs : mg "abs" = none
  n_all : mg "all" = none
  n_bool : mg "bool" = none
  n_enumerate : mg "enumerate" = none
  n_int : mg "int" = none
  n_isinstance : mg "isinstance" = none
  n_len : mg "len" = none
  n_list : mg "list" = none
  n_max : mg "max" = none
  n_range : mg "range" = none
  n_set : mg "set" = none
  n_sorted : mg "sorted" = none
  n_tuple : mg "tuple" = none
section
variable {Pg : Program} {w : World} {K : Fg} {mg : Str → Option Value} {base : Heap} {cs : Cs} {gs : Gs}
theorem ok_Flat (T : TX K mg) : FnOk Pg w K mg base CX0 1 T.fI_Flat T.dI_Flat ["self"] (spIn K ["word"] gFlat) :=
  okFlat T.FI_Flat sci_Flat (fun cdv A outer sh H E => (pss_one (ps_ox (pv 0) pe_str)))
theorem ok__law_bag (T : TX K mg) : FnOk Pg w K mg base CX0 1 T.a__law_bag T.d__law_bag ["_law_script"] (spBag K) := qt_of (by simp (disch := with_unfolding_all
  refine T.F__law_bag.ok sc__law_bag (fun vs H Q E h => ?_) (fun cdv A outer sh H vs Q E hr h => ?_)
  · obtain ⟨W, ns, _, hd, _⟩ := h
    exact dpa_len hd
  · obtain ⟨W, ns, hW, hd, hl, q⟩ := h
    obtain ⟨v, rfl, dv⟩ := dp1 hd
    exact ⟨t__law_bag K, (pss_one (ps_ret (pe_lst (pa_cons (pe_callTy c_list (by rfl) T.n_list (by decide +kernel) (pa_cons (pe_slice sl_list (pv 0) po_none (po_some pe_int)) pa_nil)) (pa_cons pe_int (pa_cons pe_int pa_nil)))))), rd__law_bag dv hl q⟩
  ) only [↓qt_eq])
theorem ok__law_gcd (T : TX K mg) : FnOk Pg w K mg base CX0 1 T.a__law_gcd T.d__law_gcd ["_law_one", "_law_other"] (spP K P_gcd) :=
  okP T.F__law_gcd sc__law_gcd ln__law_gcd (fun ds r h cdv A outer sh H E hr => ⟨t__law_gcd K, (pss_cons (ps_set (i := 0) sc__law_gcd.nd rfl (by first | exact Or.inl rfl | exact Or.inr rfl) (pe_callB c_abs (by rfl) T.n_abs (by decide +kernel) (pa_cons (pv 0) pa_nil)))
      (pss_cons (ps_set (i := 1) sc__law_gcd.nd rfl (by first | exact Or.inl rfl | exact Or.inr rfl) (pe_callB c_abs (by rfl) T.n_abs (by decide +kernel) (pa_cons (pv 1) pa_nil)))
      (pss_cons (ps_while PassesOwn.never (pt_cmpR op_gt (pv 1) pe_int (nomark _)) (pss_cons (ps_set (i := 2) sc__law_gcd.nd rfl (by first | exact Or.inl rfl | exact Or.inr rfl) (pv 1))
      (pss_cons (ps_set (i := 1) sc__law_gcd.nd rfl (by first | exact Or.inl rfl | exact Or.inr rfl) (pe_op op_modX (pv 0) (pv 1)))
      (pss_one (ps_set (i := 0) sc__law_gcd.nd rfl (by first | exact Or.inl rfl | exact Or.inr rfl) (pv 2))))))
      (pss_one (ps_ret (pe_callB (c_max2 rfl) (by rfl) T.n_max (by decide +kernel) (pa_cons pe_int (pa_cons (pv 0) pa_nil)))))))), rd__law_gcd h⟩)
theorem ok__law_frac (T : TX K mg) : FnOk Pg w K mg base CX0 2 T.a__law_frac T.d__law_frac ["_law_above", "_law_below"] (spP K P_frac) :=
  okP T.F__law_frac sc__law_frac ln__law_frac (fun ds r h cdv A outer sh H E hr => ⟨t__law_frac K, (pss_cons (ps_set (i := 2) sc__law_frac.nd rfl (by first | exact Or.inl rfl | exact Or.inr rfl) (pe_call (ok__law_gcd T) (hr.mono (by decide)) (by rfl) T.g__law_gcd T.F__law_gcd.kp T.b__law_gcd .nil pass0 (pa_cons (pv 0) (pa_cons (pv 1) pa_nil))))
      (pss_cons (ps_if (pt_cmpR op_lt (pv 1) pe_int (nomark _)) (pss_one (ps_set (i := 2) sc__law_frac.nd rfl (by first | exact Or.inl rfl | exact Or.inr rfl) (pe_un un_neg (pv 2)))) pss_nil)
      (pss_one (ps_ret (pe_tup (pa_cons (pe_op op_fdivX (pv 0) (pv 2)) (pa_cons (pe_op op_fdivX (pv 1) (pv 2)) pa_nil))))))), rd__law_frac h⟩)
theorem ok__law_pull (T : TX K mg) : FnOk Pg w K mg base CX0 1 T.a__law_pull T.d__law_pull ["_law_bag_here", "_law_size"] (spB K P_pull) := qt_of (by simp (disch := with_unfolding_all
  refine T.F__law_pull.ok sc__law_pull (fun vs H Q E h => ?_) (fun cdv A outer sh H vs Q E hr h => ?_)
  · obtain ⟨W, b, c, us, s, ds, r, s', _, rfl, _, hd, hp, _⟩ := h
    rw [List.length_cons, dpa_len hd]
    exact ln__law_pull s ds r s' hp
  · obtain ⟨W, b, c, us, s, ds, r, s', hW, rfl, hB, hd, ⟨n, rfl, h0, h1, rfl, rfl⟩, q⟩ := h
    obtain ⟨v, rfl, dv⟩ := dp1 hd
    cases dv
    exact ⟨t__law_pull K, (pss_cons (ps_set (i := 2) sc__law_pull.nd rfl (by first | exact Or.inl rfl | exact Or.inr rfl) (pe_ix ix_seq (pv 0) pe_int (fun _ _ => rfl)))
      (pss_cons (ps_set (i := 3) sc__law_pull.nd rfl (by first | exact Or.inl rfl | exact Or.inr rfl) pe_int)
      (pss_cons (ps_if (pt_cmpR op_gt (pe_callB c_len (by rfl) T.n_len PySem.boot_len (pa_cons (pv 2) pa_nil)) pe_int (nomark _)) (pss_cons (ps_set (i := 4) sc__law_pull.nd rfl (by first | exact Or.inl rfl | exact Or.inr rfl) (pe_op op_modX (pe_ix ix_seq (pv 0) pe_int (fun _ _ => rfl)) (pe_callB c_len (by rfl) T.n_len PySem.boot_len (pa_cons (pv 2) pa_nil))))
      (pss_cons (ps_set (i := 3) sc__law_pull.nd rfl (by first | exact Or.inl rfl | exact Or.inr rfl) (pe_ix ix_seq (pv 2) (pv 4) (fun _ _ => rfl)))
      (pss_one (ps_if (pt_cmpR op_ge (pe_callB c_abs (by rfl) T.n_abs (by decide +kernel) (pa_cons (pv 3) pa_nil)) (pe_op op_pow pe_int pe_int) (nomark _)) (pss_cons (ps_asg (pe_op op_fdivX (pv 3) (pv 1)) (pg_sub (pv 2) (pv 4) set_list))
      (pss_one (ps_ret (pe_op op_modX (pv 3) (pv 1))))) pss_nil)))) pss_nil)
      (pss_cons (ps_asg (pe_op op_add (pe_ix ix_seq (pv 0) pe_int (fun _ _ => rfl)) pe_int) (pg_sub (pv 0) pe_int set_list))
      (pss_cons (ps_asg (pe_op op_modX (pe_op op_add (pe_op op_add (pe_op op_mulW (pe_ix ix_seq (pv 0) pe_int (fun _ _ => rfl)) pe_int) (pe_op op_modX (pv 3) pe_int)) (pe_ix ix_seq (pv 0) pe_int (fun _ _ => rfl))) pe_int) (pg_sub (pv 0) pe_int set_list))
      (pss_one (ps_ret (pe_op op_modX (pe_op op_fdivX (pe_op op_modX (pe_op op_add (pe_op op_mulW (pe_ix ix_seq (pv 0) pe_int (fun _ _ => rfl)) pe_int) (pe_op op_fdivX (pe_ix ix_seq (pv 0) pe_int (fun _ _ => rfl)) pe_int)) pe_int) pe_int) (pv 1))))))))), rd__law_pull hB h0 h1 q⟩
  ) only [↓qt_eq])
theorem ok__law_part (T : TX K mg) : FnOk Pg w K mg base CX0 3 T.a__law_part T.d__law_part ["_law_bag_here"] (spB K P_part) :=
  okB T.F__law_part sc__law_part ln__law_part (fun s ds r s' h ok cdv A outer sh H E hr => ⟨t__law_part K, (pss_one (ps_ret (pe_call (ok__law_frac T) (hr.mono (by decide)) (by rfl) T.g__law_frac T.F__law_frac.kp T.b__law_frac .nil pass0 (pa_cons (pe_op op_sub (pe_call (ok__law_pull T) (hr.mono (by decide)) (by rfl) T.g__law_pull T.F__law_pull.kp T.b__law_pull .nil pass0 (pa_cons (pv 0) (pa_cons pe_int pa_nil))) pe_int) (pa_cons (pe_ix ix_seq (pe_lst (pa_cons pe_int (pa_cons pe_int (pa_cons pe_int (pa_cons pe_int pa_nil))))) (pe_call (ok__law_pull T) (hr.mono (by decide)) (by rfl) T.g__law_pull T.F__law_pull.kp T.b__law_pull .nil pass0 (pa_cons (pv 0) (pa_cons pe_int pa_nil))) (fun _ _ => rfl)) pa_nil))))), rd__law_part h ok⟩)
theorem ok__law_spot (T : TX K mg) : FnOk Pg w K mg base CX0 4 T.a__law_spot T.d__law_spot ["_law_bag_here", "_law_rank"] (spB K P_spot) :=
  okB T.F__law_spot sc__law_spot ln__law_spot (fun s ds r s' h ok cdv A outer sh H E hr => ⟨t__law_spot K, (pss_one (ps_ret (pe_callTy c_tuple (by rfl) T.n_tuple (by decide +kernel) (pa_cons (pe_lc (own := [("_law_at", 2)]) (g := (gName 2)) (tt := tYes) rfl sc__law_spot.nd (pi_range1 (by rfl) T.n_range (pa_cons (pv 1) pa_nil)) (blkOk_by (own := [("_law_at", 2)]) (N := ["_law_bag_here", "_law_rank", "_law_at"]) (sc := defScope s__law_spot) (by decide +kernel)) (fun _ _ _ _ _ => (pg_name (i := 2) sc__law_spot.nd rfl (by first | exact Or.inl rfl | exact Or.inr rfl))) (fun _ _ _ _ _ => pts_nil) (fun _ _ _ _ _ => (pe_call (ok__law_part T) (hr.mono (by decide)) (by rfl) T.g__law_part T.F__law_part.kp T.b__law_part .nil pass0 (pa_cons (pv 0) pa_nil)))) pa_nil)))), rd__law_spot h ok⟩)
theorem ok__law_sub (T : TX K mg) : FnOk Pg w K mg base CX0 3 T.a__law_sub T.d__law_sub ["_law_one", "_law_other"] (spP K P_lsub) :=
  okP T.F__law_sub sc__law_sub ln__law_sub (fun ds r h cdv A outer sh H E hr => ⟨t__law_sub K, (pss_one (ps_ret (pe_call (ok__law_frac T) (hr.mono (by decide)) (by rfl) T.g__law_frac T.F__law_frac.kp T.b__law_frac .nil pass0 (pa_cons (pe_op op_sub (pe_op op_mulW (pe_ix ix_seq (pv 0) pe_int (fun _ _ => rfl)) (pe_ix ix_seq (pv 1) pe_int (fun _ _ => rfl))) (pe_op op_mulW (pe_ix ix_seq (pv 1) pe_int (fun _ _ => rfl)) (pe_ix ix_seq (pv 0) pe_int (fun _ _ => rfl)))) (pa_cons (pe_op op_mulW (pe_ix ix_seq (pv 0) pe_int (fun _ _ => rfl)) (pe_ix ix_seq (pv 1) pe_int (fun _ _ => rfl))) pa_nil))))), rd__law_sub h⟩)
theorem ok__law_add (T : TX K mg) : FnOk Pg w K mg base CX0 3 T.a__law_add T.d__law_add ["_law_one", "_law_other"] (spP K P_add) :=
  okP T.F__law_add sc__law_add ln__law_add (fun ds r h cdv A outer sh H E hr => ⟨t__law_add K, (pss_one (ps_ret (pe_call (ok__law_frac T) (hr.mono (by decide)) (by rfl) T.g__law_frac T.F__law_frac.kp T.b__law_frac .nil pass0 (pa_cons (pe_op op_add (pe_op op_mulW (pe_ix ix_seq (pv 0) pe_int (fun _ _ => rfl)) (pe_ix ix_seq (pv 1) pe_int (fun _ _ => rfl))) (pe_op op_mulW (pe_ix ix_seq (pv 1) pe_int (fun _ _ => rfl)) (pe_ix ix_seq (pv 0) pe_int (fun _ _ => rfl)))) (pa_cons (pe_op op_mulW (pe_ix ix_seq (pv 0) pe_int (fun _ _ => rfl)) (pe_ix ix_seq (pv 1) pe_int (fun _ _ => rfl))) pa_nil))))), rd__law_add h⟩)
theorem ok__law_mul (T : TX K mg) : FnOk Pg w K mg base CX0 3 T.a__law_mul T.d__law_mul ["_law_one", "_law_other"] (spP K P_lmul) :=
  okP T.F__law_mul sc__law_mul ln__law_mul (fun ds r h cdv A outer sh H E hr => ⟨t__law_mul K, (pss_one (ps_ret (pe_call (ok__law_frac T) (hr.mono (by decide)) (by rfl) T.g__law_frac T.F__law_frac.kp T.b__law_frac .nil pass0 (pa_cons (pe_op op_mulW (pe_ix ix_seq (pv 0) pe_int (fun _ _ => rfl)) (pe_ix ix_seq (pv 1) pe_int (fun _ _ => rfl))) (pa_cons (pe_op op_mulW (pe_ix ix_seq (pv 0) pe_int (fun _ _ => rfl)) (pe_ix ix_seq (pv 1) pe_int (fun _ _ => rfl))) pa_nil))))), rd__law_mul h⟩)
theorem ok__law_along (T : TX K mg) : FnOk Pg w K mg base CX0 4 T.a__law_along T.d__law_along ["_law_one", "_law_two", "_law_share"] (spP K P_along) :=
  okP T.F__law_along sc__law_along ln__law_along (fun ds r h cdv A outer sh H E hr => ⟨t__law_along K, (pss_cons (ps_set (i := 3) sc__law_along.nd rfl (by first | exact Or.inl rfl | exact Or.inr rfl) (pe_lc (own := [("_law_at", 4)]) (g := (gName 4)) (tt := tYes) rfl sc__law_along.nd (pi_range1 (by rfl) T.n_range (pa_cons (pe_callB c_len (by rfl) T.n_len PySem.boot_len (pa_cons (pv 0) pa_nil)) pa_nil)) (blkOk_by (own := [("_law_at", 4)]) (N := ["_law_one", "_law_two", "_law_share", "_law_steps", "_law_at"]) (sc := defScope s__law_along) (by decide +kernel)) (fun _ _ _ _ _ => (pg_name (i := 4) sc__law_along.nd rfl (by first | exact Or.inl rfl | exact Or.inr rfl))) (fun _ _ _ _ _ => pts_nil) (fun _ _ _ _ _ => (pe_call (ok__law_sub T) (hr.mono (by decide)) (by rfl) T.g__law_sub T.F__law_sub.kp T.b__law_sub .nil pass0 (pa_cons (pe_ix ix_seq (pv 1) (pv 4) (fun _ _ => rfl)) (pa_cons (pe_ix ix_seq (pv 0) (pv 4) (fun _ _ => rfl)) pa_nil))))))
      (pss_one (ps_ret (pe_callTy c_tuple (by rfl) T.n_tuple (by decide +kernel) (pa_cons (pe_lc (own := [("_law_at", 4)]) (g := (gName 4)) (tt := tYes) rfl sc__law_along.nd (pi_range1 (by rfl) T.n_range (pa_cons (pe_callB c_len (by rfl) T.n_len PySem.boot_len (pa_cons (pv 0) pa_nil)) pa_nil)) (blkOk_by (own := [("_law_at", 4)]) (N := ["_law_one", "_law_two", "_law_share", "_law_steps", "_law_at"]) (sc := defScope s__law_along) (by decide +kernel)) (fun _ _ _ _ _ => (pg_name (i := 4) sc__law_along.nd rfl (by first | exact Or.inl rfl | exact Or.inr rfl))) (fun _ _ _ _ _ => pts_nil) (fun _ _ _ _ _ => (pe_call (ok__law_add T) (hr.mono (by decide)) (by rfl) T.g__law_add T.F__law_add.kp T.b__law_add .nil pass0 (pa_cons (pe_ix ix_seq (pv 0) (pv 4) (fun _ _ => rfl)) (pa_cons (pe_call (ok__law_mul T) (hr.mono (by decide)) (by rfl) T.g__law_mul T.F__law_mul.kp T.b__law_mul .nil pass0 (pa_cons (pv 2) (pa_cons (pe_ix ix_seq (pv 3) (pv 4) (fun _ _ => rfl)) pa_nil))) pa_nil))))) pa_nil))))), rd__law_along h⟩)
theorem ok__law_spots (T : TX K mg) : FnOk Pg w K mg base CX0 5 T.a__law_spots T.d__law_spots ["_law_bag_here", "_law_rank", "_law_limit"] (spWB K P_lspotsT) :=
  okWB T.cs T.F__law_spots sc__law_spots ln_lspotsT (fun ds A h cdv Ar outer sh H E hr => ⟨t_lspotsT K, (pss_cons (ps_set (i := 3) sc__law_spots.nd rfl (by first | exact Or.inl rfl | exact Or.inr rfl) (pe_op op_addI pe_int (pe_call (ok__law_pull T) (hr.mono (by decide)) (by rfl) T.g__law_pull T.F__law_pull.kp T.b__law_pull .nil pass0 (pa_cons (pv 0) (pa_cons (pv 2) pa_nil)))))
      (pss_cons (ps_setLc (i := 4) (own := [("_law_at", 8)]) (g := (gName 8)) (tt := tYes) rfl sc__law_spots.nd rfl rfl (sw_true rfl rfl rfl (by decide +kernel)) (pi_range1 (by rfl) T.n_range (pa_cons (pv 3) pa_nil)) (blkOk_by (own := [("_law_at", 8)]) (N := ["_law_bag_here", "_law_rank", "_law_limit", "_law_many", "_law_found", "_law_kind", "_law_one", "_law_two", "_law_at"]) (sc := defScope s__law_spots) (by decide +kernel)) (fun _ _ _ _ _ => (pg_name (i := 8) sc__law_spots.nd rfl (by first | exact Or.inl rfl | exact Or.inr rfl))) (fun _ _ _ _ _ => pts_nil) (fun _ _ _ _ _ => (pe_call (ok__law_spot T) (hr.mono (by decide)) (by rfl) T.g__law_spot T.F__law_spot.kp T.b__law_spot .nil pass0 (pa_cons (pv 0) (pa_cons (pv 1) pa_nil)))))
      (pss_cons (ps_set (i := 5) sc__law_spots.nd rfl (by first | exact Or.inl rfl | exact Or.inr rfl) (pe_call (ok__law_pull T) (hr.mono (by decide)) (by rfl) T.g__law_pull T.F__law_pull.kp T.b__law_pull .nil pass0 (pa_cons (pv 0) (pa_cons pe_int pa_nil))))
      (pss_cons (ps_if (pt_cmpR op_eq (pv 5) pe_int (nomark _)) (pss_one (ps_expr (pe_bm PySem.F.plainAttrs_list PySem.F.slot_list_append PySem.F.type_list_append mt_append (pv 4) (pa_cons (pe_ix ix_seq (pv 4) (pe_call (ok__law_pull T) (hr.mono (by decide)) (by rfl) T.g__law_pull T.F__law_pull.kp T.b__law_pull .nil pass0 (pa_cons (pv 0) (pa_cons (pv 3) pa_nil))) (fun _ _ => rfl)) pa_nil)))) pss_nil)
      (pss_cons (ps_if (pt_cmpR op_eq (pv 5) pe_int (nomark _)) (pss_cons (ps_set (i := 6) sc__law_spots.nd rfl (by first | exact Or.inl rfl | exact Or.inr rfl) (pe_ix ix_seq (pv 4) pe_int (fun _ _ => rfl)))
      (pss_cons (ps_set (i := 7) sc__law_spots.nd rfl (by first | exact Or.inl rfl | exact Or.inr rfl) (pe_ix ix_seq (pv 4) (pe_un un_negI pe_int) (fun _ _ => rfl)))
      (pss_one (ps_expr (pe_bm PySem.F.plainAttrs_list PySem.F.slot_list_append PySem.F.type_list_append mt_append (pv 4) (pa_cons (pe_call (ok__law_along T) (hr.mono (by decide)) (by rfl) T.g__law_along T.F__law_along.kp T.b__law_along .nil pass0 (pa_cons (pv 6) (pa_cons (pv 7) (pa_cons (pe_call (ok__law_frac T) (hr.mono (by decide)) (by rfl) T.g__law_frac T.F__law_frac.kp T.b__law_frac .nil pass0 (pa_cons (pe_call (ok__law_pull T) (hr.mono (by decide)) (by rfl) T.g__law_pull T.F__law_pull.kp T.b__law_pull .nil pass0 (pa_cons (pv 0) (pa_cons pe_int pa_nil))) (pa_cons pe_int pa_nil))) pa_nil)))) pa_nil)))))) pss_nil)
      (pss_one (ps_ret (pv 4)))))))), rd_lspotsT h⟩)
theorem ok_shared (T : TX K mg) : FnOk Pg w K mg base CX0 1 T.a_shared T.d_shared ["one", "other"] (spP K P_gcd) :=
  okP T.F_shared sc_shared ln_shared (fun ds r h cdv A outer sh H E hr => ⟨t_shared K, (pss_cons (ps_par (i := 0) (j := 1) (by rfl) sc_shared.nd rfl rfl (by decide) rfl rfl (pa_cons (pe_callB c_abs (by rfl) T.n_abs (by decide +kernel) (pa_cons (pv 0) pa_nil)) (pa_cons (pe_callB c_abs (by rfl) T.n_abs (by decide +kernel) (pa_cons (pv 1) pa_nil)) pa_nil)) (by rfl))
      (pss_cons (ps_while PassesOwn.never (pt_cmpR op_gt (pv 1) pe_int (nomark _)) (pss_one (ps_par (i := 0) (j := 1) (by rfl) sc_shared.nd rfl rfl (by decide) rfl rfl (pa_cons (pv 1) (pa_cons (pe_op op_modX (pv 0) (pv 1)) pa_nil)) (by rfl))))
      (pss_one (ps_ret (pe_callB (c_max2 rfl) (by rfl) T.n_max (by decide +kernel) (pa_cons (pv 0) (pa_cons pe_int pa_nil))))))), rd_shared h⟩)
theorem ok_part (T : TX K mg) : FnOk Pg w K mg base (L2.CX Pg w) 3 T.a_part T.d_part ["above", "below"] (spX K T.cs P_partX) :=
  okXD T.F_part sc_part ln_part (fun ds r h cdv A outer sh H E hr => ⟨t_part K T.cs (WD E), (pss_cons (ps_if (pt_cmpR op_eq (pv 1) pe_int (nomark _)) (pss_one (ps_raise rfl (takes_of rfl rfl rfl rfl) (pmk_ox0 T.ox_Flat T.kC_Flat T.i_Flat T.ti_Flat (ok_Flat T) (hr.mono (by decide)) T.bi_Flat .nil pass0 (by rfl) T.g_Flat))) pss_nil)
      (pss_cons (ps_if (pt_cmpR op_lt (pv 1) pe_int (nomark _)) (pss_one (ps_par (i := 0) (j := 1) (by rfl) sc_part.nd rfl rfl (by decide) rfl rfl (pa_cons (pe_un un_neg (pv 0)) (pa_cons (pe_un un_neg (pv 1)) pa_nil)) (by rfl))) pss_nil)
      (pss_cons (ps_set (i := 2) sc_part.nd rfl (by first | exact Or.inl rfl | exact Or.inr rfl) (pe_call (ok_shared T) (hr.mono (by decide)) (by rfl) T.g_shared T.F_shared.kp T.b_shared .nil pass0 (pa_cons (pv 0) (pa_cons (pv 1) pa_nil))))
      (pss_one (ps_ret (pe_tup (pa_cons (pe_op op_fdivX (pv 0) (pv 2)) (pa_cons (pe_op op_fdivX (pv 1) (pv 2)) pa_nil)))))))), rd_part T.cf_Flat h (WD E)⟩)
theorem ok_over (T : TX K mg) : FnOk Pg w K mg base (L2.CX Pg w) 4 T.a_over T.d_over ["one", "other"] (spX K T.cs P_over) :=
  okX T.F_over sc_over ln_over (fun ds r h cdv A outer sh H E hr => ⟨t_over K T.cs (WD E), (pss_one (ps_ret (pe_callSD (ok_part T) (hr.mono (by decide)) (by rfl) T.g_part T.F_part.kp T.b_part .nil (fun σ => passAt (takes_of rfl rfl rfl rfl) σ) (pa_cons (pe_op op_mulW (pe_ix ix_seq (pv 0) pe_int (fun _ _ => rfl)) (pe_ix ix_seq (pv 1) pe_int (fun _ _ => rfl))) (pa_cons (pe_op op_mulW (pe_ix ix_seq (pv 0) pe_int (fun _ _ => rfl)) (pe_ix ix_seq (pv 1) pe_int (fun _ _ => rfl))) pa_nil))))), rd_over h (WD E)⟩)
theorem ok_common_below (T : TX K mg) : FnOk Pg w K mg base CX0 2 T.a_common_below T.d_common_below ["spots"] (spW0 K P_cb) :=
  okW T.cs T.F_common_below sc_common_below ln_common_below (fun ds A h cdv Ar outer sh H E hr => ⟨t_common_below K, (pss_cons (ps_set (i := 1) sc_common_below.nd rfl (by first | exact Or.inl rfl | exact Or.inr rfl) pe_int)
      (pss_cons (ps_for PassesOwn.never rfl (pi_seq (pv 0)) (pg_name (i := 2) sc_common_below.nd rfl (by first | exact Or.inl rfl | exact Or.inr rfl)) (pss_one (ps_for PassesOwn.never rfl (pi_tup (pv 2)) (pg_tup rfl (pgs_cons (pg_name (i := 3) sc_common_below.nd rfl (by first | exact Or.inl rfl | exact Or.inr rfl)) (pgs_cons (pg_name (i := 4) sc_common_below.nd rfl (by first | exact Or.inl rfl | exact Or.inr rfl)) pgs_nil))) (pss_one (ps_set (i := 1) sc_common_below.nd rfl (by first | exact Or.inl rfl | exact Or.inr rfl) (pe_op op_divI (pe_op op_mulI (pv 1) (pv 4)) (pe_call (ok_shared T) (hr.mono (by decide)) (by rfl) T.g_shared T.F_shared.kp T.b_shared .nil pass0 (pa_cons (pv 1) (pa_cons (pv 4) pa_nil)))))))))
      (pss_one (ps_ret (pv 1))))), rd_common_below h⟩)
theorem ok_whole_row (T : TX K mg) : FnOk Pg w K mg base CX0 1 T.a_whole_row T.d_whole_row ["spot", "common"] (spW0 K P_wr) :=
  okW T.cs T.F_whole_row sc_whole_row ln_whole_row (fun ds A h cdv Ar outer sh H E hr => ⟨t_whole_row K, (pss_one (ps_ret (pe_lc (own := [("above", 2), ("below", 3)]) (g := (gTup K 2 (gCons (gName 2) (gCons (gName 3) gNil)))) (tt := tYes) rfl sc_whole_row.nd (pi_tup (pv 0)) (blkOk_by (own := [("above", 2), ("below", 3)]) (N := ["spot", "common", "above", "below"]) (sc := defScope s_whole_row) (by decide +kernel)) (fun _ _ _ _ _ => (pg_tup rfl (pgs_cons (pg_name (i := 2) sc_whole_row.nd rfl (by first | exact Or.inl rfl | exact Or.inr rfl)) (pgs_cons (pg_name (i := 3) sc_whole_row.nd rfl (by first | exact Or.inl rfl | exact Or.inr rfl)) pgs_nil)))) (fun _ _ _ _ _ => pts_nil) (fun _ _ _ _ _ => (pe_op op_mulI (pv 2) (pe_op op_divI (pv 1) (pv 3))))))), rd_whole_row h⟩)
theorem ok_rising (T : TX K mg) : FnOk Pg w K mg base CX0 3 T.a_rising T.d_rising ["spots"] (spW0 K P_rising) :=
  okW T.cs T.F_rising sc_rising ln_rising (fun ds A h cdv Ar outer sh H E hr => ⟨t_rising K w, (pss_cons (ps_set (i := 1) sc_rising.nd rfl (by first | exact Or.inl rfl | exact Or.inr rfl) (pe_call (ok_common_below T) (hr.mono (by decide)) (by rfl) T.g_common_below T.F_common_below.kp T.b_common_below .nil pass0 (pa_cons (pv 0) pa_nil)))
      (pss_cons (ps_set (i := 2) sc_rising.nd rfl (by first | exact Or.inl rfl | exact Or.inr rfl) (pe_dcd (own := [("spot", 3)]) (g := (gName 3)) (tt := tYes) (u9 hr.units) rfl sc_rising.nd (pi_seq (pv 0)) (blkOk_by (own := [("spot", 3)]) (N := ["spots", "common", "by_worth", "spot", "key"]) (sc := defScope s_rising) (by decide +kernel)) (fun _ _ _ _ _ => (pg_name (i := 3) sc_rising.nd rfl (by first | exact Or.inl rfl | exact Or.inr rfl))) (fun _ _ _ _ _ => pts_nil) (fun _ _ _ _ _ => (pe_callTy c_tuple (by rfl) T.n_tuple (by decide +kernel) (pa_cons (pe_call (ok_whole_row T) (hr.mono (by decide)) (by rfl) T.g_whole_row T.F_whole_row.kp T.b_whole_row .nil pass0 (pa_cons (pv 3) (pa_cons (pv 1) pa_nil))) pa_nil))) (fun _ _ _ _ _ => (pv 3))))
      (pss_one (ps_ret (pe_lc (own := [("key", 4)]) (g := (gName 4)) (tt := tYes) rfl sc_rising.nd (pi_list (pe_callB (cr_srtD rfl hr.units) (by rfl) T.n_sorted (by decide +kernel) (pa_cons (pv 2) pa_nil))) (blkOk_by (own := [("key", 4)]) (N := ["spots", "common", "by_worth", "spot", "key"]) (sc := defScope s_rising) (by decide +kernel)) (fun _ _ _ _ _ => (pg_name (i := 4) sc_rising.nd rfl (by first | exact Or.inl rfl | exact Or.inr rfl))) (fun _ _ _ _ _ => pts_nil) (fun _ _ _ _ _ => (pe_ix (ix_dct (u9 hr.units)) (pv 2) (pv 4) (fun _ _ => rfl)))))))), rd_rising h⟩)
theorem ok_by_turning (T : TX K mg) : FnOk Pg w K mg base (L2.CX Pg w) 5 T.a_by_turning T.d_by_turning ["lines"] (spW K T.cs P_byTurn) :=
  okWX T.F_by_turning sc_by_turning ln_by_turning (fun ds A h cdv Ar outer sh H E hr => ⟨t_by_turning K w T.cs (WD E), (pss_cons (ps_set (i := 1) sc_by_turning.nd rfl (by first | exact Or.inl rfl | exact Or.inr rfl) (pe_dcd (own := [("line", 3)]) (g := (gName 3)) (tt := (tTest (tOp rNe (tOp (rIx K) (tVar 3) (tC (V.int 0))) (tC (V.int 0))))) (u9 hr.units) rfl sc_by_turning.nd (pi_list (pv 0)) (blkOk_by (own := [("line", 3)]) (N := ["lines", "leaning", "found", "line", "lean"]) (sc := defScope s_by_turning) (by decide +kernel)) (fun _ _ _ _ _ => (pg_name (i := 3) sc_by_turning.nd rfl (by first | exact Or.inl rfl | exact Or.inr rfl))) (fun _ _ _ _ _ => pts_one (pt_cmpR op_ne (pe_ix ix_seq (pv 3) pe_int (fun _ _ => rfl)) pe_int (nomark _))) (fun _ _ _ _ _ => (pe_callSD (ok_over T) (hr.mono (by decide)) (by rfl) T.g_over T.F_over.kp T.b_over .nil (fun σ => passAt takes0 σ) (pa_cons (pe_tup (pa_cons (pe_ix ix_seq (pv 3) pe_int (fun _ _ => rfl)) (pa_cons pe_int pa_nil))) (pa_cons (pe_tup (pa_cons (pe_ix ix_seq (pv 3) pe_int (fun _ _ => rfl)) (pa_cons pe_int pa_nil))) pa_nil)))) (fun _ _ _ _ _ => (pv 3))))
      (pss_cons (ps_setLc (i := 2) (own := [("lean", 4)]) (g := (gTup K 1 (gCons (gName 4) gNil))) (tt := tYes) rfl sc_by_turning.nd rfl rfl (sw_true rfl rfl rfl (by decide +kernel)) (pi_list (pe_call (ok_rising T) (hr.mono (by decide)) (by rfl) T.g_rising T.F_rising.kp T.b_rising .nil pass0 (pa_cons (pe_lc (own := [("lean", 4)]) (g := (gName 4)) (tt := tYes) rfl sc_by_turning.nd (pi_dct (pv 1)) (blkOk_by (own := [("lean", 4)]) (N := ["lines", "leaning", "found", "line", "lean"]) (sc := defScope s_by_turning) (by decide +kernel)) (fun _ _ _ _ _ => (pg_name (i := 4) sc_by_turning.nd rfl (by first | exact Or.inl rfl | exact Or.inr rfl))) (fun _ _ _ _ _ => pts_nil) (fun _ _ _ _ _ => (pe_tup (pa_cons (pv 4) pa_nil)))) pa_nil))) (blkOk_by (own := [("lean", 4)]) (N := ["lines", "leaning", "found", "line", "lean"]) (sc := defScope s_by_turning) (by decide +kernel)) (fun _ _ _ _ _ => (pg_tup rfl (pgs_cons (pg_name (i := 4) sc_by_turning.nd rfl (by first | exact Or.inl rfl | exact Or.inr rfl)) pgs_nil))) (fun _ _ _ _ _ => pts_nil) (fun _ _ _ _ _ => (pe_ix (ix_dct (u9 hr.units)) (pv 1) (pv 4) (fun _ _ => rfl))))
      (pss_one (ps_ret (pe_op op_catL (pv 2) (pe_slice sl_list (pe_lc (own := [("line", 3)]) (g := (gName 3)) (tt := (tTest (tOp rEq (tOp (rIx K) (tVar 3) (tC (V.int 0))) (tC (V.int 0))))) rfl sc_by_turning.nd (pi_list (pv 0)) (blkOk_by (own := [("line", 3)]) (N := ["lines", "leaning", "found", "line", "lean"]) (sc := defScope s_by_turning) (by decide +kernel)) (fun _ _ _ _ _ => (pg_name (i := 3) sc_by_turning.nd rfl (by first | exact Or.inl rfl | exact Or.inr rfl))) (fun _ _ _ _ _ => pts_one (pt_cmpR op_eq (pe_ix ix_seq (pv 3) pe_int (fun _ _ => rfl)) pe_int (nomark _))) (fun _ _ _ _ _ => (pv 3))) po_none (po_some pe_int))))))), rd_by_turning h (WD E)⟩)
theorem ok_minus (T : TX K mg) : FnOk Pg w K mg base CX0 4 T.a_minus T.d_minus ["one", "other"] (spP K P_minus) :=
  okP T.F_minus sc_minus ln_minus (fun ds r h cdv A outer sh H E hr => ⟨t_minus K T.cs, (pss_one (ps_ret (pe_callSD (ok_part T) (hr.mono (by decide)) (by rfl) T.g_part T.F_part.kp T.b_part .nil (fun σ => passAt takes0 σ) (pa_cons (pe_op op_sub (pe_op op_mulW (pe_ix ix_seq (pv 0) pe_int (fun _ _ => rfl)) (pe_ix ix_seq (pv 1) pe_int (fun _ _ => rfl))) (pe_op op_mulW (pe_ix ix_seq (pv 1) pe_int (fun _ _ => rfl)) (pe_ix ix_seq (pv 0) pe_int (fun _ _ => rfl)))) (pa_cons (pe_op op_mulW (pe_ix ix_seq (pv 0) pe_int (fun _ _ => rfl)) (pe_ix ix_seq (pv 1) pe_int (fun _ _ => rfl))) pa_nil))))), rd_minus h⟩)
theorem ok_plus (T : TX K mg) : FnOk Pg w K mg base CX0 4 T.a_plus T.d_plus ["one", "other"] (spP K P_plus) :=
  okP T.F_plus sc_plus ln_plus (fun ds r h cdv A outer sh H E hr => ⟨t_plus K T.cs, (pss_one (ps_ret (pe_callSD (ok_part T) (hr.mono (by decide)) (by rfl) T.g_part T.F_part.kp T.b_part .nil (fun σ => passAt takes0 σ) (pa_cons (pe_op op_add (pe_op op_mulW (pe_ix ix_seq (pv 0) pe_int (fun _ _ => rfl)) (pe_ix ix_seq (pv 1) pe_int (fun _ _ => rfl))) (pe_op op_mulW (pe_ix ix_seq (pv 1) pe_int (fun _ _ => rfl)) (pe_ix ix_seq (pv 0) pe_int (fun _ _ => rfl)))) (pa_cons (pe_op op_mulW (pe_ix ix_seq (pv 0) pe_int (fun _ _ => rfl)) (pe_ix ix_seq (pv 1) pe_int (fun _ _ => rfl))) pa_nil))))), rd_plus h⟩)
theorem ok_times (T : TX K mg) : FnOk Pg w K mg base CX0 4 T.a_times T.d_times ["one", "other"] (spP K P_times) :=
  okP T.F_times sc_times ln_times (fun ds r h cdv A outer sh H E hr => ⟨t_times K T.cs, (pss_one (ps_ret (pe_callSD (ok_part T) (hr.mono (by decide)) (by rfl) T.g_part T.F_part.kp T.b_part .nil (fun σ => passAt takes0 σ) (pa_cons (pe_op op_mulW (pe_ix ix_seq (pv 0) pe_int (fun _ _ => rfl)) (pe_ix ix_seq (pv 1) pe_int (fun _ _ => rfl))) (pa_cons (pe_op op_mulW (pe_ix ix_seq (pv 0) pe_int (fun _ _ => rfl)) (pe_ix ix_seq (pv 1) pe_int (fun _ _ => rfl))) pa_nil))))), rd_times h⟩)
theorem ok_line_by (T : TX K mg) : FnOk Pg w K mg base CX0 5 T.a_line_by T.d_line_by ["lean", "spot"] (spW0 K P_lineBy) :=
  okW T.cs T.F_line_by sc_line_by ln_line_by (fun ds A h cdv Ar outer sh H E hr => ⟨t_line_by K, (pss_cons (ps_asg (pv 0) (pg_tup rfl (pgs_cons (pg_name (i := 3) sc_line_by.nd rfl (by first | exact Or.inl rfl | exact Or.inr rfl)) (pgs_cons (pg_name (i := 4) sc_line_by.nd rfl (by first | exact Or.inl rfl | exact Or.inr rfl)) pgs_nil))))
      (pss_cons (ps_if (PW.pt (pw_or (pt_cmpR op_ltI (pv 3) pe_int (nomark _)) (pw_or1 (PW.pt (pw_and (pt_cmpR op_eq (pv 3) pe_int (nomark _)) (pw_and1 (pt_cmpR op_ltI (pv 4) pe_int (nomark _)))))))) (pss_one (ps_par (i := 3) (j := 4) (by rfl) sc_line_by.nd rfl rfl (by decide) rfl rfl (pa_cons (pe_un un_negI (pv 3)) (pa_cons (pe_un un_negI (pv 4)) pa_nil)) (by rfl))) pss_nil)
      (pss_cons (ps_asg (pe_call (ok_plus T) (hr.mono (by decide)) (by rfl) T.g_plus T.F_plus.kp T.b_plus .nil pass0 (pa_cons (pe_call (ok_times T) (hr.mono (by decide)) (by rfl) T.g_times T.F_times.kp T.b_times .nil pass0 (pa_cons (pe_tup (pa_cons (pv 3) (pa_cons pe_int pa_nil))) (pa_cons (pe_ix ix_seq (pv 1) pe_int (fun _ _ => rfl)) pa_nil))) (pa_cons (pe_call (ok_times T) (hr.mono (by decide)) (by rfl) T.g_times T.F_times.kp T.b_times .nil pass0 (pa_cons (pe_tup (pa_cons (pv 4) (pa_cons pe_int pa_nil))) (pa_cons (pe_ix ix_seq (pv 1) pe_int (fun _ _ => rfl)) pa_nil))) pa_nil))) (pg_tup rfl (pgs_cons (pg_name (i := 5) sc_line_by.nd rfl (by first | exact Or.inl rfl | exact Or.inr rfl)) (pgs_cons (pg_name (i := 6) sc_line_by.nd rfl (by first | exact Or.inl rfl | exact Or.inr rfl)) pgs_nil))))
      (pss_cons (ps_set (i := 2) sc_line_by.nd rfl (by first | exact Or.inl rfl | exact Or.inr rfl) (pe_call (ok_shared T) (hr.mono (by decide)) (by rfl) T.g_shared T.F_shared.kp T.b_shared .nil pass0 (pa_cons (pe_call (ok_shared T) (hr.mono (by decide)) (by rfl) T.g_shared T.F_shared.kp T.b_shared .nil pass0 (pa_cons (pe_op op_mulI (pv 3) (pv 6)) (pa_cons (pe_op op_mulI (pv 4) (pv 6)) pa_nil))) (pa_cons (pv 5) pa_nil))))
      (pss_one (ps_ret (pe_tup (pa_cons (pe_op op_divI (pe_op op_mulI (pv 3) (pv 6)) (pv 2)) (pa_cons (pe_op op_divI (pe_op op_mulI (pv 4) (pv 6)) (pv 2)) (pa_cons (pe_op op_divI (pv 5) (pv 2)) pa_nil)))))))))), rd_line_by h⟩)
theorem ok_line_through (T : TX K mg) : FnOk Pg w K mg base (L2.CX Pg w) 6 T.a_line_through T.d_line_through ["spot", "other"] (spW K T.cs P_lineThrough) :=
  okWX T.F_line_through sc_line_through ln_line_through (fun ds A h cdv Ar outer sh H E hr => ⟨t_line_through K T.cs (WD E), (pss_cons (ps_if (pt_cmpR (op_eqD hr.units) (pv 0) (pv 1) (nomark _)) (pss_one (ps_raise rfl (takes_of rfl rfl rfl rfl) (pmk_ox0 T.ox_Flat T.kC_Flat T.i_Flat T.ti_Flat (ok_Flat T) (hr.mono (by decide)) T.bi_Flat .nil pass0 (by rfl) T.g_Flat))) pss_nil)
      (pss_cons (ps_set (i := 2) sc_line_through.nd rfl (by first | exact Or.inl rfl | exact Or.inr rfl) (pe_call (ok_minus T) (hr.mono (by decide)) (by rfl) T.g_minus T.F_minus.kp T.b_minus .nil pass0 (pa_cons (pe_ix ix_seq (pv 1) pe_int (fun _ _ => rfl)) (pa_cons (pe_ix ix_seq (pv 0) pe_int (fun _ _ => rfl)) pa_nil))))
      (pss_cons (ps_set (i := 3) sc_line_through.nd rfl (by first | exact Or.inl rfl | exact Or.inr rfl) (pe_call (ok_minus T) (hr.mono (by decide)) (by rfl) T.g_minus T.F_minus.kp T.b_minus .nil pass0 (pa_cons (pe_ix ix_seq (pv 0) pe_int (fun _ _ => rfl)) (pa_cons (pe_ix ix_seq (pv 1) pe_int (fun _ _ => rfl)) pa_nil))))
      (pss_one (ps_ret (pe_call (ok_line_by T) (hr.mono (by decide)) (by rfl) T.g_line_by T.F_line_by.kp T.b_line_by .nil pass0 (pa_cons (pe_tup (pa_cons (pe_op op_mulI (pe_ix ix_seq (pv 2) pe_int (fun _ _ => rfl)) (pe_ix ix_seq (pv 3) pe_int (fun _ _ => rfl))) (pa_cons (pe_op op_mulI (pe_ix ix_seq (pv 3) pe_int (fun _ _ => rfl)) (pe_ix ix_seq (pv 2) pe_int (fun _ _ => rfl))) pa_nil))) (pa_cons (pv 0) pa_nil)))))))), rd_line_through T.cf_Flat h (WD E)⟩)
theorem ok_marked_lines (T : TX K mg) : FnOk Pg w K mg base (L2.CX Pg w) 7 T.a_marked_lines T.d_marked_lines ["spot", "marks"] (spW K T.cs P_marked) :=
  okWX T.F_marked_lines sc_marked_lines ln_marked_lines (fun ds A h cdv Ar outer sh H E hr => ⟨t_marked_lines K T.cs (WD E), (pss_cons (ps_set (i := 2) sc_marked_lines.nd rfl (by first | exact Or.inl rfl | exact Or.inr rfl) (pe_callSD (ok_by_turning T) (hr.mono (by decide)) (by rfl) T.g_by_turning T.F_by_turning.kp T.b_by_turning .nil (fun σ => passAt (takes_of rfl rfl rfl rfl) σ) (pa_cons (pe_lc (own := [("mark", 7)]) (g := (gName 7)) (tt := (tTest (tOp (rNeD K) (tVar 7) (tVar 0)))) rfl sc_marked_lines.nd (pi_list (pv 1)) (blkOk_by (own := [("mark", 7)]) (N := ["spot", "marks", "found", "gaps", "at", "line", "lean", "mark"]) (sc := defScope s_marked_lines) (by decide +kernel)) (fun _ _ _ _ _ => (pg_name (i := 7) sc_marked_lines.nd rfl (by first | exact Or.inl rfl | exact Or.inr rfl))) (fun _ _ _ _ _ => pts_one (pt_cmpR (op_neD hr.units) (pv 7) (pv 0) (nomark _))) (fun _ _ _ _ _ => (pe_callSD (ok_line_through T) (hr.mono (by decide)) (by rfl) T.g_line_through T.F_line_through.kp T.b_line_through .nil (fun σ => passAt takes0 σ) (pa_cons (pv 0) (pa_cons (pv 7) pa_nil))))) pa_nil)))
      (pss_cons (ps_set (i := 3) sc_marked_lines.nd rfl (by first | exact Or.inl rfl | exact Or.inr rfl) (pe_lst pa_nil))
      (pss_cons (ps_for (passes_of rfl) rfl (pi_enumM (by rfl) T.n_enumerate (pa_cons (pv 2) pa_nil)) (pg_tup rfl (pgs_cons (pg_name (i := 4) sc_marked_lines.nd rfl (by first | exact Or.inl rfl | exact Or.inr rfl)) (pgs_cons (pg_name (i := 5) sc_marked_lines.nd rfl (by first | exact Or.inl rfl | exact Or.inr rfl)) pgs_nil))) (pss_cons (ps_if (pt_cmpR op_eq (pe_callB c_len (by rfl) T.n_len PySem.boot_len (pa_cons (pv 2) pa_nil)) pe_int (nomark _)) (pss_one (ps_set (i := 6) sc_marked_lines.nd rfl (by first | exact Or.inl rfl | exact Or.inr rfl) (pe_tup (pa_cons (pe_un un_negI (pe_ix ix_seq (pv 5) pe_int (fun _ _ => rfl))) (pa_cons (pe_ix ix_seq (pv 5) pe_int (fun _ _ => rfl)) pa_nil))))) (pss_one (ps_if (pt_cmpR op_ltI (pe_op op_addI (pv 4) pe_int) (pe_callB c_len (by rfl) T.n_len PySem.boot_len (pa_cons (pv 2) pa_nil)) (nomark _)) (pss_one (ps_set (i := 6) sc_marked_lines.nd rfl (by first | exact Or.inl rfl | exact Or.inr rfl) (pe_tup (pa_cons (pe_op op_addI (pe_ix ix_seq (pv 5) pe_int (fun _ _ => rfl)) (pe_ix ix_seq (pe_ix ix_seq (pv 2) (pe_op op_addI (pv 4) pe_int) (fun _ _ => rfl)) pe_int (fun _ _ => rfl))) (pa_cons (pe_op op_addI (pe_ix ix_seq (pv 5) pe_int (fun _ _ => rfl)) (pe_ix ix_seq (pe_ix ix_seq (pv 2) (pe_op op_addI (pv 4) pe_int) (fun _ _ => rfl)) pe_int (fun _ _ => rfl))) pa_nil))))) (pss_one (ps_set (i := 6) sc_marked_lines.nd rfl (by first | exact Or.inl rfl | exact Or.inr rfl) (pe_tup (pa_cons (pe_op op_subI (pe_ix ix_seq (pv 5) pe_int (fun _ _ => rfl)) (pe_ix ix_seq (pe_ix ix_seq (pv 2) pe_int (fun _ _ => rfl)) pe_int (fun _ _ => rfl))) (pa_cons (pe_op op_subI (pe_ix ix_seq (pv 5) pe_int (fun _ _ => rfl)) (pe_ix ix_seq (pe_ix ix_seq (pv 2) pe_int (fun _ _ => rfl)) pe_int (fun _ _ => rfl))) pa_nil))))))))
      (pss_one (ps_expr (pe_bm PySem.F.plainAttrs_list PySem.F.slot_list_append PySem.F.type_list_append mt_append (pv 3) (pa_cons (pe_call (ok_line_by T) (hr.mono (by decide)) (by rfl) T.g_line_by T.F_line_by.kp T.b_line_by .nil pass0 (pa_cons (pv 6) (pa_cons (pv 0) pa_nil))) pa_nil))))))
      (pss_one (ps_ret (pe_tup (pa_cons (pv 2) (pa_cons (pv 3) pa_nil)))))))), rd_marked_lines h (WD E)⟩)
theorem ok__law_hom (T : TX K mg) : FnOk Pg w K mg base CX0 1 T.a__law_hom T.d__law_hom ["_law_spot_here"] (spP K P_hom) :=
  okP T.F__law_hom sc__law_hom ln__law_hom (fun ds r h cdv A outer sh H E hr => ⟨t__law_hom K, (pss_cons (ps_if (pt_cmpR op_eq (pe_callB c_len (by rfl) T.n_len PySem.boot_len (pa_cons (pv 0) pa_nil)) pe_int (nomark _)) (pss_one (ps_ret (pe_tup (pa_cons (pe_ix ix_seq (pe_ix ix_seq (pv 0) pe_int (fun _ _ => rfl)) pe_int (fun _ _ => rfl)) (pa_cons pe_int (pa_cons (pe_ix ix_seq (pe_ix ix_seq (pv 0) pe_int (fun _ _ => rfl)) pe_int (fun _ _ => rfl)) pa_nil)))))) pss_nil)
      (pss_one (ps_ret (pe_tup (pa_cons (pe_op op_mulW (pe_ix ix_seq (pe_ix ix_seq (pv 0) pe_int (fun _ _ => rfl)) pe_int (fun _ _ => rfl)) (pe_ix ix_seq (pe_ix ix_seq (pv 0) pe_int (fun _ _ => rfl)) pe_int (fun _ _ => rfl))) (pa_cons (pe_op op_mulW (pe_ix ix_seq (pe_ix ix_seq (pv 0) pe_int (fun _ _ => rfl)) pe_int (fun _ _ => rfl)) (pe_ix ix_seq (pe_ix ix_seq (pv 0) pe_int (fun _ _ => rfl)) pe_int (fun _ _ => rfl))) (pa_cons (pe_op op_mulW (pe_ix ix_seq (pe_ix ix_seq (pv 0) pe_int (fun _ _ => rfl)) pe_int (fun _ _ => rfl)) (pe_ix ix_seq (pe_ix ix_seq (pv 0) pe_int (fun _ _ => rfl)) pe_int (fun _ _ => rfl))) pa_nil))))))), rd__law_hom h⟩)
theorem ok__law_line (T : TX K mg) : FnOk Pg w K mg base CX0 2 T.a__law_line T.d__law_line ["_law_one", "_law_two"] (spW0 K P_lline) :=
  okW T.cs T.F__law_line sc__law_line ln__law_line (fun ds A h cdv Ar outer sh H E hr => ⟨t__law_line K, (pss_cons (ps_set (i := 2) sc__law_line.nd rfl (by first | exact Or.inl rfl | exact Or.inr rfl) (pe_call (ok__law_hom T) (hr.mono (by decide)) (by rfl) T.g__law_hom T.F__law_hom.kp T.b__law_hom .nil pass0 (pa_cons (pv 0) pa_nil)))
      (pss_cons (ps_set (i := 3) sc__law_line.nd rfl (by first | exact Or.inl rfl | exact Or.inr rfl) (pe_call (ok__law_hom T) (hr.mono (by decide)) (by rfl) T.g__law_hom T.F__law_hom.kp T.b__law_hom .nil pass0 (pa_cons (pv 1) pa_nil)))
      (pss_cons (ps_set (i := 4) sc__law_line.nd rfl (by first | exact Or.inl rfl | exact Or.inr rfl) (pe_op op_subI (pe_op op_mulI (pe_ix ix_seq (pv 2) pe_int (fun _ _ => rfl)) (pe_ix ix_seq (pv 3) pe_int (fun _ _ => rfl))) (pe_op op_mulI (pe_ix ix_seq (pv 2) pe_int (fun _ _ => rfl)) (pe_ix ix_seq (pv 3) pe_int (fun _ _ => rfl)))))
      (pss_cons (ps_set (i := 5) sc__law_line.nd rfl (by first | exact Or.inl rfl | exact Or.inr rfl) (pe_op op_subI (pe_op op_mulI (pe_ix ix_seq (pv 2) pe_int (fun _ _ => rfl)) (pe_ix ix_seq (pv 3) pe_int (fun _ _ => rfl))) (pe_op op_mulI (pe_ix ix_seq (pv 2) pe_int (fun _ _ => rfl)) (pe_ix ix_seq (pv 3) pe_int (fun _ _ => rfl)))))
      (pss_cons (ps_set (i := 6) sc__law_line.nd rfl (by first | exact Or.inl rfl | exact Or.inr rfl) (pe_op op_subI (pe_op op_mulI (pe_ix ix_seq (pv 2) pe_int (fun _ _ => rfl)) (pe_ix ix_seq (pv 3) pe_int (fun _ _ => rfl))) (pe_op op_mulI (pe_ix ix_seq (pv 2) pe_int (fun _ _ => rfl)) (pe_ix ix_seq (pv 3) pe_int (fun _ _ => rfl)))))
      (pss_cons (ps_set (i := 7) sc__law_line.nd rfl (by first | exact Or.inl rfl | exact Or.inr rfl) (pe_call (ok__law_gcd T) (hr.mono (by decide)) (by rfl) T.g__law_gcd T.F__law_gcd.kp T.b__law_gcd .nil pass0 (pa_cons (pe_call (ok__law_gcd T) (hr.mono (by decide)) (by rfl) T.g__law_gcd T.F__law_gcd.kp T.b__law_gcd .nil pass0 (pa_cons (pv 4) (pa_cons (pv 5) pa_nil))) (pa_cons (pv 6) pa_nil))))
      (pss_cons (ps_if (PW.pt (pw_or (pt_cmpR op_ltI (pv 4) pe_int (nomark _)) (pw_or1 (PW.pt (pw_and (pt_cmpR op_eq (pv 4) pe_int (nomark _)) (pw_and1 (pt_cmpR op_ltI (pv 5) pe_int (nomark _)))))))) (pss_one (ps_set (i := 7) sc__law_line.nd rfl (by first | exact Or.inl rfl | exact Or.inr rfl) (pe_un un_negI (pv 7)))) pss_nil)
      (pss_one (ps_ret (pe_tup (pa_cons (pe_op op_divI (pv 4) (pv 7)) (pa_cons (pe_op op_divI (pv 5) (pv 7)) (pa_cons (pe_op op_divI (pv 6) (pv 7)) pa_nil))))))))))))), rd__law_line h⟩)
theorem ok__law_sign (T : TX K mg) : FnOk Pg w K mg base CX0 1 T.a__law_sign T.d__law_sign ["_law_number"] (spP K P_sign) :=
  okP T.F__law_sign sc__law_sign ln__law_sign (fun ds r h cdv A outer sh H E hr => ⟨t__law_sign K, (pss_one (ps_ret (pe_op op_sub (pe_callTy c_int1 (by rfl) T.n_int (by decide +kernel) (pa_cons (pe_cmpR op_gt (pv 0) pe_int (nomark _)) pa_nil)) (pe_callTy c_int1 (by rfl) T.n_int (by decide +kernel) (pa_cons (pe_cmpR op_lt (pv 0) pe_int (nomark _)) pa_nil))))), rd__law_sign h⟩)
theorem ok__law_cross_of (T : TX K mg) : FnOk Pg w K mg base CX0 2 T.a__law_cross_of T.d__law_cross_of ["_law_one", "_law_other"] (spW0 K P_crossOf) :=
  okW T.cs T.F__law_cross_of sc__law_cross_of ln__law_cross_of (fun ds A h cdv Ar outer sh H E hr => ⟨t__law_cross_of K, (pss_one (ps_ret (pe_call (ok__law_sign T) (hr.mono (by decide)) (by rfl) T.g__law_sign T.F__law_sign.kp T.b__law_sign .nil pass0 (pa_cons (pe_op op_subI (pe_op op_mulI (pe_ix ix_seq (pv 0) pe_int (fun _ _ => rfl)) (pe_ix ix_seq (pv 1) pe_int (fun _ _ => rfl))) (pe_op op_mulI (pe_ix ix_seq (pv 0) pe_int (fun _ _ => rfl)) (pe_ix ix_seq (pv 1) pe_int (fun _ _ => rfl)))) pa_nil)))), rd__law_cross_of h⟩)
theorem ok__law_between_lines (T : TX K mg) : FnOk Pg w K mg base CX0 3 T.a__law_between_lines T.d__law_between_lines ["_law_line_here", "_law_gap", "_law_after"] (spW0 K P_btwL) :=
  okW T.cs T.F__law_between_lines sc__law_between_lines ln__law_between_lines (fun ds A h cdv Ar outer sh H E hr => ⟨t__law_between_lines K, (pss_cons (ps_set (i := 3) sc__law_between_lines.nd rfl (by first | exact Or.inl rfl | exact Or.inr rfl) (pe_slice sl_tupA (pv 2) po_none (po_some pe_int)))
      (pss_cons (ps_if (pt_cmpR op_leI (pe_call (ok__law_cross_of T) (hr.mono (by decide)) (by rfl) T.g__law_cross_of T.F__law_cross_of.kp T.b__law_cross_of .nil pass0 (pa_cons (pv 0) (pa_cons (pv 2) pa_nil))) pe_int (nomark _)) (pss_one (ps_set (i := 3) sc__law_between_lines.nd rfl (by first | exact Or.inl rfl | exact Or.inr rfl) (pe_tup (pa_cons (pe_un un_negI (pe_ix ix_seq (pv 2) pe_int (fun _ _ => rfl))) (pa_cons (pe_un un_negI (pe_ix ix_seq (pv 2) pe_int (fun _ _ => rfl))) pa_nil))))) pss_nil)
      (pss_cons (ps_set (i := 4) sc__law_between_lines.nd rfl (by first | exact Or.inl rfl | exact Or.inr rfl) (pe_slice sl_tupA (pv 1) po_none (po_some pe_int)))
      (pss_cons (ps_if (pt_cmpR op_leI (pe_call (ok__law_cross_of T) (hr.mono (by decide)) (by rfl) T.g__law_cross_of T.F__law_cross_of.kp T.b__law_cross_of .nil pass0 (pa_cons (pv 0) (pa_cons (pv 1) pa_nil))) pe_int (nomark _)) (pss_one (ps_set (i := 4) sc__law_between_lines.nd rfl (by first | exact Or.inl rfl | exact Or.inr rfl) (pe_tup (pa_cons (pe_un un_negI (pe_ix ix_seq (pv 1) pe_int (fun _ _ => rfl))) (pa_cons (pe_un un_negI (pe_ix ix_seq (pv 1) pe_int (fun _ _ => rfl))) pa_nil))))) pss_nil)
      (pss_cons (ps_if (pt_cmpR op_leI (pe_call (ok__law_cross_of T) (hr.mono (by decide)) (by rfl) T.g__law_cross_of T.F__law_cross_of.kp T.b__law_cross_of .nil pass0 (pa_cons (pv 0) (pa_cons (pv 4) pa_nil))) pe_int (nomark _)) (pss_one (ps_ret pe_bl)) pss_nil)
      (pss_one (ps_ret (pe_or (pe_cmpR op_eq (pe_call (ok__law_cross_of T) (hr.mono (by decide)) (by rfl) T.g__law_cross_of T.F__law_cross_of.kp T.b__law_cross_of .nil pass0 (pa_cons (pv 0) (pa_cons (pv 3) pa_nil))) pe_int (nomark _)) (pe_one (pe_cmpR op_gtI (pe_call (ok__law_cross_of T) (hr.mono (by decide)) (by rfl) T.g__law_cross_of T.F__law_cross_of.kp T.b__law_cross_of .nil pass0 (pa_cons (pv 4) (pa_cons (pv 3) pa_nil))) pe_int (nomark _))))))))))), rd__law_between_lines h⟩)
theorem ok__law_side (T : TX K mg) : FnOk Pg w K mg base CX0 2 T.a__law_side T.d__law_side ["_law_line_here", "_law_spot_here"] (spW0 K P_lside48) :=
  okW T.cs T.F__law_side sc__law_side ln__law_side (fun ds A h cdv Ar outer sh H E hr => ⟨t__law_side K, (pss_cons (ps_set (i := 2) sc__law_side.nd rfl (by first | exact Or.inl rfl | exact Or.inr rfl) (pe_call (ok__law_hom T) (hr.mono (by decide)) (by rfl) T.g__law_hom T.F__law_hom.kp T.b__law_hom .nil pass0 (pa_cons (pv 1) pa_nil)))
      (pss_cons (ps_set (i := 3) sc__law_side.nd rfl (by first | exact Or.inl rfl | exact Or.inr rfl) (pe_op op_subI (pe_op op_mulI (pe_ix ix_seq (pv 0) pe_int (fun _ _ => rfl)) (pe_ix ix_seq (pv 2) pe_int (fun _ _ => rfl))) (pe_op op_mulI (pe_ix ix_seq (pv 0) pe_int (fun _ _ => rfl)) (pe_ix ix_seq (pv 2) pe_int (fun _ _ => rfl)))))
      (pss_one (ps_ret (pe_call (ok__law_sign T) (hr.mono (by decide)) (by rfl) T.g__law_sign T.F__law_sign.kp T.b__law_sign .nil pass0 (pa_cons (pe_op op_addI (pv 3) (pe_op op_mulI (pe_ix ix_seq (pv 0) pe_int (fun _ _ => rfl)) (pe_ix ix_seq (pv 2) pe_int (fun _ _ => rfl)))) pa_nil)))))), rd__law_side h⟩)
theorem ok__law_good (T : TX K mg) : FnOk Pg w K mg base CX0 3 T.a__law_good T.d__law_good ["_law_line_here", "_law_spot_here"] (spW0 K P_lgood) :=
  okW T.cs T.F__law_good sc__law_good ln__law_good (fun ds A h cdv Ar outer sh H E hr => ⟨t__law_good K, (pss_cons (ps_if (PW.pt (pw_or (pt_not (pt_val (pe_callB call_isi (by rfl) T.n_isinstance (by decide +kernel) (pa_cons (pv 0) (pa_cons (pe_bltn (v := .ty "tuple") (by rfl) T.n_tuple (by decide +kernel) rfl) pa_nil))))) (pw_or1 (pt_cmpR op_ne (pe_callB c_len (by rfl) T.n_len PySem.boot_len (pa_cons (pv 0) pa_nil)) pe_int (nomark _))))) (pss_one (ps_ret pe_bl)) pss_nil)
      (pss_cons (ps_if (pt_not (pt_val (pe_callB (cr_all rfl) (by rfl) T.n_all (by decide +kernel) (pa_cons (pe_lc (own := [("_law_number", 2)]) (g := (gName 2)) (tt := tYes) rfl sc__law_good.nd (pi_tup (pv 0)) (blkOk_by (own := [("_law_number", 2)]) (N := ["_law_line_here", "_law_spot_here", "_law_number"]) (sc := defScope s__law_good) (by decide +kernel)) (fun _ _ _ _ _ => (pg_name (i := 2) sc__law_good.nd rfl (by first | exact Or.inl rfl | exact Or.inr rfl))) (fun _ _ _ _ _ => pts_nil) (fun _ _ _ _ _ => (pe_and (pe_callB call_isi (by rfl) T.n_isinstance (by decide +kernel) (pa_cons (pv 2) (pa_cons (pe_bltn (v := .ty "int") (by rfl) T.n_int (by decide +kernel) rfl) pa_nil))) (pe_one (pe_not (pe_callB call_isi (by rfl) T.n_isinstance (by decide +kernel) (pa_cons (pv 2) (pa_cons (pe_bltn (v := .ty "bool") (by rfl) T.n_bool (by decide +kernel) rfl) pa_nil)))))))) pa_nil)))) (pss_one (ps_ret pe_bl)) pss_nil)
      (pss_cons (ps_if (PW.pt (pw_or (pt_cmpR op_ne (pe_call (ok__law_gcd T) (hr.mono (by decide)) (by rfl) T.g__law_gcd T.F__law_gcd.kp T.b__law_gcd .nil pass0 (pa_cons (pe_call (ok__law_gcd T) (hr.mono (by decide)) (by rfl) T.g__law_gcd T.F__law_gcd.kp T.b__law_gcd .nil pass0 (pa_cons (pe_ix ix_seq (pv 0) pe_int (fun _ _ => rfl)) (pa_cons (pe_ix ix_seq (pv 0) pe_int (fun _ _ => rfl)) pa_nil))) (pa_cons (pe_ix ix_seq (pv 0) pe_int (fun _ _ => rfl)) pa_nil))) pe_int (nomark _)) (pw_or1 (pt_cmpR (op_eqD hr.units) (pe_slice sl_tupA (pv 0) po_none (po_some pe_int)) (pe_tup (pa_cons pe_int (pa_cons pe_int pa_nil))) (nomark _))))) (pss_one (ps_ret pe_bl)) pss_nil)
      (pss_one (ps_ret (pe_and (pe_or (pe_cmpR op_gtI (pe_ix ix_seq (pv 0) pe_int (fun _ _ => rfl)) pe_int (nomark _)) (pe_one (pe_and (pe_cmpR op_eq (pe_ix ix_seq (pv 0) pe_int (fun _ _ => rfl)) pe_int (nomark _)) (pe_one (pe_cmpR op_gtI (pe_ix ix_seq (pv 0) pe_int (fun _ _ => rfl)) pe_int (nomark _)))))) (pe_one (pe_cmpR op_eq (pe_call (ok__law_side T) (hr.mono (by decide)) (by rfl) T.g__law_side T.F__law_side.kp T.b__law_side .nil pass0 (pa_cons (pv 0) (pa_cons (pv 1) pa_nil))) pe_int (nomark _))))))))), rd__law_good h⟩)
def t_law (K : Fg) (cs : Cs) : TS := (tSeq (tAsg (tCall (spB K P_spot) [] E0 (tCons (tVar 1) (tCons (tC (V.int 2)) tNil))) (gName 2))
  (tSeq (tAsg (tCall (spWB K P_lspotsT) [] E0 (tCons (tVar 1) (tCons (tC (V.int 2)) (tCons (tC (V.int 6)) tNil)))) (gName 3))
  (tSeq (tIfS (tTest (tOp rEq (tCall (spB K P_pull) [] E0 (tCons (tVar 1) (tCons (tC (V.int 3)) tNil))) (tC (V.int 0)))) (tSeq (tDrop (tBM K "list" rAppend (tVar 3) (tCons (tVar 2) tNil)))
  (tDrop (tBM K "list" rIns (tVar 3) (tCons (tC (V.int 0)) (tCons (tTup (tCons (tOp (rIx K) (tVar 2) (tC (V.int 0))) (tCons (tCall (spB K P_part) [] E0 (tCons (tVar 1) tNil)) tNil))) tNil))))) tNext)
  (tSeq (tIfS (tTest (tOp rEq (tCall (spB K P_pull) [] E0 (tCons (tVar 1) (tCons (tC (V.int 6)) tNil))) (tC (V.int 0)))) (tAsg (tOp (rIx K) (tLst (tCons (tLst tNil) (tCons (tLst (tCons (tVar 2) tNil)) (tCons (tLst (tCons (tVar 2) (tCons (tOp (rIx K) (tVar 3) (tC (V.int 0))) (tCons (tOp (rIx K) (tVar 3) (tC (V.int 0))) tNil)))) tNil)))) (tCall (spB K P_pull) [] E0 (tCons (tVar 1) (tCons (tC (V.int 3)) tNil)))) (gName 3)) tNext)
  (tSeq (tIfS (tTest (tOp rEq (tCall (spB K P_pull) [] E0 (tCons (tVar 1) (tCons (tC (V.int 3)) tNil))) (tC (V.int 0)))) (tAsg (tOp (rCatL K) (tVar 3) (tLc (iList K (tSl (rSlL K) (tVar 3) tNoPart (tPart (tC (V.int 3))))) (gName 10) tYes (tCall (spP K P_along) [] E0 (tCons (tVar 2) (tCons (tVar 10) (tCons (tTup (tCons (tUn rNegI (tC (V.int 2))) (tCons (tC (V.int 3)) tNil))) tNil)))) [10])) (gName 3)) tNext)
  (tSeq (tAsg (tCB (rListQ K) (tCons (tVar 3) tNil)) (gName 4))
  (tSeq (tAsg (tCallSD (spW K cs P_marked) [] (WE W0) (tCons (tVar 2) (tCons (tVar 4) tNil))) (gTup K 2 (gCons (gName 7) (gCons (gName 8) gNil))))
  (tSeq (tAsg (tLc (iList K (tVar 3)) (gName 9) (tTest (tOp (rNeD K) (tVar 9) (tVar 2))) (tCall (spW0 K P_lline) [] E0 (tCons (tVar 2) (tCons (tVar 9) tNil))) [9]) (gName 5))
  (tSeq (tIfS (tOr (tTest (tOp (rNeD K) (tVar 4) (tVar 3))) (tOr (tNot (tB (tCB (rIsi K) (tCons (tVar 7) (tCons (tC (V.ty "list")) tNil))))) (tNot (tB (tCB (rIsi K) (tCons (tVar 8) (tCons (tC (V.ty "list")) tNil))))))) (tRet (tC (V.bl false))) tNext)
  (tSeq (tIfS (tTest (tOp rNe (tCB (rLenQ K) (tCons (tVar 8) tNil)) (tCB (rLenQ K) (tCons (tVar 7) tNil)))) (tRet (tC (V.bl false))) tNext)
  (tSeq (tIfS (tOr (tTest (tOp (rNeD K) (tCB (rSrtL K) (tCons (tVar 7) tNil)) (tSrtSet K (tVar 5)))) (tNot (tB (tCB (rAll K) (tCons (tLc (iList K (tOp (rCatL K) (tVar 7) (tVar 8))) (gName 11) tYes (tCall (spW0 K P_lgood) [] E0 (tCons (tVar 11) (tCons (tVar 2) tNil))) [11]) tNil))))) (tRet (tC (V.bl false))) tNext)
  (tSeq (tFor (iRng1 (tCons (tOp rSubI (tCB (rLenQ K) (tCons (tVar 7) tNil)) (tC (V.int 1))) tNil)) (gName 6) (tIfS (tTest (tOp rLeI (tCall (spW0 K P_crossOf) [] E0 (tCons (tOp (rIx K) (tVar 7) (tVar 6)) (tCons (tOp (rIx K) (tVar 7) (tOp rAddI (tVar 6) (tC (V.int 1)))) tNil))) (tC (V.int 0)))) (tRet (tC (V.bl false))) tNext))
  (tSeq (tFor (iRng1 (tCons (tCB (rLenQ K) (tCons (tVar 7) tNil)) tNil)) (gName 6) (tIfS (tNot (tB (tCall (spW0 K P_btwL) [] E0 (tCons (tOp (rIx K) (tVar 7) (tVar 6)) (tCons (tOp (rIx K) (tVar 8) (tVar 6)) (tCons (tOp (rIx K) (tVar 7) (tOp rModI (tOp rAddI (tVar 6) (tC (V.int 1))) (tCB (rLenQ K) (tCons (tVar 7) tNil)))) tNil)))))) (tRet (tC (V.bl false))) tNext))
  (tRet (tC (V.bl true))))))))))))))))
-- slots of law: 0 _law_script, 1 _law_bag_here, 2 _law_spot_here, 3 _law_marks, 4 _law_handed, 5 _law_lines, 6 _law_at, 7 _law_found, 8 _law_gaps, 9 _law_mark, 10 _law_one, 11 _law_line_here
open U.Hull
abbrev MK (ms : List Spot) : Prop := ∀ m ∈ ms, Gds 14 m ∧ m.length = 2
theorem lean_bd {us : List I3} (h : ∀ u ∈ us, Bd 190 u.1 ∧ Bd 190 u.2.1) {i : Nat} (hi : i < us.length) : Bd 191 (leanG us i).1 ∧ Bd 191 (leanG us i).2 := qt_of (by simp (disch := with_unfolding_all
  have b : ∀ {j}, j < us.length → Bd 190 (uAt us j).1 ∧ Bd 190 (uAt us j).2.1 := fun {j} hj => by rw [u_at hj]; exact h _ (List.getElem_mem hj)
  obtain ⟨b1, b2⟩ := b hi
  unfold leanG
  by_cases n1 : us.length = 1
  · rw [if_pos n1]
    exact ⟨b2.neg.mono (by decide), b1.mono (by decide)⟩
  · rw [if_neg n1]
    by_cases n2 : i + 1 < us.length
    · rw [if_pos n2]
      obtain ⟨c1, c2⟩ := b n2
      exact ⟨b1.add c1, b2.add c2⟩
    · rw [if_neg n2]
      obtain ⟨c1, c2⟩ := b (j := 0) (by omega)
      exact ⟨b1.sub c1, b2.sub c2⟩
  ) only [↓qt_eq])
theorem gap_at {s : Sp2} {us : List I3} {i : Nat} (hi : i < us.length) : (gapL s us (enL us))[i]? = some (lineByF (leanG us i).1 (leanG us i).2 s) := by
  unfold gapL
  have e : (enL us)[i]? = some (i, us[i]) := by
    unfold enL
    rw [List.getElem?_mapIdx, List.getElem?_eq_getElem hi]
    rfl
  rw [List.getElem?_map, e]
  rfl
theorem rd_law (ns : List Int) (hl : ns.length ≤ 63) : SW K cs W0 (t_law K cs) (.d (.list (ns.map PyData.int)) :: .bag :: List.replicate (12 - 2) .un) (fun o => o = .rt (.bool true)) := qt_of (by simp (disch := with_unfolding_all
  unfold t_law
  refine sw_seq ?_
  refine sw_asg (ew_callB (i := 1) rfl (aw_cons (ew_int (aw_nil fun s ok => c_spot3 (by decide) (by decide) (fun sp gsp lsp => ?_) s ok))))
  walk_at "s"
  refine sw_seq (sw_asgF (ef_callWB (i := 1) rfl ?_))
  walk_at "s"
  refine ⟨2, 6, rfl, .inr rfl, by decide, by decide, fun ss lv sps s1 s2 => ?_⟩
  walk_at "s"
  obtain ⟨x0, y0, rfl⟩ := len2 (show sp.length = 2 from lsp)
  refine sw_cut (fun G => ∃ ms, MK ms ∧ 1 ≤ ms.length ∧ ms.length ≤ 9 ∧ G = [.d (.list (ns.map PyData.int)), .bag, .d (frs [x0, y0]), .ow (ol (ms.map frs)), .un, .un, .un, .un, .un, .un, .un, .un]) ?_ ?_
  · walk_at "s"
    refine cnd_d (fun _ => ?_) (fun _ => ?_)
    · refine sw_seq ?_
      refine sw_app (i := 3) rfl (by rw [List.length_map]; omega) ?_
      walk_at "s"
      show SW K cs W0 _ _ _
      refine sw_ins0 (i := 3) rfl (by simp only [List.length_append, List.length_map, List.length_cons, List.length_nil]; omega) ?_
      walk_at "s"
      rename_i q gq
      refine ⟨[x0, q] :: (ss ++ [[x0, y0]]), fun m hm => ?_, by simp, by simp; omega, by rw [List.map_cons, List.map_append]; rfl⟩
      rcases List.mem_cons.mp hm with rfl | hm
      · exact ⟨Gds.two ((gsp x0 (by simp)).mono (by decide)) (gq.mono (by decide)), rfl⟩
      · rcases List.mem_append.mp hm with hm | hm
        · exact sps m hm
        · rw [List.mem_singleton.mp hm]
          exact ⟨gsp.mono (by decide), rfl⟩
    · walk_at "s"
      exact ⟨ss, fun m hm => sps m hm, s1, by omega, rfl⟩
  rintro _ ⟨ms, hM, m1, m9, rfl⟩
  refine sw_freeze (i := 3) rfl ?_
  refine sw_cut (fun G => ∃ ms, MK ms ∧ ms.length ≤ 9 ∧ G = [.d (.list (ns.map PyData.int)), .bag, .d (frs [x0, y0]), .d (.list (ms.map frs)), .un, .un, .un, .un, .un, .un, .un, .un]) ?_ ?_
  · walk_at "s"
    refine cnd_d (fun _ => ?_) (fun _ => ?_)
    · walk_at "s"
      obtain ⟨m0, mt, rfl⟩ : ∃ m0 mt, ms = m0 :: mt := by
        cases ms with
        | nil => simp at m1
        | cons a l => exact ⟨a, l, rfl⟩
      have a0 : atI ((m0 :: mt).map frs) 0 = some (frs m0) := by
        show atI _ ((0 : Nat) : Int) = _
        exact atI_nat rfl
      have g0 := hM m0 (by simp)
      have gs : Gds 14 [x0, y0] ∧ [x0, y0].length = 2 := ⟨gsp.mono (by decide), rfl⟩
      refine ⟨_, a0, ?_⟩
      walk_at "s"
      rename_i j j0 j1
      obtain ⟨l, ml, el⟩ := atI_in (f := fun l : List Spot => PyData.list (l.map frs)) (xs := [[], [[x0, y0]], [[x0, y0], m0, m0]]) (j := j) j0 j1
      refine ⟨_, el, ?_⟩
      refine ⟨_, rfl, l, fun m hm => ?_, ?_, rfl⟩
      · simp at ml
        rcases ml with rfl | rfl | rfl
        · simp at hm
        · rw [List.mem_singleton.mp hm]; exact gs
        · simp at hm
          rcases hm with rfl | rfl
          · exact gs
          · exact g0
      · simp at ml
        rcases ml with rfl | rfl | rfl <;> simp
    · walk_at "s"
      exact ⟨ms, hM, m9, rfl⟩
  rintro _ ⟨ms, hM, m9, rfl⟩
  have g0 : Gds 14 [x0, y0] := gsp.mono (by decide)
  have gsh : Gd 2 ((-2, 3) : Fr) := ⟨⟨by unfold Bd; decide, by unfold Bd; decide⟩, by decide, by decide⟩
  refine sw_cut (fun G => ∃ ms : List Spot, (∀ m ∈ ms, Gds 100 m ∧ m.length = 2 ∧ Gds 47 m) ∧ ms.length ≤ 12 ∧ G = [.d (.list (ns.map PyData.int)), .bag, .d (frs [x0, y0]), .d (.list (ms.map frs)), .un, .un, .un, .un, .un, .un, .un, .un]) ?_ ?_
  · walk_at "s"
    refine cnd_d (fun _ => ?_) (fun _ => ?_)
    · walk_at "s"
      rw [show (3 : Int) = ((3 : Nat) : Int) from rfl, cutD_to, ← List.map_take]
      refine lcM (f := frs) (fun m => frs (alongF (-2, 3) [x0, y0] m)) (by rw [List.length_take]; omega) (unk1 rfl) (fun m mm => ?_) ?_
      · obtain ⟨gm, lm⟩ := hM m (List.mem_of_mem_take mm)
        walk_at "s"
        refine c_along g0 gm gsh (by rw [lm]; rfl) (by simp) (by decide) (by decide) ?_
        walk_at "s"
        rfl
      walk_at "s"
      refine ⟨by simp only [List.length_map, List.length_take]; omega, _, rfl, ms ++ (ms.take 3).map (fun m => alongF (-2, 3) [x0, y0] m), fun m hm => ?_, ?_, ?_⟩
      · have key : Gds 47 m ∧ m.length = 2 := by
          rcases List.mem_append.mp hm with hm | hm
          · exact ⟨(hM m hm).1.mono (by decide), (hM m hm).2⟩
          · obtain ⟨t, ht, rfl⟩ := List.mem_map.mp hm
            obtain ⟨gt, lt⟩ := hM t (List.mem_of_mem_take ht)
            exact ⟨(along_gd gsh g0 gt).mono (by decide), along_len (by rw [lt]; rfl)⟩
        exact ⟨key.1.mono (by decide), key.2, key.1⟩
      · rw [List.length_append, List.length_map, List.length_take]
        omega
      · rw [List.map_append, List.map_map]
        rfl
    · walk_at "s"
      exact ⟨ms, fun m hm => ⟨(hM m hm).1.mono (by decide), (hM m hm).2, (hM m hm).1.mono (by decide)⟩, by omega, rfl⟩
  rintro _ ⟨ms, hM, m12, rfl⟩
  obtain ⟨s0, es⟩ : ∃ s0 : Sp2, s0 = ⟨x0, y0⟩ := ⟨_, rfl⟩
  have hs : s0.g 47 := by rw [es]; exact gsp.mono (by decide)
  have hs100 : s0.g 100 := hs.mono (by decide)
  rw [show frs [x0, y0] = s0.d by rw [es]]
  clear es
  have ok := mk_ok hs fun m hm => ⟨(hM m hm).2.2, (hM m hm).2.1⟩
  refine sw_seq ?_
  walk_at "s"
  refine sw_seq ?_
  walk_at "s"
  refine ⟨s0, ms, rfl, hs, fun m hm => ⟨(hM m hm).2.2, (hM m hm).2.1⟩, by omega, fun us T ul => ?_⟩
  walk_at "s"
  refine sw_seq ?_
  walk_at "s"
  refine lcF (f := frs) (fun m => decide (m ≠ s0.l)) (fun m => i3 (lineF s0 (sp2 m))) (by omega) (unk1 rfl) (fun m mm => ?_) ?_
  · obtain ⟨g1, l, g2⟩ := hM m mm
    have ga : (sp2 m).g 100 := by unfold Sp2.g; rw [sp2_l l]; exact g1
    walk_at "s"
    refine ⟨sh_frs (by omega), sh_frs (s := s0.l) (by show 2 ≤ 1000; decide), ?_⟩
    rw [show s0.d = frs s0.l from rfl, eqv_frs']
    refine ⟨_, rfl, by simp, fun z => ?_⟩
    have ne : m ≠ s0.l := by simpa using z
    walk_at "s"
    refine ⟨s0, sp2 m, by rw [sp2_d l], hs100, ga, ?_⟩
    walk_at "s"
    rw [line_eq hs100 ga (sp2_nz l ne)]
  walk_at "s"
  have e0 : (ms.filter fun m => decide (m ≠ s0.l)).map (fun m => i3 (lineF s0 (sp2 m))) = (mkLs s0 ms).map i3 := by unfold mkLs; rw [List.map_map]; rfl
  have l0 : (mkLs s0 ms).length ≤ 12 := by unfold mkLs; rw [List.length_map]; exact Nat.le_trans (List.length_filter_le _ _) m12
  rw [e0]
  generalize mkLs s0 ms = ls at *
  have okM : okD 4 (.list (ms.map frs)) = true := okD_list (by rw [List.length_map]; omega) fun x hx => by
    obtain ⟨m, hm, rfl⟩ := List.mem_map.mp hx
    exact okD_frs (by have := (hM m hm).2.1; omega)
  have shM := sh_frss (fs := ms) (by omega) fun m hm => by have := (hM m hm).2.1; omega
  refine sw_seq ?_
  walk_at "s"
  refine ⟨shM, shM, ?_⟩
  rw [eqv_self okM]
  refine ⟨_, rfl, cnd_f ?_⟩
  walk_at "s"
  refine ⟨true, kit_list_list, _, rfl, ?_⟩
  refine cnd_F rfl ?_
  walk_at "s"
  refine ⟨true, kit_list_list, _, rfl, ?_⟩
  refine cnd_F rfl ?_
  walk_at "s"
  have lg : (gapL s0 us (enL us)).length = us.length := by unfold gapL; rw [List.length_map, enL_len]
  refine sw_seq ?_
  walk_at "s"
  rw [List.length_map, List.length_map, lg]
  refine cnd_F (by simp) ?_
  walk_at "s"
  refine sw_seq ?_
  walk_at "s"
  have eI : us.map i3 = (us.map i3z).map fun a => PyData.tuple (inz a) := by rw [List.map_map]; rfl
  have ne3 : ∀ a ∈ us.map i3z, a ≠ [] ∧ a.length = 3 := fun a ha => by
    obtain ⟨v, _, rfl⟩ := List.mem_map.mp ha
    exact ⟨by simp, rfl⟩
  have eS : srtD (us.map i3) = (srtI (us.map i3z)).map fun a => PyData.tuple (inz a) := by rw [eI]; exact srt_tups _
  have okS : okD 4 (.list ((srtI (us.map i3z)).map fun a => PyData.tuple (inz a))) = true := okD_list (by rw [List.length_map]; unfold srtI; rw [List.length_mergeSort, List.length_map]; omega) fun x hx => by
    obtain ⟨a, ha, rfl⟩ := List.mem_map.mp hx
    refine okD_tup (by rw [List.length_map]; have := (ne3 a (srtI_mem.mp ha)).2; omega) fun z hz => ?_
    obtain ⟨n, _, rfl⟩ := List.mem_map.mp hz
    exact okD_i _ _
  have shS : SeqAt.shaped (.list ((srtI (us.map i3z)).map fun a => PyData.tuple (inz a))) = true := shaped_ok (n := 4) (can_list fun x hx => by
    obtain ⟨a, ha, rfl⟩ := List.mem_map.mp hx
    refine can_tup fun z hz => ?_
    obtain ⟨n, _, rfl⟩ := List.mem_map.mp hz
    rfl) okS (by decide)
  refine ⟨by rw [eI]; exact ok_tups fun a ha => (ne3 a ha).1, ?_⟩
  rw [eS]
  refine ew_srtSet ?_
  walk_at "s"
  refine ⟨ls.map i3z, by rw [List.map_map]; rfl, by rw [List.length_map]; omega, fun ks nd hk => ⟨ok_tups fun a ha => ?_, ?_⟩⟩
  · obtain ⟨v, _, rfl⟩ := List.mem_map.mp ((hk a).mp ha)
    simp
  have e2 : srtD (ks.map tupZ) = (srtI ks).map fun a => PyData.tuple (inz a) := srt_tups ks
  rw [e2, turn_srt T (fun v hv => (ok v hv).2) nd hk]
  refine ⟨shS, shS, ?_⟩
  rw [eqv_self okS]
  refine ⟨_, rfl, cnd_f ?_⟩
  have gok : ∀ {i}, i < us.length → LT s0 (lineByF (leanG us i).1 (leanG us i).2 s0) ∧ btwB (uAt us i) (lineByF (leanG us i).1 (leanG us i).2 s0) (uAt us ((i + 1) % us.length)) = true ∧ Bd 900 (lineByF (leanG us i).1 (leanG us i).2 s0).1 ∧ Bd 900 (lineByF (leanG us i).1 (leanG us i).2 s0).2.1 ∧ Bd 900 (lineByF (leanG us i).1 (leanG us i).2 s0).2.2 := fun {i} hi => by
    obtain ⟨a, b⟩ := gap_ok T (fun v hv => (ok v hv).2) hs hi
    obtain ⟨c, d⟩ := lean_bd (fun u hu => ⟨(ok u (T.sub u hu)).1.1, (ok u (T.sub u hu)).1.2.1⟩) hi
    exact ⟨a, b, lineBy_bd hs c d⟩
  have ub : ∀ {j}, j < us.length → Bd 190 (uAt us j).1 ∧ Bd 190 (uAt us j).2.1 := fun {j} hj => by
    rw [u_at hj]
    have := (ok _ (T.sub _ (List.getElem_mem hj))).1
    exact ⟨this.1, this.2.1⟩
  have au : ∀ {j : Nat}, j < us.length → atI (us.map i3) (j : Int) = some (i3 (uAt us j)) := fun {j} hj => atI_nat (by rw [List.getElem?_map, List.getElem?_eq_getElem hj, u_at hj]; rfl)
  have ag : ∀ {j : Nat}, j < us.length → atI ((gapL s0 us (enL us)).map i3) (j : Int) = some (i3 (lineByF (leanG us j).1 (leanG us j).2 s0)) := fun {j} hj => atI_nat (by rw [List.getElem?_map, gap_at hj]; rfl)
  walk_at "s"
  refine ⟨by simp only [List.length_map, lg]; omega, _, rfl, ?_⟩
  rw [← List.map_append]
  refine lcM (f := i3) (fun _ => .bool true) (by rw [List.length_append, lg]; omega) (unk1 rfl) (fun v mv => ?_) ?_
  · walk_at "s"
    rcases List.mem_append.mp mv with mv | mv
    · obtain ⟨⟨b1, b2, b3⟩, L⟩ := ok v (T.sub v mv)
      refine ⟨v, s0, rfl, hs100, b1.mono (by decide), b2.mono (by decide), b3.mono (by decide), L, ?_⟩
      walk_at "s"
      rfl
    · obtain ⟨p, mp, rfl⟩ := List.mem_map.mp mv
      have hp := (List.getElem?_eq_some_iff.mp (enL_mem mp)).1
      obtain ⟨L, _, b1, b2, b3⟩ := gok hp
      refine ⟨_, s0, rfl, hs100, b1.mono (by decide), b2.mono (by decide), b3.mono (by decide), L, ?_⟩
      walk_at "s"
      rfl
  walk_at "s"
  refine cnd_F (by simp) ?_
  walk_at "s"
  refine sw_cut (fun G => ∃ e6, G = [.d (.list (ns.map PyData.int)), .bag, .d s0.d, .d (.list (ms.map frs)), .d (.list (ms.map frs)), .d (.list (ls.map i3)), e6, .d (.list (us.map i3)), .d (.list ((gapL s0 us (enL us)).map i3)), .un, .un, .un]) ?_ ?_
  · walk_at "w"
    have eN : ((((us.map i3).length : Nat) : Int) - 1).toNat = us.length - 1 := by rw [List.length_map]; omega
    rw [eN]
    refine forN (fun i G => ∃ e6, G = [.d (.list (ns.map PyData.int)), .bag, .d s0.d, .d (.list (ms.map frs)), .d (.list (ms.map frs)), .d (.list (ls.map i3)), e6, .d (.list (us.map i3)), .d (.list ((gapL s0 us (enL us)).map i3)), .un, .un, .un]) ⟨_, rfl⟩ ?_ ?_
    · rintro i _ hi ⟨e6, rfl⟩
      have h0 : i < us.length := by omega
      have h1 : i + 1 < us.length := by omega
      obtain ⟨b1, b2⟩ := ub h0
      obtain ⟨c1, c2⟩ := ub h1
      have a1 := au h1
      rw [show (((i + 1 : Nat) : Int)) = (i : Int) + 1 by omega] at a1
      walk_at "w"
      refine ⟨_, au h0, ?_⟩
      walk_at "s"
      refine ⟨_, a1, ?_⟩
      walk_at "s"
      refine ⟨(uAt us i).1, (uAt us i).2.1, (uAt us (i + 1)).1, (uAt us (i + 1)).2.1, [.int (uAt us i).2.2], [.int (uAt us (i + 1)).2.2], rfl, b1.mono (by decide), b2.mono (by decide), c1.mono (by decide), c2.mono (by decide), ?_⟩
      walk_at "s"
      have lt := turn_lt T (show i < i + 1 by omega) h1
      refine cnd_no (by rw [sgn_le]; show ¬ cr3 (uAt us i) (uAt us (i + 1)) ≤ 0; omega) ?_
      walk_at "s"
      exact ⟨_, rfl⟩
    · rintro _ ⟨e6, rfl⟩
      exact ⟨_, rfl, _, rfl⟩
  rintro _ ⟨e6, rfl⟩
  walk_at "w"
  rw [show (((us.map i3).length : Nat) : Int).toNat = us.length by simp]
  refine forN (fun i G => ∃ e6, G = [.d (.list (ns.map PyData.int)), .bag, .d s0.d, .d (.list (ms.map frs)), .d (.list (ms.map frs)), .d (.list (ls.map i3)), e6, .d (.list (us.map i3)), .d (.list ((gapL s0 us (enL us)).map i3)), .un, .un, .un]) ⟨_, rfl⟩ ?_ ?_
  · rintro i _ hi ⟨e6, rfl⟩
    obtain ⟨b1, b2⟩ := ub hi
    obtain ⟨L, tr, c1, c2, _⟩ := gok hi
    have hm : (i + 1) % us.length < us.length := Nat.mod_lt _ (by omega)
    obtain ⟨d1, d2⟩ := ub hm
    walk_at "w"
    refine ⟨_, au hi, ?_⟩
    walk_at "s"
    refine ⟨_, ag hi, ?_⟩
    walk_at "s"
    rw [List.length_map]
    have un0 : ((us.length : Nat) : Int) ≠ 0 := by omega
    refine ⟨un0, ?_⟩
    have em : ((i : Int) + 1).fmod ((us.length : Nat) : Int) = (((i + 1) % us.length : Nat) : Int) := by
      rw [Int.fmod_eq_emod_of_nonneg _ (by omega)]
      exact (Int.natCast_emod (i + 1) us.length).symm
    rw [em]
    refine ⟨_, rfl, _, au hm, ?_⟩
    walk_at "s"
    refine ⟨_, _, _, rfl, fun x hx => ?_, ?_⟩
    · simp at hx
      rcases hx with rfl | rfl | rfl
      · exact ⟨b1.mono (by decide), b2.mono (by decide)⟩
      · exact ⟨c1, c2⟩
      · exact ⟨d1.mono (by decide), d2.mono (by decide)⟩
    walk_at "s"
    rw [tr]
    refine cnd_nt ?_
    walk_at "s"
    exact ⟨_, rfl⟩
  · rintro _ ⟨e6, rfl⟩
    walk_at "s"
    rfl
  ) only [↓qt_eq])
theorem ok_law (T : TX K mg) {f : Addr} {fd : FuncData} (F : Fun K "law" "law" s_law f fd) : FnOk Pg w K mg base CX0 8 f fd ["_law_script"] (spP K PLaw) :=
  okLawW T.cs F sc_law rfl (by decide) (fun ns hl cdv A outer sh H E hr => ⟨t_law K T.cs, (pss_cons (ps_set (i := 1) sc_law.nd rfl (by first | exact Or.inl rfl | exact Or.inr rfl) (pe_call (ok__law_bag T) (hr.mono (by decide)) (by rfl) T.g__law_bag T.F__law_bag.kp T.b__law_bag .nil pass0 (pa_cons (pv 0) pa_nil)))
      (pss_cons (ps_set (i := 2) sc_law.nd rfl (by first | exact Or.inl rfl | exact Or.inr rfl) (pe_call (ok__law_spot T) (hr.mono (by decide)) (by rfl) T.g__law_spot T.F__law_spot.kp T.b__law_spot .nil pass0 (pa_cons (pv 1) (pa_cons pe_int pa_nil))))
      (pss_cons (ps_set (i := 3) sc_law.nd rfl (by first | exact Or.inl rfl | exact Or.inr rfl) (pe_call (ok__law_spots T) (hr.mono (by decide)) (by rfl) T.g__law_spots T.F__law_spots.kp T.b__law_spots .nil pass0 (pa_cons (pv 1) (pa_cons pe_int (pa_cons pe_int pa_nil)))))
      (pss_cons (ps_if (pt_cmpR op_eq (pe_call (ok__law_pull T) (hr.mono (by decide)) (by rfl) T.g__law_pull T.F__law_pull.kp T.b__law_pull .nil pass0 (pa_cons (pv 1) (pa_cons pe_int pa_nil))) pe_int (nomark _)) (pss_cons (ps_expr (pe_bm PySem.F.plainAttrs_list PySem.F.slot_list_append PySem.F.type_list_append mt_append (pv 3) (pa_cons (pv 2) pa_nil)))
      (pss_one (ps_expr (pe_bm PySem.F.plainAttrs_list PySem.F.slot_list_insert PySem.F.type_list_insert mt_ins (pv 3) (pa_cons pe_int (pa_cons (pe_tup (pa_cons (pe_ix ix_seq (pv 2) pe_int (fun _ _ => rfl)) (pa_cons (pe_call (ok__law_part T) (hr.mono (by decide)) (by rfl) T.g__law_part T.F__law_part.kp T.b__law_part .nil pass0 (pa_cons (pv 1) pa_nil)) pa_nil))) pa_nil)))))) pss_nil)
      (pss_cons (ps_if (pt_cmpR op_eq (pe_call (ok__law_pull T) (hr.mono (by decide)) (by rfl) T.g__law_pull T.F__law_pull.kp T.b__law_pull .nil pass0 (pa_cons (pv 1) (pa_cons pe_int pa_nil))) pe_int (nomark _)) (pss_one (ps_set (i := 3) sc_law.nd rfl (by first | exact Or.inl rfl | exact Or.inr rfl) (pe_ix ix_seq (pe_lst (pa_cons (pe_lst pa_nil) (pa_cons (pe_lst (pa_cons (pv 2) pa_nil)) (pa_cons (pe_lst (pa_cons (pv 2) (pa_cons (pe_ix ix_seq (pv 3) pe_int (fun _ _ => rfl)) (pa_cons (pe_ix ix_seq (pv 3) pe_int (fun _ _ => rfl)) pa_nil)))) pa_nil)))) (pe_call (ok__law_pull T) (hr.mono (by decide)) (by rfl) T.g__law_pull T.F__law_pull.kp T.b__law_pull .nil pass0 (pa_cons (pv 1) (pa_cons pe_int pa_nil))) (fun _ _ => rfl)))) pss_nil)
      (pss_cons (ps_if (pt_cmpR op_eq (pe_call (ok__law_pull T) (hr.mono (by decide)) (by rfl) T.g__law_pull T.F__law_pull.kp T.b__law_pull .nil pass0 (pa_cons (pv 1) (pa_cons pe_int pa_nil))) pe_int (nomark _)) (pss_one (ps_set (i := 3) sc_law.nd rfl (by first | exact Or.inl rfl | exact Or.inr rfl) (pe_op op_catL (pv 3) (pe_lc (own := [("_law_one", 10)]) (g := (gName 10)) (tt := tYes) rfl sc_law.nd (pi_list (pe_slice sl_list (pv 3) po_none (po_some pe_int))) (blkOk_by (own := [("_law_one", 10)]) (N := ["_law_script", "_law_bag_here", "_law_spot_here", "_law_marks", "_law_handed", "_law_lines", "_law_at", "_law_found", "_law_gaps", "_law_mark", "_law_one", "_law_line_here"]) (sc := defScope s_law) (by decide +kernel)) (fun _ _ _ _ _ => (pg_name (i := 10) sc_law.nd rfl (by first | exact Or.inl rfl | exact Or.inr rfl))) (fun _ _ _ _ _ => pts_nil) (fun _ _ _ _ _ => (pe_call (ok__law_along T) (hr.mono (by decide)) (by rfl) T.g__law_along T.F__law_along.kp T.b__law_along .nil pass0 (pa_cons (pv 2) (pa_cons (pv 10) (pa_cons (pe_tup (pa_cons (pe_un un_negI pe_int) (pa_cons pe_int pa_nil))) pa_nil))))))))) pss_nil)
      (pss_cons (ps_set (i := 4) sc_law.nd rfl (by first | exact Or.inl rfl | exact Or.inr rfl) (pe_callTy c_list (by rfl) T.n_list (by decide +kernel) (pa_cons (pv 3) pa_nil)))
      (pss_cons (ps_asg (pe_callSD (ok_marked_lines T) (hr.mono (by decide)) (by rfl) T.g_marked_lines T.F_marked_lines.kp T.b_marked_lines .nil (fun σ => passAt takes0 σ) (pa_cons (pv 2) (pa_cons (pv 4) pa_nil))) (pg_tup rfl (pgs_cons (pg_name (i := 7) sc_law.nd rfl (by first | exact Or.inl rfl | exact Or.inr rfl)) (pgs_cons (pg_name (i := 8) sc_law.nd rfl (by first | exact Or.inl rfl | exact Or.inr rfl)) pgs_nil))))
      (pss_cons (ps_setLc (i := 5) (own := [("_law_mark", 9)]) (g := (gName 9)) (tt := (tTest (tOp (rNeD K) (tVar 9) (tVar 2)))) rfl sc_law.nd rfl rfl (sw_true rfl rfl rfl (by decide +kernel)) (pi_list (pv 3)) (blkOk_by (own := [("_law_mark", 9)]) (N := ["_law_script", "_law_bag_here", "_law_spot_here", "_law_marks", "_law_handed", "_law_lines", "_law_at", "_law_found", "_law_gaps", "_law_mark", "_law_one", "_law_line_here"]) (sc := defScope s_law) (by decide +kernel)) (fun _ _ _ _ _ => (pg_name (i := 9) sc_law.nd rfl (by first | exact Or.inl rfl | exact Or.inr rfl))) (fun _ _ _ _ _ => pts_one (pt_cmpR (op_neD hr.units) (pv 9) (pv 2) (nomark _))) (fun _ _ _ _ _ => (pe_call (ok__law_line T) (hr.mono (by decide)) (by rfl) T.g__law_line T.F__law_line.kp T.b__law_line .nil pass0 (pa_cons (pv 2) (pa_cons (pv 9) pa_nil)))))
      (pss_cons (ps_if (PW.pt (pw_or (pt_cmpR (op_neD hr.units) (pv 4) (pv 3) (nomark _)) (pw_or (pt_not (pt_val (pe_callB call_isi (by rfl) T.n_isinstance (by decide +kernel) (pa_cons (pv 7) (pa_cons (pe_bltn (v := .ty "list") (by rfl) T.n_list (by decide +kernel) rfl) pa_nil))))) (pw_or1 (pt_not (pt_val (pe_callB call_isi (by rfl) T.n_isinstance (by decide +kernel) (pa_cons (pv 8) (pa_cons (pe_bltn (v := .ty "list") (by rfl) T.n_list (by decide +kernel) rfl) pa_nil))))))))) (pss_one (ps_ret pe_bl)) pss_nil)
      (pss_cons (ps_if (pt_cmpR op_ne (pe_callB c_len (by rfl) T.n_len PySem.boot_len (pa_cons (pv 8) pa_nil)) (pe_callB c_len (by rfl) T.n_len PySem.boot_len (pa_cons (pv 7) pa_nil)) (nomark _)) (pss_one (ps_ret pe_bl)) pss_nil)
      (pss_cons (ps_if (PW.pt (pw_or (pt_cmpR (op_neD hr.units) (pe_callB (cr_srtL hr.units) (by rfl) T.n_sorted (by decide +kernel) (pa_cons (pv 7) pa_nil)) (pe_srtSet (pe_callB (cr_srtS rfl hr.units) (by rfl) T.n_sorted (by decide +kernel) (pa_cons (pe_callTy (cr_setOfT rfl hr.units) (by rfl) T.n_set (by decide +kernel) (pa_cons (pv 5) pa_nil)) pa_nil))) (nomark _)) (pw_or1 (pt_not (pt_val (pe_callB (cr_all rfl) (by rfl) T.n_all (by decide +kernel) (pa_cons (pe_lc (own := [("_law_line_here", 11)]) (g := (gName 11)) (tt := tYes) rfl sc_law.nd (pi_list (pe_op op_catL (pv 7) (pv 8))) (blkOk_by (own := [("_law_line_here", 11)]) (N := ["_law_script", "_law_bag_here", "_law_spot_here", "_law_marks", "_law_handed", "_law_lines", "_law_at", "_law_found", "_law_gaps", "_law_mark", "_law_one", "_law_line_here"]) (sc := defScope s_law) (by decide +kernel)) (fun _ _ _ _ _ => (pg_name (i := 11) sc_law.nd rfl (by first | exact Or.inl rfl | exact Or.inr rfl))) (fun _ _ _ _ _ => pts_nil) (fun _ _ _ _ _ => (pe_call (ok__law_good T) (hr.mono (by decide)) (by rfl) T.g__law_good T.F__law_good.kp T.b__law_good .nil pass0 (pa_cons (pv 11) (pa_cons (pv 2) pa_nil))))) pa_nil))))))) (pss_one (ps_ret pe_bl)) pss_nil)
      (pss_cons (ps_for PassesOwn.never rfl (pi_range1 (by rfl) T.n_range (pa_cons (pe_op op_subI (pe_callB c_len (by rfl) T.n_len PySem.boot_len (pa_cons (pv 7) pa_nil)) pe_int) pa_nil)) (pg_name (i := 6) sc_law.nd rfl (by first | exact Or.inl rfl | exact Or.inr rfl)) (pss_one (ps_if (pt_cmpR op_leI (pe_call (ok__law_cross_of T) (hr.mono (by decide)) (by rfl) T.g__law_cross_of T.F__law_cross_of.kp T.b__law_cross_of .nil pass0 (pa_cons (pe_ix ix_seq (pv 7) (pv 6) (fun _ _ => rfl)) (pa_cons (pe_ix ix_seq (pv 7) (pe_op op_addI (pv 6) pe_int) (fun _ _ => rfl)) pa_nil))) pe_int (nomark _)) (pss_one (ps_ret pe_bl)) pss_nil)))
      (pss_cons (ps_for PassesOwn.never rfl (pi_range1 (by rfl) T.n_range (pa_cons (pe_callB c_len (by rfl) T.n_len PySem.boot_len (pa_cons (pv 7) pa_nil)) pa_nil)) (pg_name (i := 6) sc_law.nd rfl (by first | exact Or.inl rfl | exact Or.inr rfl)) (pss_one (ps_if (pt_not (pt_val (pe_call (ok__law_between_lines T) (hr.mono (by decide)) (by rfl) T.g__law_between_lines T.F__law_between_lines.kp T.b__law_between_lines .nil pass0 (pa_cons (pe_ix ix_seq (pv 7) (pv 6) (fun _ _ => rfl)) (pa_cons (pe_ix ix_seq (pv 8) (pv 6) (fun _ _ => rfl)) (pa_cons (pe_ix ix_seq (pv 7) (pe_op op_modI (pe_op op_addI (pv 6) pe_int) (pe_callB c_len (by rfl) T.n_len PySem.boot_len (pa_cons (pv 7) pa_nil))) (fun _ _ => rfl)) pa_nil)))))) (pss_one (ps_ret pe_bl)) pss_nil)))
      (pss_one (ps_ret pe_bl)))))))))))))))), rd_law ns hl⟩)
end
theorem all_mk {l : PySem.W.OpenLaw} {w : World} {K : PySem.W.Frag} {h : Heap} {mg : Str → Option Value} {fa f0 f1 f2 f3 f4 f5 f6 f7 f8 f9 f10 f11 f12 f13 f14 f15 f16 f17 f18 f19 f20 f21 f22 f23 f24 f25 f26 f27 f28 f29 f30 f31 : Addr} (X : K.In h) (G : h.Ns mainGlobals mg) (hfa : mg "law" = some (.ref fa))
    {od0 an0 : Option Addr} {sl0 : Array (Option Value)} {oc0 kV0 dc0 pm0 cd0 ct0 : Value}
    {od1 an1 : Option Addr} {sl1 : Array (Option Value)} {oc1 kV1 dc1 pm1 cd1 ct1 : Value}
    {od2 an2 : Option Addr} {sl2 : Array (Option Value)} {oc2 kV2 dc2 pm2 cd2 ct2 : Value}
    {od3 an3 : Option Addr} {sl3 : Array (Option Value)} {oc3 kV3 dc3 pm3 cd3 ct3 : Value}
    {od4 an4 : Option Addr} {sl4 : Array (Option Value)} {oc4 kV4 dc4 pm4 cd4 ct4 : Value}
    {od5 an5 : Option Addr} {sl5 : Array (Option Value)} {oc5 kV5 dc5 pm5 cd5 ct5 : Value}
    {od6 an6 : Option Addr} {sl6 : Array (Option Value)} {oc6 kV6 dc6 pm6 cd6 ct6 : Value}
    {od7 an7 : Option Addr} {sl7 : Array (Option Value)} {oc7 kV7 dc7 pm7 cd7 ct7 : Value}
    {od8 an8 : Option Addr} {sl8 : Array (Option Value)} {oc8 kV8 dc8 pm8 cd8 ct8 : Value}
    {od9 an9 : Option Addr} {sl9 : Array (Option Value)} {oc9 kV9 dc9 pm9 cd9 ct9 : Value}
    {od10 an10 : Option Addr} {sl10 : Array (Option Value)} {oc10 kV10 dc10 pm10 cd10 ct10 : Value}
    {od11 an11 : Option Addr} {sl11 : Array (Option Value)} {oc11 kV11 dc11 pm11 cd11 ct11 : Value}
    {od12 an12 : Option Addr} {sl12 : Array (Option Value)} {oc12 kV12 dc12 pm12 cd12 ct12 : Value}
    {dT12 : Addr} {ot12 : Value} {odt12 : Option Addr} {nt12 : Nat} {slt12 : Array (Option Value)} {tk12_0 : Tok}
    {od13 an13 : Option Addr} {sl13 : Array (Option Value)} {oc13 kV13 dc13 pm13 cd13 ct13 : Value}
    {od14 an14 : Option Addr} {sl14 : Array (Option Value)} {oc14 kV14 dc14 pm14 cd14 ct14 : Value}
    {od15 an15 : Option Addr} {sl15 : Array (Option Value)} {oc15 kV15 dc15 pm15 cd15 ct15 : Value}
    {od16 an16 : Option Addr} {sl16 : Array (Option Value)} {oc16 kV16 dc16 pm16 cd16 ct16 : Value}
    {od17 an17 : Option Addr} {sl17 : Array (Option Value)} {oc17 kV17 dc17 pm17 cd17 ct17 : Value}
    {od18 an18 : Option Addr} {sl18 : Array (Option Value)} {oc18 kV18 dc18 pm18 cd18 ct18 : Value}
    {od19 an19 : Option Addr} {sl19 : Array (Option Value)} {oc19 kV19 dc19 pm19 cd19 ct19 : Value}
    {od20 an20 : Option Addr} {sl20 : Array (Option Value)} {oc20 kV20 dc20 pm20 cd20 ct20 : Value}
    {od21 an21 : Option Addr} {sl21 : Array (Option Value)} {oc21 kV21 dc21 pm21 cd21 ct21 : Value}
    {od22 an22 : Option Addr} {sl22 : Array (Option Value)} {oc22 kV22 dc22 pm22 cd22 ct22 : Value}
    {od23 an23 : Option Addr} {sl23 : Array (Option Value)} {oc23 kV23 dc23 pm23 cd23 ct23 : Value}
    {od24 an24 : Option Addr} {sl24 : Array (Option Value)} {oc24 kV24 dc24 pm24 cd24 ct24 : Value}
    {od25 an25 : Option Addr} {sl25 : Array (Option Value)} {oc25 kV25 dc25 pm25 cd25 ct25 : Value}
    {od26 an26 : Option Addr} {sl26 : Array (Option Value)} {oc26 kV26 dc26 pm26 cd26 ct26 : Value}
    {od27 an27 : Option Addr} {sl27 : Array (Option Value)} {oc27 kV27 dc27 pm27 cd27 ct27 : Value}
    {od28 an28 : Option Addr} {sl28 : Array (Option Value)} {oc28 kV28 dc28 pm28 cd28 ct28 : Value}
    {od29 an29 : Option Addr} {sl29 : Array (Option Value)} {oc29 kV29 dc29 pm29 cd29 ct29 : Value}
    {od30 an30 : Option Addr} {sl30 : Array (Option Value)} {oc30 kV30 dc30 pm30 cd30 ct30 : Value}
    {od31 an31 : Option Addr} {sl31 : Array (Option Value)} {oc31 kV31 dc31 pm31 cd31 ct31 : Value}
    {ca0 ci0 : Addr} {cod0 can0 : Option Addr} {csl0 : Array (Option Value)} {coc0 ckV0 cdc0 cpm0 ccd0 cct0 : Value}
    (a0 : PySem.W.nsIn K mainGlobals "_law_bag" = some (some (.ref f0))) (l0 : K.lookup f0 = some ⟨oc0, od0, .func (PySem.W.fnOf "_law_bag" "_law_bag" (defArgs s__law_bag) (defBody s__law_bag) (defScope s__law_bag) .none kV0 dc0 pm0 an0 cd0 ct0), sl0⟩) (c0 : PySem.W.codeIn K cd0 "_law_bag" = true) (k0 : PySem.W.keepIn K (.ref f0) = true)
    (a1 : PySem.W.nsIn K mainGlobals "_law_gcd" = some (some (.ref f1))) (l1 : K.lookup f1 = some ⟨oc1, od1, .func (PySem.W.fnOf "_law_gcd" "_law_gcd" (defArgs s__law_gcd) (defBody s__law_gcd) (defScope s__law_gcd) .none kV1 dc1 pm1 an1 cd1 ct1), sl1⟩) (c1 : PySem.W.codeIn K cd1 "_law_gcd" = true) (k1 : PySem.W.keepIn K (.ref f1) = true)
    (a2 : PySem.W.nsIn K mainGlobals "_law_frac" = some (some (.ref f2))) (l2 : K.lookup f2 = some ⟨oc2, od2, .func (PySem.W.fnOf "_law_frac" "_law_frac" (defArgs s__law_frac) (defBody s__law_frac) (defScope s__law_frac) .none kV2 dc2 pm2 an2 cd2 ct2), sl2⟩) (c2 : PySem.W.codeIn K cd2 "_law_frac" = true) (k2 : PySem.W.keepIn K (.ref f2) = true)
    (a3 : PySem.W.nsIn K mainGlobals "_law_pull" = some (some (.ref f3))) (l3 : K.lookup f3 = some ⟨oc3, od3, .func (PySem.W.fnOf "_law_pull" "_law_pull" (defArgs s__law_pull) (defBody s__law_pull) (defScope s__law_pull) .none kV3 dc3 pm3 an3 cd3 ct3), sl3⟩) (c3 : PySem.W.codeIn K cd3 "_law_pull" = true) (k3 : PySem.W.keepIn K (.ref f3) = true)
    (a4 : PySem.W.nsIn K mainGlobals "_law_part" = some (some (.ref f4))) (l4 : K.lookup f4 = some ⟨oc4, od4, .func (PySem.W.fnOf "_law_part" "_law_part" (defArgs s__law_part) (defBody s__law_part) (defScope s__law_part) .none kV4 dc4 pm4 an4 cd4 ct4), sl4⟩) (c4 : PySem.W.codeIn K cd4 "_law_part" = true) (k4 : PySem.W.keepIn K (.ref f4) = true)
    (a5 : PySem.W.nsIn K mainGlobals "_law_spot" = some (some (.ref f5))) (l5 : K.lookup f5 = some ⟨oc5, od5, .func (PySem.W.fnOf "_law_spot" "_law_spot" (defArgs s__law_spot) (defBody s__law_spot) (defScope s__law_spot) .none kV5 dc5 pm5 an5 cd5 ct5), sl5⟩) (c5 : PySem.W.codeIn K cd5 "_law_spot" = true) (k5 : PySem.W.keepIn K (.ref f5) = true)
    (a6 : PySem.W.nsIn K mainGlobals "_law_sub" = some (some (.ref f6))) (l6 : K.lookup f6 = some ⟨oc6, od6, .func (PySem.W.fnOf "_law_sub" "_law_sub" (defArgs s__law_sub) (defBody s__law_sub) (defScope s__law_sub) .none kV6 dc6 pm6 an6 cd6 ct6), sl6⟩) (c6 : PySem.W.codeIn K cd6 "_law_sub" = true) (k6 : PySem.W.keepIn K (.ref f6) = true)
    (a7 : PySem.W.nsIn K mainGlobals "_law_add" = some (some (.ref f7))) (l7 : K.lookup f7 = some ⟨oc7, od7, .func (PySem.W.fnOf "_law_add" "_law_add" (defArgs s__law_add) (defBody s__law_add) (defScope s__law_add) .none kV7 dc7 pm7 an7 cd7 ct7), sl7⟩) (c7 : PySem.W.codeIn K cd7 "_law_add" = true) (k7 : PySem.W.keepIn K (.ref f7) = true)
    (a8 : PySem.W.nsIn K mainGlobals "_law_mul" = some (some (.ref f8))) (l8 : K.lookup f8 = some ⟨oc8, od8, .func (PySem.W.fnOf "_law_mul" "_law_mul" (defArgs s__law_mul) (defBody s__law_mul) (defScope s__law_mul) .none kV8 dc8 pm8 an8 cd8 ct8), sl8⟩) (c8 : PySem.W.codeIn K cd8 "_law_mul" = true) (k8 : PySem.W.keepIn K (.ref f8) = true)
    (a9 : PySem.W.nsIn K mainGlobals "_law_along" = some (some (.ref f9))) (l9 : K.lookup f9 = some ⟨oc9, od9, .func (PySem.W.fnOf "_law_along" "_law_along" (defArgs s__law_along) (defBody s__law_along) (defScope s__law_along) .none kV9 dc9 pm9 an9 cd9 ct9), sl9⟩) (c9 : PySem.W.codeIn K cd9 "_law_along" = true) (k9 : PySem.W.keepIn K (.ref f9) = true)
    (a10 : PySem.W.nsIn K mainGlobals "_law_spots" = some (some (.ref f10))) (l10 : K.lookup f10 = some ⟨oc10, od10, .func (PySem.W.fnOf "_law_spots" "_law_spots" (defArgs s__law_spots) (defBody s__law_spots) (defScope s__law_spots) .none kV10 dc10 pm10 an10 cd10 ct10), sl10⟩) (c10 : PySem.W.codeIn K cd10 "_law_spots" = true) (k10 : PySem.W.keepIn K (.ref f10) = true)
    (a11 : PySem.W.nsIn K mainGlobals "shared" = some (some (.ref f11))) (l11 : K.lookup f11 = some ⟨oc11, od11, .func (PySem.W.fnOf "shared" "shared" (defArgs s_shared) (defBody s_shared) (defScope s_shared) .none kV11 dc11 pm11 an11 cd11 ct11), sl11⟩) (c11 : PySem.W.codeIn K cd11 "shared" = true) (k11 : PySem.W.keepIn K (.ref f11) = true)
    (a12 : PySem.W.nsIn K mainGlobals "part" = some (some (.ref f12))) (l12 : K.lookup f12 = some ⟨oc12, od12, .func (PySem.W.fnOf "part" "part" (defArgs s_part) (defBody s_part) (defScope s_part) (.ref dT12) kV12 dc12 pm12 an12 cd12 ct12), sl12⟩) (c12 : PySem.W.codeIn K cd12 "part" = true) (k12 : PySem.W.keepIn K (.ref f12) = true)
    (t12 : K.lookup dT12 = some ⟨ot12, odt12, .seq [Value.int 1 tk12_0].toArray nt12, slt12⟩)
    (a13 : PySem.W.nsIn K mainGlobals "over" = some (some (.ref f13))) (l13 : K.lookup f13 = some ⟨oc13, od13, .func (PySem.W.fnOf "over" "over" (defArgs s_over) (defBody s_over) (defScope s_over) .none kV13 dc13 pm13 an13 cd13 ct13), sl13⟩) (c13 : PySem.W.codeIn K cd13 "over" = true) (k13 : PySem.W.keepIn K (.ref f13) = true)
    (a14 : PySem.W.nsIn K mainGlobals "common_below" = some (some (.ref f14))) (l14 : K.lookup f14 = some ⟨oc14, od14, .func (PySem.W.fnOf "common_below" "common_below" (defArgs s_common_below) (defBody s_common_below) (defScope s_common_below) .none kV14 dc14 pm14 an14 cd14 ct14), sl14⟩) (c14 : PySem.W.codeIn K cd14 "common_below" = true) (k14 : PySem.W.keepIn K (.ref f14) = true)
    (a15 : PySem.W.nsIn K mainGlobals "whole_row" = some (some (.ref f15))) (l15 : K.lookup f15 = some ⟨oc15, od15, .func (PySem.W.fnOf "whole_row" "whole_row" (defArgs s_whole_row) (defBody s_whole_row) (defScope s_whole_row) .none kV15 dc15 pm15 an15 cd15 ct15), sl15⟩) (c15 : PySem.W.codeIn K cd15 "whole_row" = true) (k15 : PySem.W.keepIn K (.ref f15) = true)
    (a16 : PySem.W.nsIn K mainGlobals "rising" = some (some (.ref f16))) (l16 : K.lookup f16 = some ⟨oc16, od16, .func (PySem.W.fnOf "rising" "rising" (defArgs s_rising) (defBody s_rising) (defScope s_rising) .none kV16 dc16 pm16 an16 cd16 ct16), sl16⟩) (c16 : PySem.W.codeIn K cd16 "rising" = true) (k16 : PySem.W.keepIn K (.ref f16) = true)
    (a17 : PySem.W.nsIn K mainGlobals "by_turning" = some (some (.ref f17))) (l17 : K.lookup f17 = some ⟨oc17, od17, .func (PySem.W.fnOf "by_turning" "by_turning" (defArgs s_by_turning) (defBody s_by_turning) (defScope s_by_turning) .none kV17 dc17 pm17 an17 cd17 ct17), sl17⟩) (c17 : PySem.W.codeIn K cd17 "by_turning" = true) (k17 : PySem.W.keepIn K (.ref f17) = true)
    (a18 : PySem.W.nsIn K mainGlobals "minus" = some (some (.ref f18))) (l18 : K.lookup f18 = some ⟨oc18, od18, .func (PySem.W.fnOf "minus" "minus" (defArgs s_minus) (defBody s_minus) (defScope s_minus) .none kV18 dc18 pm18 an18 cd18 ct18), sl18⟩) (c18 : PySem.W.codeIn K cd18 "minus" = true) (k18 : PySem.W.keepIn K (.ref f18) = true)
    (a19 : PySem.W.nsIn K mainGlobals "plus" = some (some (.ref f19))) (l19 : K.lookup f19 = some ⟨oc19, od19, .func (PySem.W.fnOf "plus" "plus" (defArgs s_plus) (defBody s_plus) (defScope s_plus) .none kV19 dc19 pm19 an19 cd19 ct19), sl19⟩) (c19 : PySem.W.codeIn K cd19 "plus" = true) (k19 : PySem.W.keepIn K (.ref f19) = true)
    (a20 : PySem.W.nsIn K mainGlobals "times" = some (some (.ref f20))) (l20 : K.lookup f20 = some ⟨oc20, od20, .func (PySem.W.fnOf "times" "times" (defArgs s_times) (defBody s_times) (defScope s_times) .none kV20 dc20 pm20 an20 cd20 ct20), sl20⟩) (c20 : PySem.W.codeIn K cd20 "times" = true) (k20 : PySem.W.keepIn K (.ref f20) = true)
    (a21 : PySem.W.nsIn K mainGlobals "line_by" = some (some (.ref f21))) (l21 : K.lookup f21 = some ⟨oc21, od21, .func (PySem.W.fnOf "line_by" "line_by" (defArgs s_line_by) (defBody s_line_by) (defScope s_line_by) .none kV21 dc21 pm21 an21 cd21 ct21), sl21⟩) (c21 : PySem.W.codeIn K cd21 "line_by" = true) (k21 : PySem.W.keepIn K (.ref f21) = true)
    (a22 : PySem.W.nsIn K mainGlobals "line_through" = some (some (.ref f22))) (l22 : K.lookup f22 = some ⟨oc22, od22, .func (PySem.W.fnOf "line_through" "line_through" (defArgs s_line_through) (defBody s_line_through) (defScope s_line_through) .none kV22 dc22 pm22 an22 cd22 ct22), sl22⟩) (c22 : PySem.W.codeIn K cd22 "line_through" = true) (k22 : PySem.W.keepIn K (.ref f22) = true)
    (a23 : PySem.W.nsIn K mainGlobals "marked_lines" = some (some (.ref f23))) (l23 : K.lookup f23 = some ⟨oc23, od23, .func (PySem.W.fnOf "marked_lines" "marked_lines" (defArgs s_marked_lines) (defBody s_marked_lines) (defScope s_marked_lines) .none kV23 dc23 pm23 an23 cd23 ct23), sl23⟩) (c23 : PySem.W.codeIn K cd23 "marked_lines" = true) (k23 : PySem.W.keepIn K (.ref f23) = true)
    (a24 : PySem.W.nsIn K mainGlobals "_law_hom" = some (some (.ref f24))) (l24 : K.lookup f24 = some ⟨oc24, od24, .func (PySem.W.fnOf "_law_hom" "_law_hom" (defArgs s__law_hom) (defBody s__law_hom) (defScope s__law_hom) .none kV24 dc24 pm24 an24 cd24 ct24), sl24⟩) (c24 : PySem.W.codeIn K cd24 "_law_hom" = true) (k24 : PySem.W.keepIn K (.ref f24) = true)
    (a25 : PySem.W.nsIn K mainGlobals "_law_line" = some (some (.ref f25))) (l25 : K.lookup f25 = some ⟨oc25, od25, .func (PySem.W.fnOf "_law_line" "_law_line" (defArgs s__law_line) (defBody s__law_line) (defScope s__law_line) .none kV25 dc25 pm25 an25 cd25 ct25), sl25⟩) (c25 : PySem.W.codeIn K cd25 "_law_line" = true) (k25 : PySem.W.keepIn K (.ref f25) = true)
    (a26 : PySem.W.nsIn K mainGlobals "_law_sign" = some (some (.ref f26))) (l26 : K.lookup f26 = some ⟨oc26, od26, .func (PySem.W.fnOf "_law_sign" "_law_sign" (defArgs s__law_sign) (defBody s__law_sign) (defScope s__law_sign) .none kV26 dc26 pm26 an26 cd26 ct26), sl26⟩) (c26 : PySem.W.codeIn K cd26 "_law_sign" = true) (k26 : PySem.W.keepIn K (.ref f26) = true)
    (a27 : PySem.W.nsIn K mainGlobals "_law_cross_of" = some (some (.ref f27))) (l27 : K.lookup f27 = some ⟨oc27, od27, .func (PySem.W.fnOf "_law_cross_of" "_law_cross_of" (defArgs s__law_cross_of) (defBody s__law_cross_of) (defScope s__law_cross_of) .none kV27 dc27 pm27 an27 cd27 ct27), sl27⟩) (c27 : PySem.W.codeIn K cd27 "_law_cross_of" = true) (k27 : PySem.W.keepIn K (.ref f27) = true)
    (a28 : PySem.W.nsIn K mainGlobals "_law_between_lines" = some (some (.ref f28))) (l28 : K.lookup f28 = some ⟨oc28, od28, .func (PySem.W.fnOf "_law_between_lines" "_law_between_lines" (defArgs s__law_between_lines) (defBody s__law_between_lines) (defScope s__law_between_lines) .none kV28 dc28 pm28 an28 cd28 ct28), sl28⟩) (c28 : PySem.W.codeIn K cd28 "_law_between_lines" = true) (k28 : PySem.W.keepIn K (.ref f28) = true)
    (a29 : PySem.W.nsIn K mainGlobals "_law_side" = some (some (.ref f29))) (l29 : K.lookup f29 = some ⟨oc29, od29, .func (PySem.W.fnOf "_law_side" "_law_side" (defArgs s__law_side) (defBody s__law_side) (defScope s__law_side) .none kV29 dc29 pm29 an29 cd29 ct29), sl29⟩) (c29 : PySem.W.codeIn K cd29 "_law_side" = true) (k29 : PySem.W.keepIn K (.ref f29) = true)
    (a30 : PySem.W.nsIn K mainGlobals "_law_good" = some (some (.ref f30))) (l30 : K.lookup f30 = some ⟨oc30, od30, .func (PySem.W.fnOf "_law_good" "_law_good" (defArgs s__law_good) (defBody s__law_good) (defScope s__law_good) .none kV30 dc30 pm30 an30 cd30 ct30), sl30⟩) (c30 : PySem.W.codeIn K cd30 "_law_good" = true) (k30 : PySem.W.keepIn K (.ref f30) = true)
    (a31 : PySem.W.nsIn K mainGlobals "law" = some (some (.ref f31))) (l31 : K.lookup f31 = some ⟨oc31, od31, .func (PySem.W.fnOf "law" "law" (defArgs s_law) (defBody s_law) (defScope s_law) .none kV31 dc31 pm31 an31 cd31 ct31), sl31⟩) (c31 : PySem.W.codeIn K cd31 "law" = true) (k31 : PySem.W.keepIn K (.ref f31) = true)
    (y0g : PySem.W.nsIn K mainGlobals "Flat" = some (some (.ref ca0)))
    (y0o : PySem.W.excOver K ca0 [.type "ZeroDivisionError", .type "ArithmeticError", .type "Exception", .type "BaseException", .type "object"] = true)
    (y0m : PySem.W.excInitIn K ca0 [.type "ZeroDivisionError", .type "ArithmeticError", .type "Exception", .type "BaseException", .type "object"] "ZeroDivisionError.__new__" = true)
    (y0h : PySem.W.hasDictIn K ca0 = true)
    (y0s : PySem.W.findIn K (.ref ca0) "__setattr__" = some (some (.builtin "object.__setattr__")))
    (y0x : PySem.W.subIn K (.ref ca0) (.type "BaseException") = some true)
    (y0t : PySem.W.typeIn K (.ref ca0) = some (.type "type"))
    (y0k : PySem.W.keepIn K (.ref ca0) = true)
    (y0i : PySem.W.findIn K (.ref ca0) "__init__" = some (some (.ref ci0)))
    (y0f : PySem.W.typeIn K (.ref ci0) = some (.type "function"))
    (y0l : K.lookup ci0 = some ⟨coc0, cod0, .func (PySem.W.fnOf "__init__" "Flat.__init__" (defArgs si_Flat) (defBody si_Flat) (defScope si_Flat) .none ckV0 cdc0 cpm0 can0 ccd0 cct0), csl0⟩)
    (y0c : PySem.W.codeIn K ccd0 "Flat.__init__" = true)
    (y0p : PySem.W.keepIn K (.ref ci0) = true)
    (y0a : PySem.W.findIn K (.ref ca0) "__getattribute__" = some (some (.builtin "BaseException.__getattribute__")))
    (y0b : PySem.W.findIn K (.ref ca0) "__getattr__" = some none)
    (y0n_word : PySem.W.findIn K (.ref ca0) "word" = some none)
    (z0 : PySem.W.nsIn K mainGlobals "abs" = some none)
    (z1 : PySem.W.nsIn K mainGlobals "all" = some none)
    (z2 : PySem.W.nsIn K mainGlobals "bool" = some none)
    (z3 : PySem.W.nsIn K mainGlobals "enumerate" = some none)
    (z4 : PySem.W.nsIn K mainGlobals "int" = some none)
    (z5 : PySem.W.nsIn K mainGlobals "isinstance" = some none)
    (z6 : PySem.W.nsIn K mainGlobals "len" = some none)
    (z7 : PySem.W.nsIn K mainGlobals "list" = some none)
    (z8 : PySem.W.nsIn K mainGlobals "max" = some none)
    (z9 : PySem.W.nsIn K mainGlobals "range" = some none)
    (z10 : PySem.W.nsIn K mainGlobals "set" = some none)
    (z11 : PySem.W.nsIn K mainGlobals "sorted" = some none)
    (z12 : PySem.W.nsIn K mainGlobals "tuple" = some none)
    : ∃ fd : FuncData, (∀ (s : Shared) (v : Value), BindsTo s fd ⟨[v], []⟩ [("_law_script", v)]) ∧ ∀ base : Heap, K.In base → base.Ns mainGlobals mg → FnOk l.prog w K mg base CX0 8 fa fd ["_law_script"] (spP K PLaw) := qt_of (by simp (disch := with_unfolding_all
  have e := hfa.symm.trans (PySem.W.mg_of X G a31)
  cases e
  obtain ⟨cs, hc0⟩ : ∃ cs : Cs, cs "Flat" = ca0 := ⟨fun x => if x = "Flat" then ca0 else 0, by dsimp only; rw [if_pos rfl]⟩
  subst hc0
  have FI0 := fun_mk (st := si_Flat) y0l y0c y0p
  have ox0 : OxK K (cs "Flat") := ⟨⟨_, _, _, _, PySem.F.excBase_ZeroDivisionError, PySem.F.store_ZeroDivisionError, y0o, y0m, y0h, y0s, y0x, y0t, y0k⟩⟩
  have bi0 := FI0.binds (ps := ["self"]) fun _ _ _ _ _ _ us hl => match us, hl with | [_], _ => rfl
  have cf0 : ClsF K cs "Flat" ["word"] := ⟨ox0, fun n hn => by rw [List.mem_singleton.mp hn]; exact y0n_word⟩
  have F0 := fun_mk (st := s__law_bag) l0 c0 k0
  have b0 := F0.binds (ps := ["_law_script"]) fun _ _ _ _ _ _ us hl => match us, hl with | [_], _ => rfl
  have F1 := fun_mk (st := s__law_gcd) l1 c1 k1
  have b1 := F1.binds (ps := ["_law_one", "_law_other"]) fun _ _ _ _ _ _ us hl => match us, hl with | [_, _], _ => rfl
  have F2 := fun_mk (st := s__law_frac) l2 c2 k2
  have b2 := F2.binds (ps := ["_law_above", "_law_below"]) fun _ _ _ _ _ _ us hl => match us, hl with | [_, _], _ => rfl
  have F3 := fun_mk (st := s__law_pull) l3 c3 k3
  have b3 := F3.binds (ps := ["_law_bag_here", "_law_size"]) fun _ _ _ _ _ _ us hl => match us, hl with | [_, _], _ => rfl
  have F4 := fun_mk (st := s__law_part) l4 c4 k4
  have b4 := F4.binds (ps := ["_law_bag_here"]) fun _ _ _ _ _ _ us hl => match us, hl with | [_], _ => rfl
  have F5 := fun_mk (st := s__law_spot) l5 c5 k5
  have b5 := F5.binds (ps := ["_law_bag_here", "_law_rank"]) fun _ _ _ _ _ _ us hl => match us, hl with | [_, _], _ => rfl
  have F6 := fun_mk (st := s__law_sub) l6 c6 k6
  have b6 := F6.binds (ps := ["_law_one", "_law_other"]) fun _ _ _ _ _ _ us hl => match us, hl with | [_, _], _ => rfl
  have F7 := fun_mk (st := s__law_add) l7 c7 k7
  have b7 := F7.binds (ps := ["_law_one", "_law_other"]) fun _ _ _ _ _ _ us hl => match us, hl with | [_, _], _ => rfl
  have F8 := fun_mk (st := s__law_mul) l8 c8 k8
  have b8 := F8.binds (ps := ["_law_one", "_law_other"]) fun _ _ _ _ _ _ us hl => match us, hl with | [_, _], _ => rfl
  have F9 := fun_mk (st := s__law_along) l9 c9 k9
  have b9 := F9.binds (ps := ["_law_one", "_law_two", "_law_share"]) fun _ _ _ _ _ _ us hl => match us, hl with | [_, _, _], _ => rfl
  have F10 := fun_mk (st := s__law_spots) l10 c10 k10
  have b10 := F10.binds (ps := ["_law_bag_here", "_law_rank", "_law_limit"]) fun _ _ _ _ _ _ us hl => match us, hl with | [_, _, _], _ => rfl
  have F11 := fun_mk (st := s_shared) l11 c11 k11
  have b11 := F11.binds (ps := ["one", "other"]) fun _ _ _ _ _ _ us hl => match us, hl with | [_, _], _ => rfl
  have F12 := fund_mk (st := s_part) (dvs := [V.int 1]) l12 c12 k12 t12 (.cons ⟨_, rfl⟩ .nil) (by simp)
  have b12 := binds_all (ps := ["above", "below"]) F12 (by simp) fun _ _ _ _ _ _ _ us its hl hl2 => match us, its, hl, hl2 with | [_, _], [_], _, _ => ⟨_, rfl, rfl⟩
  obtain ⟨q12_1, w12_1, u12_1⟩ := F12.binds1 (ps := ["above", "below"]) 1 0 (by simp) rfl fun _ _ _ _ _ _ _ us its hl hl2 => match us, its, hl, hl2 with | [_], [_], _, _ => ⟨_, rfl, rfl⟩
  have F13 := fun_mk (st := s_over) l13 c13 k13
  have b13 := F13.binds (ps := ["one", "other"]) fun _ _ _ _ _ _ us hl => match us, hl with | [_, _], _ => rfl
  have F14 := fun_mk (st := s_common_below) l14 c14 k14
  have b14 := F14.binds (ps := ["spots"]) fun _ _ _ _ _ _ us hl => match us, hl with | [_], _ => rfl
  have F15 := fun_mk (st := s_whole_row) l15 c15 k15
  have b15 := F15.binds (ps := ["spot", "common"]) fun _ _ _ _ _ _ us hl => match us, hl with | [_, _], _ => rfl
  have F16 := fun_mk (st := s_rising) l16 c16 k16
  have b16 := F16.binds (ps := ["spots"]) fun _ _ _ _ _ _ us hl => match us, hl with | [_], _ => rfl
  have F17 := fun_mk (st := s_by_turning) l17 c17 k17
  have b17 := F17.binds (ps := ["lines"]) fun _ _ _ _ _ _ us hl => match us, hl with | [_], _ => rfl
  have F18 := fun_mk (st := s_minus) l18 c18 k18
  have b18 := F18.binds (ps := ["one", "other"]) fun _ _ _ _ _ _ us hl => match us, hl with | [_, _], _ => rfl
  have F19 := fun_mk (st := s_plus) l19 c19 k19
  have b19 := F19.binds (ps := ["one", "other"]) fun _ _ _ _ _ _ us hl => match us, hl with | [_, _], _ => rfl
  have F20 := fun_mk (st := s_times) l20 c20 k20
  have b20 := F20.binds (ps := ["one", "other"]) fun _ _ _ _ _ _ us hl => match us, hl with | [_, _], _ => rfl
  have F21 := fun_mk (st := s_line_by) l21 c21 k21
  have b21 := F21.binds (ps := ["lean", "spot"]) fun _ _ _ _ _ _ us hl => match us, hl with | [_, _], _ => rfl
  have F22 := fun_mk (st := s_line_through) l22 c22 k22
  have b22 := F22.binds (ps := ["spot", "other"]) fun _ _ _ _ _ _ us hl => match us, hl with | [_, _], _ => rfl
  have F23 := fun_mk (st := s_marked_lines) l23 c23 k23
  have b23 := F23.binds (ps := ["spot", "marks"]) fun _ _ _ _ _ _ us hl => match us, hl with | [_, _], _ => rfl
  have F24 := fun_mk (st := s__law_hom) l24 c24 k24
  have b24 := F24.binds (ps := ["_law_spot_here"]) fun _ _ _ _ _ _ us hl => match us, hl with | [_], _ => rfl
  have F25 := fun_mk (st := s__law_line) l25 c25 k25
  have b25 := F25.binds (ps := ["_law_one", "_law_two"]) fun _ _ _ _ _ _ us hl => match us, hl with | [_, _], _ => rfl
  have F26 := fun_mk (st := s__law_sign) l26 c26 k26
  have b26 := F26.binds (ps := ["_law_number"]) fun _ _ _ _ _ _ us hl => match us, hl with | [_], _ => rfl
  have F27 := fun_mk (st := s__law_cross_of) l27 c27 k27
  have b27 := F27.binds (ps := ["_law_one", "_law_other"]) fun _ _ _ _ _ _ us hl => match us, hl with | [_, _], _ => rfl
  have F28 := fun_mk (st := s__law_between_lines) l28 c28 k28
  have b28 := F28.binds (ps := ["_law_line_here", "_law_gap", "_law_after"]) fun _ _ _ _ _ _ us hl => match us, hl with | [_, _, _], _ => rfl
  have F29 := fun_mk (st := s__law_side) l29 c29 k29
  have b29 := F29.binds (ps := ["_law_line_here", "_law_spot_here"]) fun _ _ _ _ _ _ us hl => match us, hl with | [_, _], _ => rfl
  have F30 := fun_mk (st := s__law_good) l30 c30 k30
  have b30 := F30.binds (ps := ["_law_line_here", "_law_spot_here"]) fun _ _ _ _ _ _ us hl => match us, hl with | [_, _], _ => rfl
  have F31 := fun_mk (st := s_law) l31 c31 k31
  have T : TX K mg := { cs := cs, ox_Flat := ox0, kC_Flat := y0k, fI_Flat := _, dI_Flat := _, FI_Flat := FI0, i_Flat := y0i, ti_Flat := y0f, bi_Flat := bi0, g_Flat := PySem.W.mg_of X G y0g, xf_Flat := ⟨y0a, y0b, y0x, y0h⟩, nw_Flat_word := y0n_word, cf_Flat := cf0, a__law_bag := f0, d__law_bag := _, F__law_bag := F0, g__law_bag := PySem.W.mg_of X G a0, b__law_bag := b0, a__law_gcd := f1, d__law_gcd := _, F__law_gcd := F1, g__law_gcd := PySem.W.mg_of X G a1, b__law_gcd := b1, a__law_frac := f2, d__law_frac := _, F__law_frac := F2, g__law_frac := PySem.W.mg_of X G a2, b__law_frac := b2, a__law_pull := f3, d__law_pull := _, F__law_pull := F3, g__law_pull := PySem.W.mg_of X G a3, b__law_pull := b3, a__law_part := f4, d__law_part := _, F__law_part := F4, g__law_part := PySem.W.mg_of X G a4, b__law_part := b4, a__law_spot := f5, d__law_spot := _, F__law_spot := F5, g__law_spot := PySem.W.mg_of X G a5, b__law_spot := b5, a__law_sub := f6, d__law_sub := _, F__law_sub := F6, g__law_sub := PySem.W.mg_of X G a6, b__law_sub := b6, a__law_add := f7, d__law_add := _, F__law_add := F7, g__law_add := PySem.W.mg_of X G a7, b__law_add := b7, a__law_mul := f8, d__law_mul := _, F__law_mul := F8, g__law_mul := PySem.W.mg_of X G a8, b__law_mul := b8, a__law_along := f9, d__law_along := _, F__law_along := F9, g__law_along := PySem.W.mg_of X G a9, b__law_along := b9, a__law_spots := f10, d__law_spots := _, F__law_spots := F10, g__law_spots := PySem.W.mg_of X G a10, b__law_spots := b10, a_shared := f11, d_shared := _, F_shared := F11, g_shared := PySem.W.mg_of X G a11, b_shared := b11, a_part := f12, d_part := _, F_part := F12, g_part := PySem.W.mg_of X G a12, b_part := b12, e1_part := q12_1, v1_part := w12_1, b1_part := u12_1, a_over := f13, d_over := _, F_over := F13, g_over := PySem.W.mg_of X G a13, b_over := b13, a_common_below := f14, d_common_below := _, F_common_below := F14, g_common_below := PySem.W.mg_of X G a14, b_common_below := b14, a_whole_row := f15, d_whole_row := _, F_whole_row := F15, g_whole_row := PySem.W.mg_of X G a15, b_whole_row := b15, a_rising := f16, d_rising := _, F_rising := F16, g_rising := PySem.W.mg_of X G a16, b_rising := b16, a_by_turning := f17, d_by_turning := _, F_by_turning := F17, g_by_turning := PySem.W.mg_of X G a17, b_by_turning := b17, a_minus := f18, d_minus := _, F_minus := F18, g_minus := PySem.W.mg_of X G a18, b_minus := b18, a_plus := f19, d_plus := _, F_plus := F19, g_plus := PySem.W.mg_of X G a19, b_plus := b19, a_times := f20, d_times := _, F_times := F20, g_times := PySem.W.mg_of X G a20, b_times := b20, a_line_by := f21, d_line_by := _, F_line_by := F21, g_line_by := PySem.W.mg_of X G a21, b_line_by := b21, a_line_through := f22, d_line_through := _, F_line_through := F22, g_line_through := PySem.W.mg_of X G a22, b_line_through := b22, a_marked_lines := f23, d_marked_lines := _, F_marked_lines := F23, g_marked_lines := PySem.W.mg_of X G a23, b_marked_lines := b23, a__law_hom := f24, d__law_hom := _, F__law_hom := F24, g__law_hom := PySem.W.mg_of X G a24, b__law_hom := b24, a__law_line := f25, d__law_line := _, F__law_line := F25, g__law_line := PySem.W.mg_of X G a25, b__law_line := b25, a__law_sign := f26, d__law_sign := _, F__law_sign := F26, g__law_sign := PySem.W.mg_of X G a26, b__law_sign := b26, a__law_cross_of := f27, d__law_cross_of := _, F__law_cross_of := F27, g__law_cross_of := PySem.W.mg_of X G a27, b__law_cross_of := b27, a__law_between_lines := f28, d__law_between_lines := _, F__law_between_lines := F28, g__law_between_lines := PySem.W.mg_of X G a28, b__law_between_lines := b28, a__law_side := f29, d__law_side := _, F__law_side := F29, g__law_side := PySem.W.mg_of X G a29, b__law_side := b29, a__law_good := f30, d__law_good := _, F__law_good := F30, g__law_good := PySem.W.mg_of X G a30, b__law_good := b30, n_abs := PySem.W.mg_none_of X G z0, n_all := PySem.W.mg_none_of X G z1, n_bool := PySem.W.mg_none_of X G z2, n_enumerate := PySem.W.mg_none_of X G z3, n_int := PySem.W.mg_none_of X G z4, n_isinstance := PySem.W.mg_none_of X G z5, n_len := PySem.W.mg_none_of X G z6, n_list := PySem.W.mg_none_of X G z7, n_max := PySem.W.mg_none_of X G z8, n_range := PySem.W.mg_none_of X G z9, n_set := PySem.W.mg_none_of X G z10, n_sorted := PySem.W.mg_none_of X G z11, n_tuple := PySem.W.mg_none_of X G z12 }
  exact ⟨_, fun s v => .of_eq rfl, fun base _ _ => ok_law T F31⟩
  ) only [↓qt_eq])
end Law
end U.N
open PySem PySem.W PyProof.Rows
set_option maxHeartbeats 0 in
theorem PySem.Challenge.cw_umbrage_k49_marked_lines_turn_holds : PySem.Challenge.rw_umbrage_k49_marked_lines_turn.Holds := by
  refine U.head_top ?_
  k_fill
  refine L2.walk_of (l := PySem.Challenge.rw_umbrage_k49_marked_lines_turn) (n := 63) (k := 8) (x := "_law_script") (CX := fun _ => L2.CX0) (sp := fun w => U.spP _ U.PLaw) rfl (by decide) rfl ⟨rfl, by decide, by decide⟩ (fun w h Y => PySem.W.kIn_of Y) ?F (fun _ _ a ns hl _ hS => ⟨fun _ => False, [.list (ns.map PyData.int)], .bool true, fun _ z => z.elim, .cons (.lst (U.less_none hS) (U.dpa_of_ints _)) .nil, ⟨ns, rfl, hl, rfl⟩, fun v H' _ d => by cases d; rfl⟩) (fun _ _ _ _ _ h => h)
  case F =>
    intro w mg fa h KX G hmg
    refine' U.N.Law.all_mk KX G hmg ?a0 ?l0 ?c0 ?k0 ?a1 ?l1 ?c1 ?k1 ?a2 ?l2 ?c2 ?k2 ?a3 ?l3 ?c3 ?k3 ?a4 ?l4 ?c4 ?k4 ?a5 ?l5 ?c5 ?k5 ?a6 ?l6 ?c6 ?k6 ?a7 ?l7 ?c7 ?k7 ?a8 ?l8 ?c8 ?k8 ?a9 ?l9 ?c9 ?k9 ?a10 ?l10 ?c10 ?k10 ?a11 ?l11 ?c11 ?k11 ?a12 ?l12 ?c12 ?k12 ?t12 ?a13 ?l13 ?c13 ?k13 ?a14 ?l14 ?c14 ?k14 ?a15 ?l15 ?c15 ?k15 ?a16 ?l16 ?c16 ?k16 ?a17 ?l17 ?c17 ?k17 ?a18 ?l18 ?c18 ?k18 ?a19 ?l19 ?c19 ?k19 ?a20 ?l20 ?c20 ?k20 ?a21 ?l21 ?c21 ?k21 ?a22 ?l22 ?c22 ?k22 ?a23 ?l23 ?c23 ?k23 ?a24 ?l24 ?c24 ?k24 ?a25 ?l25 ?c25 ?k25 ?a26 ?l26 ?c26 ?k26 ?a27 ?l27 ?c27 ?k27 ?a28 ?l28 ?c28 ?k28 ?a29 ?l29 ?c29 ?k29 ?a30 ?l30 ?c30 ?k30 ?a31 ?l31 ?c31 ?k31 ?y0g ?y0o ?y0m ?y0h ?y0s ?y0x ?y0t ?y0k ?y0i ?y0f ?y0l ?y0c ?y0p ?y0a ?y0b ?y0n_word ?z0 ?z1 ?z2 ?z3 ?z4 ?z5 ?z6 ?z7 ?z8 ?z9 ?z10 ?z11 ?z12
    (case a0 => k_is); (case l0 => k_is); (case c0 => k_is); (case k0 => k_is); (case a1 => k_is); (case l1 => k_is); (case c1 => k_is); (case k1 => k_is); (case a2 => k_is); (case l2 => k_is); (case c2 => k_is); (case k2 => k_is); (case a3 => k_is); (case l3 => k_is); (case c3 => k_is); (case k3 => k_is); (case a4 => k_is); (case l4 => k_is); (case c4 => k_is); (case k4 => k_is); (case a5 => k_is); (case l5 => k_is); (case c5 => k_is); (case k5 => k_is); (case a6 => k_is); (case l6 => k_is); (case c6 => k_is); (case k6 => k_is); (case a7 => k_is); (case l7 => k_is); (case c7 => k_is); (case k7 => k_is); (case a8 => k_is); (case l8 => k_is); (case c8 => k_is); (case k8 => k_is); (case a9 => k_is); (case l9 => k_is); (case c9 => k_is); (case k9 => k_is); (case a10 => k_is); (case l10 => k_is); (case c10 => k_is); (case k10 => k_is); (case a11 => k_is); (case l11 => k_is); (case c11 => k_is); (case k11 => k_is); (case a12 => k_is); (case l12 => k_is); (case c12 => k_is); (case k12 => k_is); (case t12 => k_is); (case a13 => k_is); (case l13 => k_is); (case c13 => k_is); (case k13 => k_is); (case a14 => k_is); (case l14 => k_is); (case c14 => k_is); (case k14 => k_is); (case a15 => k_is); (case l15 => k_is); (case c15 => k_is); (case k15 => k_is); (case a16 => k_is); (case l16 => k_is); (case c16 => k_is); (case k16 => k_is); (case a17 => k_is); (case l17 => k_is); (case c17 => k_is); (case k17 => k_is); (case a18 => k_is); (case l18 => k_is); (case c18 => k_is); (case k18 => k_is); (case a19 => k_is); (case l19 => k_is); (case c19 => k_is); (case k19 => k_is); (case a20 => k_is); (case l20 => k_is); (case c20 => k_is); (case k20 => k_is); (case a21 => k_is); (case l21 => k_is); (case c21 => k_is); (case k21 => k_is); (case a22 => k_is); (case l22 => k_is); (case c22 => k_is); (case k22 => k_is); (case a23 => k_is); (case l23 => k_is); (case c23 => k_is); (case k23 => k_is); (case a24 => k_is); (case l24 => k_is); (case c24 => k_is); (case k24 => k_is); (case a25 => k_is); (case l25 => k_is); (case c25 => k_is); (case k25 => k_is); (case a26 => k_is); (case l26 => k_is); (case c26 => k_is); (case k26 => k_is); (case a27 => k_is); (case l27 => k_is); (case c27 => k_is); (case k27 => k_is); (case a28 => k_is); (case l28 => k_is); (case c28 => k_is); (case k28 => k_is); (case a29 => k_is); (case l29 => k_is); (case c29 => k_is); (case k29 => k_is); (case a30 => k_is); (case l30 => k_is); (case c30 => k_is); (case k30 => k_is); (case a31 => k_is); (case l31 => k_is); (case c31 => k_is); (case k31 => k_is); (case y0g => k_is); (case y0o => kx_is); (case y0m => kx_is); (case y0h => k_is); (case y0s => k_is); (case y0x => k_is); (case y0t => k_is); (case y0k => k_is); (case y0i => k_is); (case y0f => k_is); (case y0l => k_is); (case y0c => k_is); (case y0p => k_is); (case y0a => k_is); (case y0b => k_is); (case y0n_word => k_is); (case z0 => k_is); (case z1 => k_is); (case z2 => k_is); (case z3 => k_is); (case z4 => k_is); (case z5 => k_is); (case z6 => k_is); (case z7 => k_is); (case z8 => k_is); (case z9 => k_is); (case z10 => k_is); (case z11 => k_is); (case z12 => k_is)
