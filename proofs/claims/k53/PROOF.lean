import PyProof.Rows.All
import Wide.All
import OpenK.AllK
import Wide.FinOn
import HandS.ForMost
import HandS.ForExc
import HandS.Wide
import HandS.IsInst
import HandS.Evl
import HandS.Defaults
import HandS.TupAny
import HandS.Zip
import HandS.Style
import HandS.ExcInit
import HandS.ExcField
import KE.KExcInit
import HandS.CallSlots
import HandS.ExcIs
import KE.KExcLine
import KE.KUnpackStar
import HandS.SortKw
import KE.GoesEnum
import KE.KUnpack
import HandS.Lambda
import KE.KDictKeyed
import KE.KDictWalk
import HandS.DictComp
import KE.SortData
import KE.KDictSum
import HandS.Conv
import PyProof.Transfer
import HandS.Deep
import KE.KExcIs
import KE.KIsAll
import KE.GoesMore
import HandS.ReplaceLit
import HandS.IterVal
import HandS.TupSets
import HandS.More
import HandS.Text
import HandS.FStr
import PyProof.Rows.RegReprOcc
import PyProof.Rows.StrFirst
import KE.KWords
import HandS.ReplaceList
import HandS.Head2
import KE.KNestM
import PySem.Challenge.RW_umbrage_k53_texts_that_are_none
def Qt (p : Prop) : Prop := p
theorem qt_eq (p : Prop) (h : p) : Qt p = True := eq_true h
theorem qt_of {p : Prop} (h : Qt p) : p := h
set_option Elab.async false
set_option linter.all false
set_option maxRecDepth 100000
set_option maxHeartbeats 4000000
namespace U
open PySem PySem.W PyProof.Rows
theorem hob_k {K : Params → Frag} {as : List Addr} {e : ∀ P, as = (K P).map (·.1)} (s : SharedT) : as.map (HandSHeadRun.getT s) = (kHook K as e).obs s.abs := List.map_congr_left fun a _ => HandSHeadRun.getT_eq s a
theorem hob_km {K : Params → Frag} {as : List Addr} {e : ∀ P, as = (K P).map (·.1)} {ts : List Addr} (s : SharedT) : (as.map (HandSHeadRun.getT s), ts.map (HandSHeadRun.getT s)) = (kmHook K as e ts).obs s.abs := Prod.ext (List.map_congr_left fun a _ => HandSHeadRun.getT_eq s a) (List.map_congr_left fun a _ => HandSHeadRun.getT_eq s a)
def loose : List PySem.Str := (["Unfit", "Unread", "BadRow", "FIGURES", "shared", "figures_of", "whole_in", "part_in", "DEEP", "LONG", "WORDS", "PAIRS", "LETTERS", "is_name", "tokens_of", "Reading", "read", "_law_bag", "_law_pull", "_law_like", "_law_gcd", "_law_frac", "_law_part", "_law_whole_part", "_law_map", "_law_entry", "_law_tree", "_law_part_text", "_law_inner", "_law_text"] : List PySem.Str) ++ (["_law_words", "_law_told", "_law_placed", "_law_glued", "_law_deep_text"] : List PySem.Str)
set_option maxHeartbeats 0 in
local macro_rules | `(tactic| o_head $H) => `(tactic| (refine HandSHeadRun.head_any (r := (OpenLaw.row PySem.Challenge.rw_umbrage_k53_texts_that_are_none)) (q := view (OpenLaw.row PySem.Challenge.rw_umbrage_k53_texts_that_are_none).prog [39]) (H := $H) (M := 2200) (loose := U.loose) (d := HandSHeadRun.topDef (OpenLaw.row PySem.Challenge.rw_umbrage_k53_texts_that_are_none).prog 39) (kwd := []) (fun s => by first | exact U.hob_k s | exact U.hob_km s) (by kernel_rfl) (fun s => by kernel_rfl) ?hrun (by kernel_rfl) (by kernel_rfl) (by kernel_rfl) (by rfl) (by first | assumption | decide +kernel) (by decide +kernel) ⟨rfl, rfl, rfl, rfl, rfl, by decide +kernel⟩ ?hw ?hc; (case hrun => (intro w os; kernel_rfl))))
set_option maxHeartbeats 0 in
open_top head_top for PySem.Challenge.rw_umbrage_k53_texts_that_are_none
end U
section
/-! The data layer: slots hold data, lists of one's own, or the bag of draws; readings evaluate to data. -/
namespace U
open PySem L2 Evl
noncomputable abbrev Fg := PySem.W.Frag
noncomputable abbrev Hp := L2.Hp
noncomputable abbrev St := L2.St
open Classical in
noncomputable def less (H : Hp) (Z : Addr → Prop) : Hp := fun a => if Z a then none else H a
theorem less_no {H : Hp} {Z : Addr → Prop} {a : Addr} (h : ¬ Z a) : less H Z a = H a := if_neg h
theorem less_yes {H : Hp} {Z : Addr → Prop} {a : Addr} (h : Z a) : less H Z a = none := if_pos h
theorem less_some {H : Hp} {Z : Addr → Prop} {a : Addr} {o : HO} (h : less H Z a = some o) : ¬ Z a ∧ H a = some o := by
  by_cases z : Z a
  · rw [less_yes z] at h; cases h
  · rw [less_no z] at h; exact ⟨z, h⟩
theorem less_of {H : Hp} {Z : Addr → Prop} {a : Addr} {o : HO} (z : ¬ Z a) (h : H a = some o) : less H Z a = some o := (less_no z).trans h
theorem less_ex {H : Hp} {Z : Addr → Prop} : Ex (less H Z) H := fun _ _ h => (less_some h).2
theorem less_mono {H H' : Hp} {Z : Addr → Prop} (e : Ex H H') : Ex (less H Z) (less H' Z) := fun a o h => less_of (less_some h).1 (e a o (less_some h).2)
theorem less_sub {H : Hp} {Z Z' : Addr → Prop} (e : ∀ a, Z' a → Z a) : Ex (less H Z) (less H Z') := fun a o h => less_of (fun z => (less_some h).1 (e a z)) (less_some h).2
theorem less_but {H H' : Hp} {Z : Addr → Prop} (e : ∀ a o, H a = some o → ¬ Z a → H' a = some o) : Ex (less H Z) (less H' Z) := fun a o h => less_of (less_some h).1 (e a o (less_some h).2 (less_some h).1)

mutual
theorem dp_mono {K : Fg} {H H' : Hp} (e : Ex H H') : ∀ {d : PyData} {v : V}, Dp K H v d → Dp K H' v d
  | _, _, .non => .non
  | _, _, .bl b => .bl b
  | _, _, .int i => .int i
  | _, _, .str x => .str x
  | _, _, .lst h t => .lst (ex_l e h) (dpa_mono e t)
  | _, _, .tup h t => .tup (ex_t e h) (dpa_mono e t)
theorem dpa_mono {K : Fg} {H H' : Hp} (e : Ex H H') : ∀ {ds : List PyData} {vs : List V}, DpAll K H vs ds → DpAll K H' vs ds
  | _, _, .nil => .nil
  | _, _, .cons h t => .cons (dp_mono e h) (dpa_mono e t)
end
theorem dpa_len {K : Fg} {H : Hp} : ∀ {ds : List PyData} {vs : List V}, DpAll K H vs ds → vs.length = ds.length
  | _, _, .nil => rfl
  | _, _, .cons _ t => congrArg (· + 1) (dpa_len t)
theorem dpa_get {K : Fg} {H : Hp} : ∀ {ds : List PyData} {vs : List V} {i : Nat} {d : PyData}, DpAll K H vs ds → ds[i]? = some d → ∃ v, vs[i]? = some v ∧ Dp K H v d
  | _, _, _, _, .nil, e => by simp at e
  | _, _, 0, _, .cons h _, e => by
    have e := Option.some.inj e
    subst e
    exact ⟨_, rfl, h⟩
  | _, _, i + 1, _, .cons _ t, e => dpa_get (i := i) t e
theorem dpa_app {K : Fg} {H : Hp} : ∀ {ds es : List PyData} {vs us : List V}, DpAll K H vs ds → DpAll K H us es → DpAll K H (vs ++ us) (ds ++ es)
  | _, _, _, _, .nil, h => h
  | _, _, _, _, .cons h t, u => .cons h (dpa_app t u)

/-- the bag of draws: its cells, how often it was drawn, its number -/
structure Bag where
  cs : List Int
  i : Int
  j : Int
noncomputable def Bag.ok (s : Bag) : Prop := s.cs.length ≤ 63 ∧ 0 ≤ s.j ∧ s.j < 2147483647
noncomputable def BagAt (H : Hp) (B : Option (Addr × Addr)) (s : Bag) : Prop := match B with
  | some (b, c) => H b = some (.lst [.ref c, .int s.i, .int s.j]) ∧ H c = some (.lst (s.cs.map V.int)) ∧ s.ok
  | none => True
noncomputable def InB (B : Option (Addr × Addr)) (a : Addr) : Prop := ∃ b c, B = some (b, c) ∧ (a = b ∨ a = c)
inductive En where
  | un
  | d (x : PyData)
  | own (xs : List PyData)
  | bag
noncomputable abbrev Gam := List En
noncomputable def Zs (W : Addr → Prop) (B : Option (Addr × Addr)) (ad : Nat → Addr) (G : Gam) : Addr → Prop := fun a => W a ∨ (∃ i xs, G[i]? = some (.own xs) ∧ a = ad i) ∨ InB B a
noncomputable def Slot (K : Fg) (B : Option (Addr × Addr)) (ad : Nat → Addr) (H : Hp) (Z : Addr → Prop) (i : Nat) (o : Option V) : En → Prop
  | .un => True
  | .d x => ∃ v, o = some v ∧ Dp K (less H Z) v x
  | .own xs => o = some (.ref (ad i)) ∧ ∃ vs, H (ad i) = some (.lst vs) ∧ DpAll K (less H Z) vs xs
  | .bag => ∃ b c, B = some (b, c) ∧ o = some (.ref b)
/-- the state of a def's frame: slots, heap, bag, against the heap H0 at its entry -/
structure Sta (K : Fg) (W : Addr → Prop) (B : Option (Addr × Addr)) (ad : Nat → Addr) (H0 H : Hp) (σ : St) (G : Gam) (s : Bag) : Prop where
  len : σ.length = G.length
  at_ : ∀ i e, G[i]? = some e → ∃ o, σ[i]? = some o ∧ Slot K B ad H (Zs W B ad G) i o e
  inj : ∀ i j xs ys, G[i]? = some (.own xs) → G[j]? = some (.own ys) → ad i = ad j → i = j
  sep : ∀ i xs, G[i]? = some (.own xs) → H0 (ad i) = none ∧ ¬ InB B (ad i) ∧ ¬ W (ad i)
  base : ∀ a o, H0 a = some o → ¬ InB B a → H a = some o
  bag : BagAt H B s
  wd : ∀ a, W a → ∃ o, H a = some o
noncomputable def swp (ad : Nat → Addr) (i : Nat) (p : Addr) : Nat → Addr := fun j => if j = i then p else ad j
theorem swp_same {ad : Nat → Addr} {i : Nat} {p : Addr} : swp ad i p i = p := if_pos rfl
theorem swp_ne {ad : Nat → Addr} {i j : Nat} {p : Addr} (h : i ≠ j) : swp ad i p j = ad j := if_neg fun z => h z.symm
section
variable {K : Fg} {W : Addr → Prop} {B : Option (Addr × Addr)} {ad : Nat → Addr} {H0 H H2 : Hp} {σ : St} {G G' : Gam} {s s' : Bag}
theorem Slot.mono {Z Z' : Addr → Prop} {i : Nat} {o : Option V} {e : En} (h : Slot K B ad H Z i o e) (x : Ex (less H Z) (less H2 Z')) (y : ∀ xs vs, e = .own xs → H (ad i) = some (.lst vs) → H2 (ad i) = some (.lst vs)) : Slot K B ad H2 Z' i o e := by
  cases e with
  | un => trivial
  | d d => obtain ⟨v, e, h⟩ := h; exact ⟨v, e, dp_mono x h⟩
  | own xs => obtain ⟨e, vs, h1, h2⟩ := h; exact ⟨e, vs, y xs vs rfl h1, dpa_mono x h2⟩
  | bag => exact h
theorem upd_there {H : Hp} {p a : Addr} {o u : HO} (h : H a = some o) : ∃ o', upd H p u a = some o' := by
  by_cases z : a = p
  · exact ⟨u, by rw [z]; exact upd_same⟩
  · exact ⟨o, by rw [upd_ne z]; exact h⟩
/-- everything stays -/
theorem Sta.ext (S : Sta K W B ad H0 H σ G s) (e : Ex H H2) : Sta K W B ad H0 H2 σ G s where
  len := S.len
  at_ := fun i en h => by
    obtain ⟨o, h1, h2⟩ := S.at_ i en h
    exact ⟨o, h1, h2.mono (less_mono e) fun _ _ _ q => e _ _ q⟩
  inj := S.inj
  sep := S.sep
  base := fun a o h n => e _ _ (S.base a o h n)
  bag := by
    have h := S.bag
    unfold BagAt at h ⊢
    split
    · exact ⟨e _ _ h.1, e _ _ h.2.1, h.2.2⟩
    · trivial
  wd := fun a z => by
    obtain ⟨o, h⟩ := S.wd a z
    exact ⟨o, e _ _ h⟩
/-- all but the bag stays -/
theorem Sta.drawn (S : Sta K W B ad H0 H σ G s) (e : ∀ a o, H a = some o → ¬ InB B a → H2 a = some o) (b : BagAt H2 B s') : Sta K W B ad H0 H2 σ G s' where
  len := S.len
  at_ := fun i en h => by
    obtain ⟨o, h1, h2⟩ := S.at_ i en h
    refine ⟨o, h1, h2.mono (less_but fun a o q z => e a o q fun y => z (.inr (.inr y))) fun xs vs q q2 => ?_⟩
    subst q
    exact e _ _ q2 (S.sep i xs h).2.1
  inj := S.inj
  sep := S.sep
  base := fun a o h n => e a o (S.base a o h n) n
  bag := b
  wd := fun a z => by
    by_cases hb : InB B a
    · obtain ⟨b1, c1, rfl, hb⟩ := hb
      rcases hb with rfl | rfl
      · exact ⟨_, b.1⟩
      · exact ⟨_, b.2.1⟩
    · obtain ⟨o, h⟩ := S.wd a z
      exact ⟨o, e _ _ h hb⟩
theorem Zs.set_of {i : Nat} {e : En} (he : ∀ xs, e ≠ .own xs) {a : Addr} (h : Zs W B ad (G.set i e) a) : Zs W B ad G a := qt_of (by simp (disch := with_unfolding_all
  rcases h with h | ⟨j, xs, h, r⟩ | h
  · exact .inl h
  · by_cases z : i = j
    · subst z
      by_cases l : i < G.length
      · rw [List.getElem?_set_self l] at h
        exact absurd (Option.some.inj h) (he xs)
      · rw [List.getElem?_eq_none (by rw [List.length_set]; omega)] at h; cases h
    · rw [List.getElem?_set_ne z] at h
      exact .inr (.inl ⟨j, xs, h, r⟩)
  · exact .inr (.inr h)
  ) only [↓qt_eq])
theorem get_set {α : Type} {l : List α} {i j : Nat} {x y : α} (h : (l.set i x)[j]? = some y) : (i = j ∧ i < l.length ∧ x = y) ∨ (i ≠ j ∧ l[j]? = some y) := qt_of (by simp (disch := with_unfolding_all
  by_cases z : i = j
  · subst z
    by_cases q : i < l.length
    · rw [List.getElem?_set_self q] at h
      exact .inl ⟨rfl, q, Option.some.inj h⟩
    · rw [List.getElem?_eq_none (by rw [List.length_set]; omega)] at h; cases h
  · rw [List.getElem?_set_ne z] at h
    exact .inr ⟨z, h⟩
  ) only [↓qt_eq])
/-- a slot gets a thing that is no list of one's own -/
theorem Sta.set (S : Sta K W B ad H0 H σ G s) {i : Nat} {e : En} {o : Option V} (he : ∀ xs, e ≠ .own xs) (h : Slot K B ad H (Zs W B ad G) i o e) : Sta K W B ad H0 H (σ.set i o) (G.set i e) s where
  len := by rw [List.length_set, List.length_set]; exact S.len
  at_ := fun j en g => by
    rcases get_set g with ⟨rfl, l, rfl⟩ | ⟨z, g⟩
    · refine ⟨o, List.getElem?_set_self (by rw [S.len]; exact l), h.mono (less_sub fun a q => Zs.set_of he q) fun _ _ _ q => q⟩
    · obtain ⟨o', h1, h2⟩ := S.at_ j en g
      exact ⟨o', by rw [List.getElem?_set_ne z]; exact h1, h2.mono (less_sub fun a q => Zs.set_of he q) fun _ _ _ q => q⟩
  inj := fun j k xs ys g g' q => by
    rcases get_set g with ⟨rfl, l, e⟩ | ⟨z, g⟩
    · exact absurd e (he xs)
    · rcases get_set g' with ⟨rfl, l, e⟩ | ⟨z', g'⟩
      · exact absurd e (he ys)
      · exact S.inj j k xs ys g g' q
  sep := fun j xs g => by
    rcases get_set g with ⟨rfl, l, e⟩ | ⟨z, g⟩
    · exact absurd e (he xs)
    · exact S.sep j xs g
  base := S.base
  bag := S.bag
  wd := S.wd
theorem Sta.setD (S : Sta K W B ad H0 H σ G s) {i : Nat} {v : V} {x : PyData} (h : Dp K (less H (Zs W B ad G)) v x) : Sta K W B ad H0 H (σ.set i (some v)) (G.set i (.d x)) s :=
  S.set (fun _ z => by cases z) ⟨v, rfl, h⟩
theorem Sta.fresh (S : Sta K W B ad H0 H σ G s) {p : Addr} (h : H p = none) : H0 p = none ∧ ¬ InB B p := qt_of (by simp (disch := with_unfolding_all
  have hB : ¬ InB B p := by
    rintro ⟨b, c, rfl, z⟩
    have q := S.bag
    unfold BagAt at q
    rcases z with rfl | rfl
    · rw [q.1] at h; cases h
    · rw [q.2.1] at h; cases h
  refine ⟨?_, hB⟩
  cases e : H0 p with
  | none => rfl
  | some o => rw [S.base p o e hB] at h; cases h
  ) only [↓qt_eq])
/-- a thing of another's, which is new to this def, is changed -/
theorem Sta.foreign (S : Sta K W B ad H0 H σ G s) {p : Addr} {o : HO} (hw : W p) (h0 : H0 p = none) (hB : ¬ InB B p) : Sta K W B ad H0 (upd H p o) σ G s ∧ less (upd H p o) (Zs W B ad G) = less H (Zs W B ad G) := qt_of (by simp (disch := with_unfolding_all
  have el : less (upd H p o) (Zs W B ad G) = less H (Zs W B ad G) := by
    funext a
    by_cases z : Zs W B ad G a
    · rw [less_yes z, less_yes z]
    · rw [less_no z, less_no z, upd_ne (fun e => z (.inl (by rw [e]; exact hw)))]
  refine ⟨⟨S.len, fun i e h => ?_, S.inj, S.sep, fun a u q n => ?_, ?_, fun a z => (S.wd a z).elim fun o q => upd_there q⟩, el⟩
  · obtain ⟨u, g1, g2⟩ := S.at_ i e h
    refine ⟨u, g1, g2.mono (by rw [el]; exact Ex.refl _) fun xs vs q q2 => ?_⟩
    subst q
    rw [upd_ne (fun z => (S.sep i xs h).2.2 (by rw [z]; exact hw))]; exact q2
  · rw [upd_ne (fun z => by rw [z, h0] at q; cases q)]; exact S.base a u q n
  · have hg := S.bag
    rcases B with _ | ⟨b, c⟩
    · trivial
    · have h : H b = _ ∧ _ := hg
      refine ⟨?_, ?_, h.2.2⟩
      · rw [upd_ne (fun z => hB ⟨b, c, rfl, .inl z.symm⟩)]; exact h.1
      · rw [upd_ne (fun z => hB ⟨b, c, rfl, .inr z.symm⟩)]; exact h.2.1
  ) only [↓qt_eq])
/-- a new thing is for a while another's -/
theorem Sta.lend (S : Sta K W B ad H0 H σ G s) {p : Addr} {o : HO} (hp : H p = none) : Sta K (fun a => W a ∨ a = p) B ad H0 (upd H p o) σ G s ∧ less (upd H p o) (Zs (fun a => W a ∨ a = p) B ad G) = less H (Zs W B ad G) := qt_of (by simp (disch := with_unfolding_all
  have np : ¬ Zs W B ad G p := by
    rintro (z | ⟨i, xs, g, r⟩ | z)
    · obtain ⟨o, z⟩ := S.wd _ z
      rw [hp] at z; cases z
    · obtain ⟨_, _, _, vs, h1, _⟩ := S.at_ i _ g
      rw [← r, hp] at h1; cases h1
    · obtain ⟨b, c, rfl, z⟩ := z
      rcases z with rfl | rfl
      · rw [S.bag.1] at hp; cases hp
      · rw [S.bag.2.1] at hp; cases hp
  have zz : ∀ a, Zs (fun a => W a ∨ a = p) B ad G a ↔ Zs W B ad G a ∨ a = p := fun a => by
    constructor
    · rintro ((z | z) | z | z)
      · exact .inl (.inl z)
      · exact .inr z
      · exact .inl (.inr (.inl z))
      · exact .inl (.inr (.inr z))
    · rintro ((z | z | z) | z)
      · exact .inl (.inl z)
      · exact .inr (.inl z)
      · exact .inr (.inr z)
      · exact .inl (.inr z)
  have el : less (upd H p o) (Zs (fun a => W a ∨ a = p) B ad G) = less H (Zs W B ad G) := by
    funext a
    by_cases e : a = p
    · rw [less_yes ((zz a).mpr (.inr e)), e, less_no np, hp]
    · by_cases z : Zs W B ad G a
      · rw [less_yes z, less_yes ((zz a).mpr (.inl z))]
      · rw [less_no z, less_no (fun y => ((zz a).mp y).elim z e), upd_ne e]
  have ex : Ex H (upd H p o) := Ex.new hp
  have S' := S.ext ex
  refine ⟨⟨S.len, fun i e h => ?_, S.inj, fun i xs h => ⟨(S.sep i xs h).1, (S.sep i xs h).2.1, fun z => z.elim (S.sep i xs h).2.2 fun z => np (by rw [← z]; exact .inr (.inl ⟨i, xs, h, rfl⟩))⟩, S'.base, S'.bag, fun a z => z.elim (fun z => S'.wd a z) fun z => ⟨o, by rw [z]; exact upd_same⟩⟩, el⟩
  obtain ⟨u, g1, g2⟩ := S.at_ i e h
  exact ⟨u, g1, g2.mono (by rw [el]; exact Ex.refl _) fun xs vs q q2 => ex _ _ q2⟩
  ) only [↓qt_eq])
/-- .. and is given back -/
theorem Sta.back {p : Addr} (S : Sta K (fun a => W a ∨ a = p) B ad H0 H σ G s) : Sta K W B ad H0 H σ G s ∧ Ex (less H (Zs (fun a => W a ∨ a = p) B ad G)) (less H (Zs W B ad G)) := qt_of (by simp (disch := with_unfolding_all
  have ex : Ex (less H (Zs (fun a => W a ∨ a = p) B ad G)) (less H (Zs W B ad G)) := less_sub fun a z => z.elim (fun z => .inl (.inl z)) .inr
  refine ⟨⟨S.len, fun i e h => ?_, S.inj, fun i xs h => ⟨(S.sep i xs h).1, (S.sep i xs h).2.1, fun z => (S.sep i xs h).2.2 (.inl z)⟩, S.base, S.bag, fun a z => S.wd a (.inl z)⟩, ex⟩
  obtain ⟨u, g1, g2⟩ := S.at_ i e h
  exact ⟨u, g1, g2.mono ex fun _ _ _ q => q⟩
  ) only [↓qt_eq])
end
end U

end
section
namespace U
open PySem L2 Evl
/-- all but the bag stays -/
noncomputable def Xb (B : Option (Addr × Addr)) (H H2 : Hp) : Prop := ∀ a o, H a = some o → ¬ InB B a → H2 a = some o
theorem Xb.refl {B : Option (Addr × Addr)} {H : Hp} : Xb B H H := fun _ _ h _ => h
theorem Xb.trans {B : Option (Addr × Addr)} {H H1 H2 : Hp} (a : Xb B H H1) (b : Xb B H1 H2) : Xb B H H2 := fun p o h n => b p o (a p o h n) n
theorem Xb.l {B : Option (Addr × Addr)} {H H2 : Hp} (a : Xb B H H2) {W : Addr → Prop} {ad : Nat → Addr} {G : Gam} : Ex (less H (Zs W B ad G)) (less H2 (Zs W B ad G)) := less_but fun p o h n => a p o h fun z => n (.inr (.inr z))
theorem Xb.of {B : Option (Addr × Addr)} {H H2 : Hp} (e : Ex H H2) : Xb B H H2 := fun p o h _ => e p o h
/-! ### what a reading evaluates to -/
noncomputable def EvG (K : Fg) (te : TE) (G : Gam) (s : Bag) (x : PyData) (s' : Bag) : Prop :=
  ∀ W B ad H0 H σ, Sta K W B ad H0 H σ G s → ∀ Q : VK, (∀ v H2, Sta K W B ad H0 H2 σ G s' → Xb B H H2 → Dp K (less H2 (Zs W B ad G)) v x → Q v H2) → te σ H Q
noncomputable def EvT (K : Fg) (tt : TT) (G : Gam) (s : Bag) (b : Bool) (s' : Bag) : Prop :=
  ∀ W B ad H0 H σ, Sta K W B ad H0 H σ G s → ∀ Q : Bool → Hp → Prop, (∀ H2, Sta K W B ad H0 H2 σ G s' → Xb B H H2 → Q b H2) → tt σ H Q
noncomputable def EvA (K : Fg) (ta : TA) (G : Gam) (s : Bag) (xs : List PyData) (s' : Bag) : Prop :=
  ∀ W B ad H0 H σ, Sta K W B ad H0 H σ G s → ∀ Q : List V → Hp → Prop, (∀ vs H2, Sta K W B ad H0 H2 σ G s' → Xb B H H2 → DpAll K (less H2 (Zs W B ad G)) vs xs → Q vs H2) → ta σ H Q
/-- a new list as a value of its own (not yet data) is not spoken of: lists are data once made -/
inductive Out where
  | nx (G : Gam) (s : Bag)
  | rt (x : PyData) (s : Bag)
  | bk (G : Gam) (s : Bag)
  | ct (G : Gam) (s : Bag)
noncomputable def Post (K : Fg) (W : Addr → Prop) (B : Option (Addr × Addr)) (H0 M : Hp) (D : Ends) : Out → Prop
  | .nx G s => ∀ ad H σ, Sta K W B ad H0 H σ G s → Ex M (less H (Zs W B ad G)) → D.nx σ H
  | .rt x s => ∀ v H, (∀ a o, H0 a = some o → ¬ InB B a → H a = some o) → BagAt H B s → Dp K (less H fun a => W a ∨ InB B a) v x → D.rt v H
  | .bk G s => ∀ ad H σ, Sta K W B ad H0 H σ G s → Ex M (less H (Zs W B ad G)) → D.bk σ H
  | .ct G s => ∀ ad H σ, Sta K W B ad H0 H σ G s → Ex M (less H (Zs W B ad G)) → D.ct σ H
noncomputable def SG (K : Fg) (ts : TS) (G : Gam) (s : Bag) (o : Out) : Prop :=
  ∀ W B ad H0 H σ (D : Ends), Sta K W B ad H0 H σ G s → Post K W B H0 (less H (Zs W B ad G)) D o → ts D σ H

section
variable {K : Fg} {G G1 G2 : Gam} {s s1 s2 s3 s' : Bag} {ta tb tc te : TE} {t u : TT} {x y z : PyData}
/-! ### values -/
theorem ev_is {x'} (h : EvG K te G s x s') (e : x = x') : EvG K te G s x' s' := e ▸ h
theorem et_is {b b' : Bool} (h : EvT K t G s b s') (e : b = b') : EvT K t G s b' s' := e ▸ h
theorem ev_var {i : Nat} (h : G[i]? = some (.d x)) : EvG K (tVar i) G s x s := fun W B ad H0 H σ S Q q => by
  obtain ⟨o, h1, v, rfl, h2⟩ := S.at_ i _ h
  exact ⟨v, h1, q v H S (Xb.refl) h2⟩
theorem ev_int {i : Int} : EvG K (tC (.int i)) G s (.int i) s := fun W B ad H0 H σ S Q q => q _ H S (Xb.refl) (.int i)
/-! ### argument lists and displays -/
theorem ea_nil : EvA K tNil G s [] s := fun W B ad H0 H σ S Q q => q _ H S (Xb.refl) .nil
theorem ea_cons {tr : TA} {xs : List PyData} (h : EvG K ta G s x s1) (hr : EvA K tr G s1 xs s2) : EvA K (tCons ta tr) G s (x :: xs) s2 := fun W B ad H0 H σ S Q q =>
  h W B ad H0 H σ S _ fun v H1 S1 e1 d1 => hr W B ad H0 H1 σ S1 _ fun vs H2 S2 e2 d2 => q _ H2 S2 (e1.trans e2) (.cons (dp_mono e2.l d1) d2)
theorem new_ex {W : Addr → Prop} {B : Option (Addr × Addr)} {ad : Nat → Addr} {H0 H : Hp} {σ : St} (S : Sta K W B ad H0 H σ G s) {p : Addr} {o : HO} (h : H p = none) :
    Sta K W B ad H0 (upd H p o) σ G s ∧ Xb B H (upd H p o) ∧ less (upd H p o) (Zs W B ad G) p = some o := qt_of (by simp (disch := with_unfolding_all
  have e : Ex H (upd H p o) := Ex.new h
  refine ⟨S.ext e, .of e, less_of ?_ upd_same⟩
  rintro (z | ⟨i, xs, g, r⟩ | z)
  · obtain ⟨o, z⟩ := S.wd _ z
    rw [h] at z; cases z
  · obtain ⟨_, _, _, vs, h1, _⟩ := S.at_ i _ g
    rw [← r, h] at h1; cases h1
  · exact (S.fresh h).2 z
  ) only [↓qt_eq])
theorem sz_line {n : Nat} (h : n ≤ 16000000) : n ≤ sizeLine := Nat.le_trans h (by decide)
theorem ev_tup {ta : TA} {xs : List PyData} (h : EvA K ta G s xs s') (hl : xs.length ≤ 16000000) : EvG K (tTup ta) G s (.tuple xs) s' := fun W B ad H0 H σ S Q q =>
  h W B ad H0 H σ S _ fun vs H1 S1 e1 d1 => ⟨by rw [dpa_len d1]; exact sz_line hl, fun p hp => by
    obtain ⟨S2, e2, g⟩ := new_ex (o := .tup vs) S1 hp
    exact q _ _ S2 (e1.trans e2) (.tup (st_of g) (dpa_mono e2.l d1))⟩
theorem ev_lst {ta : TA} {xs : List PyData} (h : EvA K ta G s xs s') (hl : xs.length ≤ 16000000) : EvG K (tLst ta) G s (.list xs) s' := fun W B ad H0 H σ S Q q =>
  h W B ad H0 H σ S _ fun vs H1 S1 e1 d1 => ⟨by rw [dpa_len d1]; exact sz_line hl, fun p hp => by
    obtain ⟨S2, e2, g⟩ := new_ex (o := .lst vs) S1 hp
    exact q _ _ S2 (e1.trans e2) (.lst (sq_of g) (dpa_mono e2.l d1))⟩
/-! ### operators -/
theorem ev_I0 {g : Int → Int → V} {f : Int → Int → PyData} {i j : Int} (ha : EvG K ta G s (.int i) s1) (hb : EvG K tb G s1 (.int j) s2) (hg : ∀ H, Dp K H (g i j) (f i j)) : EvG K (tOp (rI0 g) ta tb) G s (f i j) s2 := fun W B ad H0 H σ S Q q =>
  ha W B ad H0 H σ S _ fun v H1 S1 e1 d1 => hb W B ad H0 H1 σ S1 _ fun w H2 S2 e2 d2 => by
    cases d1; cases d2
    exact ⟨i, j, rfl, rfl, q _ H2 S2 (e1.trans e2) (hg _)⟩
theorem ev_I {C : Int → Int → Prop} {g : Int → Int → V} {f : Int → Int → PyData} {i j : Int} (ha : EvG K ta G s (.int i) s1) (hb : EvG K tb G s1 (.int j) s2) (hc : C i j) (hg : ∀ H, Dp K H (g i j) (f i j)) : EvG K (tOp (rI C g) ta tb) G s (f i j) s2 := fun W B ad H0 H σ S Q q =>
  ha W B ad H0 H σ S _ fun v H1 S1 e1 d1 => hb W B ad H0 H1 σ S1 _ fun w H2 S2 e2 d2 => by
    cases d1; cases d2
    exact ⟨i, j, rfl, rfl, hc, q _ H2 S2 (e1.trans e2) (hg _)⟩
theorem ev_add {i j : Int} (ha : EvG K ta G s (.int i) s1) (hb : EvG K tb G s1 (.int j) s2) : EvG K (tOp (rI0 fun i j => .int (i + j)) ta tb) G s (.int (i + j)) s2 := ev_I0 (f := fun i j => .int (i + j)) ha hb fun _ => .int _
theorem ev_sub {i j : Int} (ha : EvG K ta G s (.int i) s1) (hb : EvG K tb G s1 (.int j) s2) : EvG K (tOp (rI0 fun i j => .int (i - j)) ta tb) G s (.int (i - j)) s2 := ev_I0 (f := fun i j => .int (i - j)) ha hb fun _ => .int _
/-- // by any divisor but 0, of less than 9000 bits -/
noncomputable def CDvX (_ j : Int) : Prop := j ≠ 0 ∧ j.natAbs.log2 < 9000
theorem op_fdivX {X : Cx} : OpR X (binaryOp .FloorDiv) (rI CDvX fun i j => .int (i.fdiv j)) := opI fun i j _ _ _ _ _ hc q => PyProof.Rows.floordiv_int hc.1 q (.inl (PyProof.noPylong_of_log2 hc.2))
theorem ev_fdiv {i j : Int} (ha : EvG K ta G s (.int i) s1) (hb : EvG K tb G s1 (.int j) s2) (hc : CDvX i j) : EvG K (tOp (rI CDvX fun i j => .int (i.fdiv j)) ta tb) G s (.int (i.fdiv j)) s2 := ev_I (f := fun i j => .int (i.fdiv j)) ha hb hc fun _ => .int _
noncomputable def CNz (_ j : Int) : Prop := j ≠ 0
theorem op_modX {X : Cx} : OpR X (binaryOp .Mod) (rI CNz fun i j => .int (i.fmod j)) := op_modN
theorem ev_mod {i j : Int} (ha : EvG K ta G s (.int i) s1) (hb : EvG K tb G s1 (.int j) s2) (hc : CNz i j) : EvG K (tOp (rI CNz fun i j => .int (i.fmod j)) ta tb) G s (.int (i.fmod j)) s2 := ev_I (f := fun i j => .int (i.fmod j)) ha hb hc fun _ => .int _
theorem ev_lt {i j : Int} (ha : EvG K ta G s (.int i) s1) (hb : EvG K tb G s1 (.int j) s2) : EvG K (tOp (rI0 fun i j => .bl (decide (i < j))) ta tb) G s (.bool (decide (i < j))) s2 := ev_I0 (f := fun i j => .bool (decide (i < j))) ha hb fun _ => .bl _
theorem ev_gt {i j : Int} (ha : EvG K ta G s (.int i) s1) (hb : EvG K tb G s1 (.int j) s2) : EvG K (tOp (rI0 fun i j => .bl (decide (j < i))) ta tb) G s (.bool (decide (j < i))) s2 := ev_I0 (f := fun i j => .bool (decide (j < i))) ha hb fun _ => .bl _
theorem ev_eqI {i j : Int} (ha : EvG K ta G s (.int i) s1) (hb : EvG K tb G s1 (.int j) s2) : EvG K (tOp rEq ta tb) G s (.bool (decide (i = j))) s2 := fun W B ad H0 H σ S Q q =>
  ha W B ad H0 H σ S _ fun v H1 S1 e1 d1 => hb W B ad H0 H1 σ S1 _ fun w H2 S2 e2 d2 => by
    cases d1; cases d2
    have e : decide (V.int i = V.int j) = decide (i = j) := by simp
    exact ⟨rfl, by rw [e]; exact q _ H2 S2 (e1.trans e2) (.bl _)⟩
theorem ev_neI {i j : Int} (ha : EvG K ta G s (.int i) s1) (hb : EvG K tb G s1 (.int j) s2) : EvG K (tOp rNe ta tb) G s (.bool (!decide (i = j))) s2 := fun W B ad H0 H σ S Q q =>
  ha W B ad H0 H σ S _ fun v H1 S1 e1 d1 => hb W B ad H0 H1 σ S1 _ fun w H2 S2 e2 d2 => by
    cases d1; cases d2
    have e : decide (V.int i = V.int j) = decide (i = j) := by simp
    exact ⟨rfl, by rw [e]; exact q _ H2 S2 (e1.trans e2) (.bl _)⟩
theorem ev_eqS {i j : Str} (ha : EvG K ta G s (.str i) s1) (hb : EvG K tb G s1 (.str j) s2) : EvG K (tOp rEq ta tb) G s (.bool (decide (i = j))) s2 := fun W B ad H0 H σ S Q q =>
  ha W B ad H0 H σ S _ fun v H1 S1 e1 d1 => hb W B ad H0 H1 σ S1 _ fun w H2 S2 e2 d2 => by
    cases d1; cases d2
    have e : decide (V.str i = V.str j) = decide (i = j) := by simp
    exact ⟨rfl, by rw [e]; exact q _ H2 S2 (e1.trans e2) (.bl _)⟩
theorem ev_eqB {i j : Bool} (ha : EvG K ta G s (.bool i) s1) (hb : EvG K tb G s1 (.bool j) s2) : EvG K (tOp rEq ta tb) G s (.bool (decide (i = j))) s2 := fun W B ad H0 H σ S Q q =>
  ha W B ad H0 H σ S _ fun v H1 S1 e1 d1 => hb W B ad H0 H1 σ S1 _ fun w H2 S2 e2 d2 => by
    cases d1; cases d2
    have e : decide (V.bl i = V.bl j) = decide (i = j) := by simp
    exact ⟨rfl, by rw [e]; exact q _ H2 S2 (e1.trans e2) (.bl _)⟩
theorem ev_neB {i j : Bool} (ha : EvG K ta G s (.bool i) s1) (hb : EvG K tb G s1 (.bool j) s2) : EvG K (tOp rNe ta tb) G s (.bool (!decide (i = j))) s2 := fun W B ad H0 H σ S Q q =>
  ha W B ad H0 H σ S _ fun v H1 S1 e1 d1 => hb W B ad H0 H1 σ S1 _ fun w H2 S2 e2 d2 => by
    cases d1; cases d2
    have e : decide (V.bl i = V.bl j) = decide (i = j) := by simp
    exact ⟨rfl, by rw [e]; exact q _ H2 S2 (e1.trans e2) (.bl _)⟩
theorem ev_neg {i : Int} (ha : EvG K ta G s (.int i) s') : EvG K (tUn (rU fun i => .int (-i)) ta) G s (.int (-i)) s' := fun W B ad H0 H σ S Q q =>
  ha W B ad H0 H σ S _ fun v H1 S1 e1 d1 => by
    cases d1
    exact ⟨i, rfl, q _ H1 S1 e1 (.int _)⟩
noncomputable def isNoneD : PyData → Bool
  | .none => true
  | _ => false
theorem dp_none {K : Fg} {H : Hp} {v : V} {x : PyData} (h : Dp K H v x) : decide (v = V.non) = isNoneD x := by
  cases h <;> simp [isNoneD]
theorem ev_isN (ha : EvG K ta G s x s') : EvG K (tOp (fun x y H Q => y = .non ∧ Q (.bl (decide (x = .non))) H) ta (tC .non)) G s (.bool (isNoneD x)) s' := fun W B ad H0 H σ S Q q =>
  ha W B ad H0 H σ S _ fun v H1 S1 e1 d1 => ⟨rfl, by rw [dp_none d1]; exact q _ H1 S1 e1 (.bl _)⟩
/-! ### items -/
theorem dpa_atI {K : Fg} {H : Hp} {ds : List PyData} {vs : List V} {i : Int} {d : PyData} (h : DpAll K H vs ds) (e : atI ds i = some d) : ∃ v, atI vs i = some v ∧ Dp K H v d := by
  unfold atI at e ⊢
  rw [dpa_len h]
  cases q : ixN ds.length i with
  | none => rw [q] at e; cases e
  | some j =>
    rw [q] at e
    exact dpa_get h e
theorem ev_ixT {xs : List PyData} {i : Int} (ha : EvG K ta G s (.tuple xs) s1) (hb : EvG K tb G s1 (.int i) s2) (he : atI xs i = some x) : EvG K (tOp (rIx K) ta tb) G s x s2 := fun W B ad H0 H σ S Q q =>
  ha W B ad H0 H σ S _ fun v H1 S1 e1 d1 => hb W B ad H0 H1 σ S1 _ fun w H2 S2 e2 d2 => by
    cases d2
    cases dp_mono e2.l d1 with
    | tup h t =>
      obtain ⟨v, g1, g2⟩ := dpa_atI t he
      exact .inr (.inl ⟨_, _, i, v, rfl, rfl, ex_t less_ex h, g1, q _ H2 S2 (e1.trans e2) g2⟩)
theorem ev_ixL {xs : List PyData} {i : Int} (ha : EvG K ta G s (.list xs) s1) (hb : EvG K tb G s1 (.int i) s2) (he : atI xs i = some x) : EvG K (tOp (rIx K) ta tb) G s x s2 := fun W B ad H0 H σ S Q q =>
  ha W B ad H0 H σ S _ fun v H1 S1 e1 d1 => hb W B ad H0 H1 σ S1 _ fun w H2 S2 e2 d2 => by
    cases d2
    cases dp_mono e2.l d1 with
    | lst h t =>
      obtain ⟨v, g1, g2⟩ := dpa_atI t he
      exact .inl ⟨_, _, i, v, rfl, rfl, ex_l less_ex h, g1, q _ H2 S2 (e1.trans e2) g2⟩
/-! ### tests -/
theorem et_test {b : Bool} (h : EvG K te G s (.bool b) s') : EvT K (tTest te) G s b s' := fun W B ad H0 H σ S Q q => h W B ad H0 H σ S _ fun v H1 S1 e1 d1 => by
  cases d1
  exact ⟨b, rfl, q H1 S1 e1⟩
theorem et_B {b : Bool} (h : EvG K te G s (.bool b) s') : EvT K (tB te) G s b s' := fun W B ad H0 H σ S Q q => h W B ad H0 H σ S _ fun v H1 S1 e1 d1 => by
  cases d1
  exact ⟨b, rfl, q H1 S1 e1⟩
theorem et_not {b : Bool} (h : EvT K t G s b s') : EvT K (tNot t) G s (!b) s' := fun W B ad H0 H σ S Q q => h W B ad H0 H σ S _ q
theorem et_orF {b : Bool} (h : EvT K t G s false s1) (h2 : EvT K u G s1 b s2) : EvT K (tOr t u) G s b s2 := fun W B ad H0 H σ S Q q => h W B ad H0 H σ S _ fun H1 S1 e1 => iteF (h2 W B ad H0 H1 σ S1 _ fun H2 S2 e2 => q H2 S2 (e1.trans e2))
theorem ev_andT (h : EvG K ta G s (.bool true) s1) (h2 : EvG K tb G s1 x s2) : EvG K (tAndV ta tb) G s x s2 := fun W B ad H0 H σ S Q q => h W B ad H0 H σ S _ fun v H1 S1 e1 d1 => by
  cases d1
  exact ⟨true, rfl, iteT (h2 W B ad H0 H1 σ S1 _ fun v H2 S2 e2 d2 => q v H2 S2 (e1.trans e2) d2)⟩
theorem ev_not {a : Bool} (h : EvG K ta G s (.bool a) s') : EvG K (tNotV ta) G s (.bool (!a)) s' := fun W B ad H0 H σ S Q q => h W B ad H0 H σ S _ fun v H1 S1 e1 d1 => by
  cases d1
  exact ⟨a, rfl, q _ H1 S1 e1 (.bl _)⟩
theorem ev_ifT (h : EvT K t G s true s1) (h1 : EvG K ta G s1 x s2) : EvG K (tIf t ta tb) G s x s2 := fun W B ad H0 H σ S Q q => h W B ad H0 H σ S _ fun H1 S1 e1 => iteT (h1 W B ad H0 H1 σ S1 _ fun v H2 S2 e2 d2 => q v H2 S2 (e1.trans e2) d2)
theorem ev_ifF (h : EvT K t G s false s1) (h1 : EvG K tb G s1 x s2) : EvG K (tIf t ta tb) G s x s2 := fun W B ad H0 H σ S Q q => h W B ad H0 H σ S _ fun H1 S1 e1 => iteF (h1 W B ad H0 H1 σ S1 _ fun v H2 S2 e2 d2 => q v H2 S2 (e1.trans e2) d2)
/-! ### what a def promises: of data; of the bag and data -/
noncomputable def spP (K : Fg) (P : List PyData → PyData → Prop) : Sp := fun vs H Q _ => ∃ (W : Addr → Prop) (ds : List PyData) (r : PyData), (∀ a, W a → ∃ o, H a = some o) ∧ DpAll K (less H W) vs ds ∧ P ds r ∧ ∀ v H', Ex H H' → Dp K (less H' W) v r → Q v H'
noncomputable def spB (K : Fg) (P : Bag → List PyData → PyData → Bag → Prop) : Sp := fun vs H Q _ => ∃ (W : Addr → Prop) (b c : Addr) (us : List V) (s : Bag) (ds : List PyData) (r : PyData) (s' : Bag), (∀ a, W a → ∃ o, H a = some o) ∧ vs = .ref b :: us ∧ BagAt H (some (b, c)) s ∧
  DpAll K (less H fun a => W a ∨ InB (some (b, c)) a) us ds ∧ P s ds r s' ∧ ∀ v H', (∀ a o, H a = some o → ¬ InB (some (b, c)) a → H' a = some o) → BagAt H' (some (b, c)) s' → Dp K (less H' fun a => W a ∨ InB (some (b, c)) a) v r → Q v H'
theorem bag_there {H : Hp} {B : Option (Addr × Addr)} {a : Addr} (h : BagAt H B s) (z : InB B a) : ∃ o, H a = some o := by
  obtain ⟨b, c, rfl, z⟩ := z
  rcases z with rfl | rfl
  · exact ⟨_, h.1⟩
  · exact ⟨_, h.2.1⟩
theorem Sta.there {W : Addr → Prop} {B : Option (Addr × Addr)} {ad : Nat → Addr} {H0 H : Hp} {σ : St} (S : Sta K W B ad H0 H σ G s) (a : Addr) (z : Zs W B ad G a) : ∃ o, H a = some o := by
  by_cases hb : InB B a
  · exact bag_there S.bag hb
  rcases z with z | ⟨i, xs, g, rfl⟩ | z
  · exact S.wd _ z
  · obtain ⟨_, _, _, vs, h1, _⟩ := S.at_ i _ g
    exact ⟨_, h1⟩
  · exact absurd z hb
theorem ev_call {P : List PyData → PyData → Prop} {ta : TA} {ds : List PyData} {dvs : List V} {des : List PyData} {E : XK} (h : EvA K ta G s ds s') (hd : ∀ H, DpAll K H dvs des) (hp : P (ds ++ des) x) : EvG K (tCall (spP K P) dvs E ta) G s x s' := fun W B ad H0 H σ S Q q =>
  h W B ad H0 H σ S _ fun vs H1 S1 e1 d1 => ⟨Zs W B ad G, ds ++ des, x, S1.there, dpa_app d1 (hd _), hp, fun v H' e d => q v H' (S1.ext e) (e1.trans (.of e)) d⟩
theorem ev_callB {P : Bag → List PyData → PyData → Bag → Prop} {tr : TA} {i : Nat} {ds : List PyData} {E : XK} (hi : G[i]? = some .bag) (h : EvA K tr G s ds s1) (hp : P s1 ds x s') : EvG K (tCall (spB K P) [] E (tCons (tVar i) tr)) G s x s' := fun W B ad H0 H σ S Q q => by
  obtain ⟨o, g1, b, c, rfl, rfl⟩ := S.at_ i _ hi
  refine ⟨_, g1, h W _ ad H0 H σ S _ fun vs H1 S1 e1 d1 => ?_⟩
  have zz : ∀ a, (((fun a => W a ∨ ∃ i xs, G[i]? = some (En.own xs) ∧ a = ad i) a) ∨ InB (some (b, c)) a) ↔ Zs W (some (b, c)) ad G a := fun a => or_assoc
  have zl : ∀ H : Hp, (less H fun a => (W a ∨ ∃ i xs, G[i]? = some (En.own xs) ∧ a = ad i) ∨ InB (some (b, c)) a) = less H (Zs W (some (b, c)) ad G) := fun H => congrArg (less H) (funext fun a => propext (zz a))
  refine ⟨fun a => W a ∨ ∃ i xs, G[i]? = some (En.own xs) ∧ a = ad i, b, c, vs, s1, ds, x, s', fun a z => S1.there a ((zz a).mp (.inl z)), ?_, S1.bag, ?_, hp, fun v H' e hb d => ?_⟩
  · rw [List.append_nil]
  · rw [zl]; exact d1
  · rw [zl] at d
    exact q v H' (S1.drawn e hb) (e1.trans e) d
end
end U

end
section
namespace U
open PySem L2 Evl
/-! ### built-ins, by name -/
noncomputable def rAbs : List V → Hp → VK → Prop := fun xs H Q => ∃ i, xs = [.int i] ∧ Q (.int (if i < 0 then -i else i)) H
noncomputable def rMx : List V → Hp → VK → Prop := fun xs H Q => ∃ i j, xs = [.int i, .int j] ∧ Q (.int (if j > i then j else i)) H
noncomputable def rMn : List V → Hp → VK → Prop := fun xs H Q => ∃ i j, xs = [.int i, .int j] ∧ Q (.int (if j < i then j else i)) H
noncomputable def rInt1 : List V → Hp → VK → Prop := fun xs H Q => (∃ i, xs = [.int i] ∧ Q (.int i) H) ∨ ∃ k, xs = [.bl k] ∧ Q (.int (if k then 1 else 0)) H
noncomputable def rLenQ (K : Fg) : List V → Hp → VK → Prop := fun xs H Q => ∃ p ys, xs = [.ref p] ∧ (SqL K H p ys ∨ SqT K H p ys) ∧ Q (.int ys.length) H
noncomputable def rListQ (K : Fg) : List V → Hp → VK → Prop := fun xs H Q => ∃ p ys, xs = [.ref p] ∧ (SqL K H p ys ∨ SqT K H p ys) ∧ ∀ l, H l = none → Q (.ref l) (upd H l (.lst ys))
noncomputable def rTupQ (K : Fg) : List V → Hp → VK → Prop := fun xs H Q => ∃ p ys, xs = [.ref p] ∧ ((SqL K H p ys ∧ ∀ l, H l = none → Q (.ref l) (upd H l (.tup ys))) ∨ (SqT K H p ys ∧ Q (.ref p) H))
noncomputable def rIsNo : R2 := fun x y H Q => y = .non ∧ Q (.bl (decide (x = .non))) H
noncomputable def rNoNo : R2 := fun x y H Q => y = .non ∧ Q (.bl (!decide (x = .non))) H
section
variable {X : Cx}
theorem c_abs : CallR X (.builtin "abs") rAbs := call_abs
theorem c_max2 (hc : X.calm = true) : CallR X (.builtin "max") rMx := call_max2 hc
theorem c_min2 (hc : X.calm = true) : CallR X (.builtin "min") rMn := call_min2 hc
theorem c_int1 : CallR X (.type "int") rInt1 := call_int1
theorem c_len : CallR X (.builtin "len") (rLenQ X.K) := call_len_seq
theorem c_list : CallR X (.type "list") (rListQ X.K) := call_list_of
theorem c_tuple : CallR X (.type "tuple") (rTupQ X.K) := call_tuple_of
theorem o_isN : OpR X (compareOp .Is) rIsNo := op_isN
theorem o_notN : OpR X (compareOp .IsNot) rNoNo := op_notN
end
section
variable {K : Fg} {G G1 G2 : Gam} {s s1 s2 s3 s' : Bag} {ta tb tc te : TE} {t u : TT} {x y z : PyData}
theorem ev_isNo (ha : EvG K ta G s x s') : EvG K (tOp rIsNo ta (tC .non)) G s (.bool (isNoneD x)) s' := ev_isN ha
/-- a call of a built-in upon data -/
theorem ev_cb {r : List V → Hp → VK → Prop} {ta : TA} {xs : List PyData} (h : EvA K ta G s xs s')
    (hr : ∀ W B ad H0 H σ vs, Sta K W B ad H0 H σ G s' → DpAll K (less H (Zs W B ad G)) vs xs → ∀ Q : VK, (∀ v H2, Sta K W B ad H0 H2 σ G s' → Xb B H H2 → Dp K (less H2 (Zs W B ad G)) v x → Q v H2) → r vs H Q) : EvG K (tCB r ta) G s x s' := fun W B ad H0 H σ S Q q =>
  h W B ad H0 H σ S _ fun vs H1 S1 e1 d1 => hr W B ad H0 H1 σ vs S1 d1 Q fun v H2 S2 e2 d2 => q v H2 S2 (e1.trans e2) d2
theorem dp1 {H : Hp} {vs : List V} {x : PyData} (h : DpAll K H vs [x]) : ∃ v, vs = [v] ∧ Dp K H v x := by
  cases h with
  | cons a b => cases b; exact ⟨_, rfl, a⟩
theorem dp2 {H : Hp} {vs : List V} {x y : PyData} (h : DpAll K H vs [x, y]) : ∃ v w, vs = [v, w] ∧ Dp K H v x ∧ Dp K H w y := by
  cases h with
  | cons a b => obtain ⟨w, rfl, c⟩ := dp1 b; exact ⟨_, w, rfl, a, c⟩
noncomputable def absI (i : Int) : Int := if i < 0 then -i else i
noncomputable def maxI (i j : Int) : Int := if j > i then j else i
noncomputable def minI (i j : Int) : Int := if j < i then j else i
theorem ev_abs {i : Int} (h : EvG K ta G s (.int i) s') : EvG K (tCB rAbs (tCons ta tNil)) G s (.int (absI i)) s' := ev_cb (ea_cons h ea_nil) fun W B ad H0 H σ vs S d Q q => by
  obtain ⟨v, rfl, d1⟩ := dp1 d
  cases d1
  exact ⟨i, rfl, q _ H S (Xb.refl) (.int _)⟩
theorem ev_max {i j : Int} (h : EvG K ta G s (.int i) s1) (h2 : EvG K tb G s1 (.int j) s') : EvG K (tCB rMx (tCons ta (tCons tb tNil))) G s (.int (maxI i j)) s' := ev_cb (ea_cons h (ea_cons h2 ea_nil)) fun W B ad H0 H σ vs S d Q q => by
  obtain ⟨v, w, rfl, d, d2⟩ := dp2 d
  cases d; cases d2
  exact ⟨i, j, rfl, q _ H S (Xb.refl) (.int _)⟩
theorem ev_lenT {xs : List PyData} (h : EvG K ta G s (.tuple xs) s') : EvG K (tCB (rLenQ K) (tCons ta tNil)) G s (.int xs.length) s' := ev_cb (ea_cons h ea_nil) fun W B ad H0 H σ vs S d Q q => by
  obtain ⟨v, rfl, d1⟩ := dp1 d
  cases d1 with
  | tup g t => exact ⟨_, _, rfl, .inr (ex_t less_ex g), by rw [dpa_len t]; exact q _ H S (Xb.refl) (.int _)⟩
theorem ev_lenL {xs : List PyData} (h : EvG K ta G s (.list xs) s') : EvG K (tCB (rLenQ K) (tCons ta tNil)) G s (.int xs.length) s' := ev_cb (ea_cons h ea_nil) fun W B ad H0 H σ vs S d Q q => by
  obtain ⟨v, rfl, d1⟩ := dp1 d
  cases d1 with
  | lst g t => exact ⟨_, _, rfl, .inl (ex_l less_ex g), by rw [dpa_len t]; exact q _ H S (Xb.refl) (.int _)⟩
theorem new_tup {W : Addr → Prop} {B : Option (Addr × Addr)} {ad : Nat → Addr} {H0 H : Hp} {σ : St} {vs : List V} {xs : List PyData} (S : Sta K W B ad H0 H σ G s) (d : DpAll K (less H (Zs W B ad G)) vs xs) {l : Addr} (hl : H l = none) {Q : VK}
    (q : ∀ v H2, Sta K W B ad H0 H2 σ G s → Xb B H H2 → Dp K (less H2 (Zs W B ad G)) v (.tuple xs) → Q v H2) : Q (.ref l) (upd H l (.tup vs)) := by
  obtain ⟨S2, e2, g⟩ := new_ex (o := .tup vs) S hl
  exact q _ _ S2 e2 (.tup (st_of g) (dpa_mono e2.l d))
theorem ev_tupL {xs : List PyData} (h : EvG K ta G s (.list xs) s') : EvG K (tCB (rTupQ K) (tCons ta tNil)) G s (.tuple xs) s' := ev_cb (ea_cons h ea_nil) fun W B ad H0 H σ vs S d Q q => by
  obtain ⟨v, rfl, d1⟩ := dp1 d
  cases d1 with
  | lst g t => exact ⟨_, _, rfl, .inl ⟨ex_l less_ex g, fun l hl => new_tup S t hl q⟩⟩
theorem dpa_bools {H : Hp} : ∀ {bs : List Bool} {vs : List V}, DpAll K H vs (bs.map PyData.bool) → vs = bs.map V.bl
  | [], _, .nil => rfl
  | b :: r, _, .cons h t => by cases h; rw [dpa_bools t]; rfl
theorem dpa_ints {H : Hp} : ∀ {bs : List Int} {vs : List V}, DpAll K H vs (bs.map PyData.int) → vs = bs.map V.int
  | [], _, .nil => rfl
  | b :: r, _, .cons h t => by cases h; rw [dpa_ints t]; rfl
theorem dpa_of_ints {H : Hp} : ∀ (bs : List Int), DpAll K H (bs.map V.int) (bs.map PyData.int)
  | [] => .nil
  | b :: r => .cons (.int b) (dpa_of_ints r)
theorem ev_all {bs : List Bool} (h : EvG K ta G s (.list (bs.map PyData.bool)) s') : EvG K (tCB (rAll K) (tCons ta tNil)) G s (.bool (bs.all id)) s' := ev_cb (ea_cons h ea_nil) fun W B ad H0 H σ vs S d Q q => by
  obtain ⟨v, rfl, d1⟩ := dp1 d
  cases d1 with
  | lst g t =>
    have e := dpa_bools t
    subst e
    exact ⟨_, bs, rfl, ex_l less_ex g, q _ H S (Xb.refl) (.bl _)⟩
/-! ### isinstance -/
noncomputable def tyN : PyData → String
  | .none => "NoneType"
  | .bool _ => "bool"
  | .int _ => "int"
  | .str _ => "str"
  | .list _ => "list"
  | .tuple _ => "tuple"
  | .dict _ => "dict"
theorem dp_ty {H : Hp} {Z : Addr → Prop} {v : V} {x : PyData} (h : Dp K (less H Z) v x) : TyX K H v (.type (tyN x)) := qt_of (by simp (disch := with_unfolding_all
  cases h with
  | non => exact .base .non
  | bl b => exact .base (.bl b)
  | int i => exact .base (.int i)
  | str i => exact .base (.str i)
  | lst g _ =>
    rcases ex_l less_ex g with (g | ⟨o, g⟩) | ⟨o, its, n, k, c, _⟩
    · exact .base (.lst g)
    · exact .base (.frz g)
    · exact .kList k c
  | tup g _ =>
    rcases ex_t less_ex g with (g | ⟨o, g⟩) | ⟨o, its, n, k, c, _⟩
    · exact .base (.tup g)
    · exact .fTuple g
    · exact .kTuple k c
  ) only [↓qt_eq])
/-- isinstance(x, T), T a built-in class -/
theorem ev_isi {n : String} {b : Bool} (h : EvG K ta G s x s') (hb : kitB (tyN x) n = some b) : EvG K (tCB (rIsi K) (tCons ta (tCons (tC (.ty n)) tNil))) G s (.bool b) s' := fun W B ad H0 H σ S Q q =>
  h W B ad H0 H σ S _ fun v H1 S1 e1 d1 => ⟨v, .ty n, _, _, b, rfl, .ty n, dp_ty d1, kit_ty hb, q _ H1 S1 e1 (.bl _)⟩
/-- isinstance(x, (S, T)) -/
theorem ev_isi2 {n m : String} {b c : Bool} (h : EvG K ta G s x s') (hb : kitB (tyN x) n = some b) (hc : kitB (tyN x) m = some c) : EvG K (tCB (rIsiT K) (tCons ta (tCons (tTup (tCons (tC (.ty n)) (tCons (tC (.ty m)) tNil))) tNil))) G s (.bool (b || c)) s' := fun W B ad H0 H σ S Q q =>
  h W B ad H0 H σ S _ fun v H1 S1 e1 d1 => ⟨by show 2 ≤ sizeLine; decide, fun p hp => by
    obtain ⟨S2, e2, g⟩ := new_ex (o := .tup [V.ty n, V.ty m]) S1 hp
    refine ⟨v, p, [.ty n, .ty m], _, [.type n, .type m], b || c, rfl, (less_some g).2, .cons (.ty n) (.cons (.ty m) .nil), dp_ty (dp_mono e2.l d1), kitAny_cons (kit_ty hb) (fun e => kitAny_cons (kit_ty hc) (fun e2 => ?_) fun e2 => ?_) (fun e => ?_), q _ _ S2 (e1.trans e2) (.bl _)⟩
    · rw [e, e2]; rfl
    · rw [e, e2]; rfl
    · rw [e]; rfl⟩
/-! ### slices -/
noncomputable def cutD (xs : List PyData) (lo hi : Option Int) : List PyData := (xs.drop (HT.sIx xs.length 0 lo)).take (HT.sIx xs.length xs.length hi - HT.sIx xs.length 0 lo)
theorem dpa_drop {H : Hp} : ∀ (n : Nat) {ds : List PyData} {vs : List V}, DpAll K H vs ds → DpAll K H (vs.drop n) (ds.drop n)
  | 0, _, _, h => h
  | n + 1, _, _, .nil => .nil
  | n + 1, _, _, .cons _ t => dpa_drop n t
theorem dpa_take {H : Hp} : ∀ (n : Nat) {ds : List PyData} {vs : List V}, DpAll K H vs ds → DpAll K H (vs.take n) (ds.take n)
  | 0, _, _, _ => .nil
  | n + 1, _, _, .nil => .nil
  | n + 1, _, _, .cons h t => .cons h (dpa_take n t)
theorem dpa_cut {H : Hp} {ds : List PyData} {vs : List V} (h : DpAll K H vs ds) (lo hi : Option Int) : DpAll K H (cutV vs lo hi) (cutD ds lo hi) := by
  unfold cutV cutD
  rw [dpa_len h]
  exact dpa_take _ (dpa_drop _ h)
end
end U

end
section
namespace U
open PySem L2 Evl
section
variable {K : Fg} {G G1 G2 : Gam} {s s1 s2 s3 s' : Bag} {ta tb tc te : TE} {t u : TT} {x y z : PyData} {tu tw tz : TS} {o : Out}
theorem Post.mono {W : Addr → Prop} {B : Option (Addr × Addr)} {H0 M M' : Hp} {D : Ends} (e : Ex M M') (h : Post K W B H0 M D o) : Post K W B H0 M' D o := qt_of (by simp (disch := with_unfolding_all
  cases o with
  | nx G s => exact fun ad H σ S x => h ad H σ S (e.trans x)
  | rt x s => exact h
  | bk G s => exact fun ad H σ S x => h ad H σ S (e.trans x)
  | ct G s => exact fun ad H σ S x => h ad H σ S (e.trans x)
  ) only [↓qt_eq])
theorem sg_seq (h : SG K tu G s (.nx G1 s1)) (k : SG K tz G1 s1 o) : SG K (tSeq tu tz) G s o := fun W B ad H0 H σ D S p =>
  h W B ad H0 H σ { D with nx := tz D } S fun ad' H' σ' S' e => k W B ad' H0 H' σ' D S' (p.mono e)
theorem sg_seqR (h : SG K tu G s (.rt x s1)) : SG K (tSeq tu tz) G s (.rt x s1) := fun W B ad H0 H σ D S p => h W B ad H0 H σ { D with nx := tz D } S p
theorem sg_next : SG K tNext G s (.nx G s) := fun W B ad H0 H σ D S p => p ad H σ S (Ex.refl _)
theorem sg_asg {i : Nat} (h : EvG K te G s x s1) : SG K (tAsg te (gName i)) G s (.nx (G.set i (.d x)) s1) := fun W B ad H0 H σ D S p =>
  h W B ad H0 H σ S _ fun v H1 S1 e1 d1 => p ad H1 _ (S1.setD d1) (e1.l.trans (less_sub fun a q => Zs.set_of (fun _ z => by cases z) q))
theorem sg_ret (h : EvG K te G s x s1) : SG K (tRet te) G s (.rt x s1) := fun W B ad H0 H σ D S p =>
  h W B ad H0 H σ S _ fun v H1 S1 e1 d1 => p v H1 S1.base S1.bag (dp_mono (less_sub fun a q => q.elim .inl fun z => .inr (.inr z)) d1)
/-- if c: return .. else on -/
theorem sg_when {b : Bool} (h : EvT K t G s b s1) (k1 : b = true → SG K (tSeq tu tz) G s1 o) (k2 : b = false → SG K tz G s1 o) : SG K (tSeq (tIfS t tu tNext) tz) G s o := fun W B ad H0 H σ D S p =>
  h W B ad H0 H σ S _ fun H1 S1 e1 => by
    cases b with
    | true => exact iteT (k1 rfl W B ad H0 H1 σ D S1 (p.mono e1.l))
    | false => exact iteF (k2 rfl W B ad H0 H1 σ D S1 (p.mono e1.l))
/-- x, y = a, b -/
theorem sg_par {i j : Nat} {ta : TA} (h : EvA K ta G s [x, y] s1) : SG K (tPar i j ta) G s (.nx ((G.set i (.d x)).set j (.d y)) s1) := fun W B ad H0 H σ D S p =>
  h W B ad H0 H σ S _ fun vs H1 S1 e1 d1 => by
    obtain ⟨v, w, rfl, d, d2⟩ := dp2 d1
    have e2 : Ex (less H1 (Zs W B ad G)) (less H1 (Zs W B ad (G.set i (.d x)))) := less_sub fun a q => Zs.set_of (fun _ z => by cases z) q
    have S2 := S1.setD (i := i) d
    exact ⟨v, w, rfl, p ad H1 _ (S2.setD (i := j) (dp_mono e2 d2)) (e1.l.trans (e2.trans (less_sub fun a q => Zs.set_of (fun _ z => by cases z) q)))⟩
/-! ### targets that are tuples of names -/
/-! ### lists of one's own -/
/-- what is no longer needed is forgotten -/
inductive Wk : Gam → Gam → Prop
  | nil : Wk [] []
  | cons {e : En} {G G' : Gam} : Wk G G' → Wk (e :: G) (e :: G')
  | drop {e : En} {G G' : Gam} : Wk G G' → Wk (e :: G) (.un :: G')
theorem Wk.refl : ∀ G : Gam, Wk G G
  | [] => .nil
  | _ :: G => .cons (Wk.refl G)
theorem Wk.length : ∀ {G G' : Gam}, Wk G G' → G.length = G'.length
  | _, _, .nil => rfl
  | _, _, .cons h => congrArg (· + 1) h.length
  | _, _, .drop h => congrArg (· + 1) h.length
theorem Wk.get : ∀ {G G' : Gam} {i : Nat} {e : En}, Wk G G' → G'[i]? = some e → G[i]? = some e ∨ e = .un
  | _, _, _, _, .nil, h => by simp at h
  | _, _, 0, _, .cons _, h => .inl h
  | _, _, 0, _, .drop _, h => .inr (Option.some.inj h).symm
  | _, _, i + 1, _, .cons w, h => Wk.get (i := i) w h
  | _, _, i + 1, _, .drop w, h => Wk.get (i := i) w h
theorem Wk.own {G G' : Gam} {i : Nat} {xs : List PyData} (w : Wk G G') (h : G'[i]? = some (.own xs)) : G[i]? = some (.own xs) := (w.get h).resolve_right fun z => by cases z
theorem Wk.ex {W : Addr → Prop} {B : Option (Addr × Addr)} {ad : Nat → Addr} {H : Hp} {G G' : Gam} (w : Wk G G') : Ex (less H (Zs W B ad G)) (less H (Zs W B ad G')) := less_sub fun a q => by
  rcases q with q | ⟨i, xs, g, r⟩ | q
  · exact .inl q
  · exact .inr (.inl ⟨i, xs, w.own g, r⟩)
  · exact .inr (.inr q)
theorem Sta.wk {W : Addr → Prop} {B : Option (Addr × Addr)} {ad : Nat → Addr} {H0 H : Hp} {σ : St} {G G' : Gam} (w : Wk G G') (S : Sta K W B ad H0 H σ G s) : Sta K W B ad H0 H σ G' s where
  len := S.len.trans w.length
  at_ := fun i e h => by
    rcases w.get h with g | rfl
    · obtain ⟨o, g1, g2⟩ := S.at_ i e g
      exact ⟨o, g1, g2.mono w.ex fun _ _ _ q => q⟩
    · have il : i < σ.length := by rw [S.len, w.length]; exact (List.getElem?_eq_some_iff.mp h).1
      exact ⟨σ[i], List.getElem?_eq_getElem il, trivial⟩
  inj := fun i j xs ys g g' q => S.inj i j xs ys (w.own g) (w.own g') q
  sep := fun i xs g => S.sep i xs (w.own g)
  base := S.base
  bag := S.bag
  wd := S.wd
theorem sg_wk (h : SG K tu G s (.nx G1 s1)) (w : Wk G1 G2) : SG K tu G s (.nx G2 s1) := fun W B ad H0 H σ D S p =>
  h W B ad H0 H σ D S fun ad' H' σ' S' e => p ad' H' σ' (S'.wk w) (e.trans w.ex)
theorem sg_is {o'} (h : SG K tu G s o) (e : o = o') : SG K tu G s o' := e ▸ h
/-! ### loops -/
/-- what a turn of a loop may end with: going on -/
noncomputable def Turn (K : Fg) (tb : TS) (G : Gam) (s : Bag) (G' : Gam) (s' : Bag) : Prop := SG K tb G s (.nx G' s') ∨ SG K tb G s (.ct G' s')
theorem Turn.run {tb : TS} {G' : Gam} (h : Turn K tb G s G' s') {W : Addr → Prop} {B : Option (Addr × Addr)} {ad : Nat → Addr} {H0 H : Hp} {σ : St} {D : Ends} {N : St → Hp → Prop} (S : Sta K W B ad H0 H σ G s) (hn : D.nx = N) (hc : D.ct = N)
    (q : ∀ ad' H' σ', Sta K W B ad' H0 H' σ' G' s' → Ex (less H (Zs W B ad G)) (less H' (Zs W B ad' G')) → N σ' H') : tb D σ H := by
  rcases h with h | h
  · exact h W B ad H0 H σ D S fun ad' H' σ' S' e => by rw [hn]; exact q ad' H' σ' S' e
  · exact h W B ad H0 H σ D S fun ad' H' σ' S' e => by rw [hc]; exact q ad' H' σ' S' e
/-- while, by its states one behind the other -/
theorem sg_while {tb : TS} (GG : Nat → Gam) (SS TS' : Nat → Bag) (n : Nat) (w0 : Wk G (GG 0)) (h0 : SS 0 = s) (ht : ∀ i, i < n → EvT K t (GG i) (SS i) true (TS' i)) (hs : ∀ i, i < n → Turn K tb (GG i) (TS' i) (GG (i + 1)) (SS (i + 1)))
    (he : EvT K t (GG n) (SS n) false s') : SG K (tWhile t tb) G s (.nx (GG n) s') := fun W B ad H0 H σ D S p => by
  refine ⟨fun m σ' H' => ∃ i ad', m = n - i ∧ i ≤ n ∧ Sta K W B ad' H0 H' σ' (GG i) (SS i) ∧ Ex (less H (Zs W B ad G)) (less H' (Zs W B ad' (GG i))), ⟨n, 0, ad, rfl, Nat.zero_le _, by rw [h0]; exact S.wk w0, w0.ex⟩, ?_⟩
  rintro m σ' H' ⟨i, ad', rfl, hi, S', e'⟩
  by_cases hlt : i < n
  · refine ht i hlt W B ad' H0 H' σ' S' _ fun H2 S2 e2 => iteT ⟨fun σ3 H3 => ∃ ad3, Sta K W B ad3 H0 H3 σ3 (GG (i + 1)) (SS (i + 1)) ∧ Ex (less H (Zs W B ad G)) (less H3 (Zs W B ad3 (GG (i + 1)))), ?_, ?_⟩
    · rintro σ3 H3 ⟨ad3, S3, e3⟩
      exact ⟨n - (i + 1), by omega, i + 1, ad3, rfl, hlt, S3, e3⟩
    · exact (hs i hlt).run S2 rfl rfl fun ad3 H3 σ3 S3 e3 => ⟨ad3, S3, (e'.trans e2.l).trans e3⟩
  · have en : i = n := by omega
    subst en
    exact he W B ad' H0 H' σ' S' _ fun H2 S2 e2 => iteF (p ad' H2 σ' S2 (e'.trans e2.l))
end
end U

end
section
namespace U
open PySem L2 Evl
/-! ### what is walked, and into which names -/
noncomputable def ItOk (K : Fg) (J : It) (ds : List PyData) (M : Hp) : Prop := ∀ (H' : Hp) (Z : Addr → Prop), (∀ a, Z a → ∃ o, H' a = some o) → Ex M (less H' Z) → ∀ i,
  (∀ d, ds[i]? = some d → J.go i H') ∧ (ds.length ≤ i → J.stop i H') ∧ ∀ x H'', J.yld i H' x H'' → Ex H' H'' ∧ ∀ d, ds[i]? = some d → Dp K (less H'' Z) x d
noncomputable def Src (K : Fg) (wi : TI) (G : Gam) (s : Bag) (ds : List PyData) (s1 : Bag) : Prop :=
  ∀ W B ad H0 H σ, Sta K W B ad H0 H σ G s → ∀ R : It → Hp → Prop, (∀ J H1, Sta K W B ad H0 H1 σ G s1 → Xb B H H1 → ItOk K J ds (less H1 (Zs W B ad G)) → R J H1) → wi σ H R
noncomputable def Off (vs : List Nat) (G G' : Gam) : Prop := G.length = G'.length ∧ (∀ i, i ∉ vs → G'[i]? = G[i]?) ∧ ∀ i xs, i ∈ vs → G'[i]? ≠ some (.own xs)
noncomputable def Tgt (K : Fg) (g : TG) (vs : List Nat) (G : Gam) (x : PyData) (G' : Gam) : Prop := Off vs G G' ∧ ∀ W B ad H0 H σ s v, Sta K W B ad H0 H σ G s → Dp K (less H (Zs W B ad G)) v x → ∀ Q : St → Hp → Prop,
  (∀ σ', Sta K W B ad H0 H σ' G' s → Ex (less H (Zs W B ad G)) (less H (Zs W B ad G')) → wipe σ' vs = wipe σ vs → Q σ' H) → g v σ H Q
section
variable {K : Fg} {G G' G1 G2 : Gam} {s s1 s2 s3 s' : Bag} {ta tb tc te : TE} {t u : TT} {x y z : PyData} {tu tw tz : TS} {o : Out}
noncomputable def rngD (lo : Int) (n : Nat) : List PyData := (List.range n).map fun i : Nat => .int (lo + (i : Int))
theorem rngD_len (lo : Int) (n : Nat) : (rngD lo n).length = n := by simp [rngD]
theorem rngD_get {lo : Int} {n i : Nat} (h : i < n) : (rngD lo n)[i]? = some (.int (lo + (i : Int))) := by
  unfold rngD
  rw [List.getElem?_map, List.getElem?_range h]
  rfl
theorem it_rng {lo : Int} {n : Nat} {M : Hp} : ItOk K (Itr lo n) (rngD lo n) M := fun H' Z hz e i => by
  refine ⟨fun d hd => ?_, fun hl => ?_, fun x H'' hy => ?_⟩
  · have := (List.getElem?_eq_some_iff.mp hd).1
    rw [rngD_len] at this
    exact this
  · rw [rngD_len] at hl
    exact hl
  · obtain ⟨rfl, rfl⟩ := hy
    refine ⟨Ex.refl _, fun d hd => ?_⟩
    have hl := (List.getElem?_eq_some_iff.mp hd).1
    rw [rngD_len] at hl
    rw [rngD_get hl] at hd
    cases hd
    exact .int _
theorem src_rng1 {ta : TA} {n : Int} (h : EvA K ta G s [.int n] s1) (hn : -1000000 ≤ n ∧ n ≤ 1000000) : Src K (iRng1 ta) G s (rngD 0 n.toNat) s1 := fun W B ad H0 H σ S R q => h W B ad H0 H σ S _ fun vs H1 S1 e1 d1 => by
  obtain ⟨v, rfl, d⟩ := dp1 d1
  cases d
  exact ⟨n, rfl, by omega, by omega, q _ H1 S1 e1 it_rng⟩
/-! ### targets -/
theorem tgt_name {j : Nat} : Tgt K (gName j) [j] G x (G.set j (.d x)) := by
  refine ⟨⟨by rw [List.length_set], fun i hi => ?_, fun i xs hi h => ?_⟩, fun W B ad H0 H σ s v S d Q q => q _ (S.setD d) (less_sub fun a q => Zs.set_of (fun _ z => by cases z) q) ?_⟩
  · rw [List.getElem?_set_ne (fun z => hi (by rw [z]; exact List.mem_singleton.mpr rfl))]
  · rcases get_set h with ⟨rfl, l, e⟩ | ⟨z, g⟩
    · cases e
    · exact z (List.mem_singleton.mp hi).symm
  · show (List.set (List.set σ j (some v)) j none) = List.set σ j none
    rw [List.set_set]
theorem wipe_set : ∀ {vs : List Nat} {σ : St} {i : Nat} {o : Option V}, i ∈ vs → wipe (σ.set i o) vs = wipe σ vs
  | v :: vs, σ, i, o, h => by
    show (wipe (σ.set i o) vs).set v none = (wipe σ vs).set v none
    by_cases hv : i ∈ vs
    · rw [wipe_set hv]
    · have e : i = v := (List.mem_cons.mp h).resolve_right hv
      subst e
      have c : ∀ (vs : List Nat) (σ : St), i ∉ vs → wipe (σ.set i o) vs = (wipe σ vs).set i o := fun vs => by
        induction vs with
        | nil => exact fun _ _ => rfl
        | cons w vs ih =>
          intro σ hn
          show (wipe (σ.set i o) vs).set w none = ((wipe σ vs).set w none).set i o
          rw [ih σ (fun z => hn (List.mem_cons_of_mem _ z)), List.set_comm _ _ (fun z => hn (by rw [z]; exact List.mem_cons_self))]
      rw [c vs σ hv, List.set_set]
/-! ### for, over anything -/
/-! ### comprehensions -/
theorem wipe_get : ∀ {vs : List Nat} {σ : St} {i : Nat}, i ∉ vs → (wipe σ vs)[i]? = σ[i]?
  | [], _, _, _ => rfl
  | v :: vs, σ, i, h => by
    show ((wipe σ vs).set v none)[i]? = _
    rw [List.getElem?_set_ne (fun z => h (by rw [z]; exact List.mem_cons_self)), wipe_get (fun z => h (List.mem_cons_of_mem _ z))]
theorem wipe_wipe {vs : List Nat} {σ : St} : wipe (wipe σ vs) vs = wipe σ vs := qt_of (by simp (disch := with_unfolding_all
  have key : ∀ us : List Nat, (∀ i ∈ us, i ∈ vs) → wipe (wipe σ us) vs = wipe σ vs := fun us => by
    induction us with
    | nil => exact fun _ => rfl
    | cons u us ih =>
      intro h
      show wipe ((wipe σ us).set u none) vs = wipe σ vs
      rw [wipe_set (h u List.mem_cons_self), ih fun i hi => h i (List.mem_cons_of_mem _ hi)]
  exact key vs fun _ h => h
  ) only [↓qt_eq])
theorem Sta.slots {W : Addr → Prop} {B : Option (Addr × Addr)} {ad : Nat → Addr} {H0 H : Hp} {σ σ' : St} {vs : List Nat} (S : Sta K W B ad H0 H σ G s) (ho : Off vs G G') (hu : ∀ i e, i ∈ vs → G'[i]? = some e → e = .un) (hg : ∀ i xs, i ∈ vs → G[i]? ≠ some (.own xs)) (hw : wipe σ vs = wipe σ' vs) : Sta K W B ad H0 H σ' G' s := qt_of (by simp (disch := with_unfolding_all
  have hl : σ.length = σ'.length := by
    have := congrArg List.length hw
    rw [wipe_length, wipe_length] at this
    exact this
  have zz : ∀ a, Zs W B ad G' a ↔ Zs W B ad G a := fun a => by
    constructor
    · rintro (z | ⟨i, xs, g, r⟩ | z)
      · exact .inl z
      · by_cases hi : i ∈ vs
        · exact absurd (hu i _ hi g) (fun e => by cases e)
        · rw [ho.2.1 i hi] at g; exact .inr (.inl ⟨i, xs, g, r⟩)
      · exact .inr (.inr z)
    · rintro (z | ⟨i, xs, g, r⟩ | z)
      · exact .inl z
      · by_cases hi : i ∈ vs
        · exact absurd g (hg i xs hi)
        · exact .inr (.inl ⟨i, xs, by rw [ho.2.1 i hi]; exact g, r⟩)
      · exact .inr (.inr z)
  have zl : Zs W B ad G' = Zs W B ad G := funext fun a => propext (zz a)
  have own : ∀ (i : Nat) (xs : List PyData), G'[i]? = some (En.own xs) → G[i]? = some (En.own xs) := fun i xs g => by
    by_cases hi : i ∈ vs
    · exact absurd (hu i _ hi g) (fun e => by cases e)
    · rw [ho.2.1 i hi] at g; exact g
  refine ⟨hl ▸ (S.len.trans ho.1), fun i e g => ?_, fun i j xs ys g g' q => S.inj i j xs ys (own i xs g) (own j ys g') q, fun i xs g => S.sep i xs (own i xs g), S.base, S.bag, S.wd⟩
  by_cases hi : i ∈ vs
  · have e := hu i e hi g
    subst e
    have il : i < σ'.length := by rw [← hl, S.len, ho.1]; exact (List.getElem?_eq_some_iff.mp g).1
    exact ⟨σ'[i], List.getElem?_eq_getElem il, trivial⟩
  · rw [ho.2.1 i hi] at g
    obtain ⟨o, g1, g2⟩ := S.at_ i e g
    refine ⟨o, ?_, by rw [zl]; exact g2⟩
    rw [← wipe_get hi, ← hw, wipe_get hi]
    exact g1
  ) only [↓qt_eq])
theorem range_fm_succ (f : Nat → Option PyData) (i : Nat) : (List.range (i + 1)).filterMap f = (List.range i).filterMap f ++ (f i).toList := by
  rw [List.range_succ, List.filterMap_append]
  cases h : f i <;> simp [h]
/-- [elt for target in .. if ..]: f tells what each turn gives -/
theorem ev_lc {wi : TI} {g : TG} {vs : List Nat} {tt : TT} {ds : List PyData} (h : Src K wi G s ds s1) (f : Nat → Option PyData) (SS : Nat → Bag) (h0 : SS 0 = s1) (hu : ∀ i e, i ∈ vs → G[i]? = some e → e = .un) (hz : ds.length ≤ 16000000)
    (hs : ∀ i x, ds[i]? = some x → ∃ Gt s2, Tgt K g vs G x Gt ∧ EvT K tt Gt (SS i) (f i).isSome s2 ∧ (∀ y, f i = some y → EvG K te Gt s2 y (SS (i + 1))) ∧ (f i = none → s2 = SS (i + 1))) :
    EvG K (tLc wi g tt te vs) G s (.list ((List.range ds.length).filterMap f)) (SS ds.length) := fun W B ad H0 H σ S Q q =>
  h W B ad H0 H σ S _ fun J H1 S1 e1 ok Dl hD => by
    have hgu : ∀ i xs, i ∈ vs → G[i]? ≠ some (.own xs) := fun i xs hi g => by cases hu i _ hi g
    obtain ⟨L0, el0⟩ := S1.lend (o := .lst []) hD
    have fr := S1.fresh hD
    have npD : ¬ Zs W B ad G Dl := by
      rintro (z | ⟨i, xs, g, r⟩ | z)
      · obtain ⟨o, z⟩ := S1.wd _ z
        rw [hD] at z; cases z
      · obtain ⟨_, _, _, vs, h1, _⟩ := S1.at_ i _ g
        rw [← r, hD] at h1; cases h1
      · exact fr.2 z
    refine ⟨fun i m H' => m = ds.length - i ∧ i ≤ ds.length ∧ Sta K (fun a => W a ∨ a = Dl) B ad H0 H' σ G (SS i) ∧ Ex (less H1 (Zs W B ad G)) (less H' (Zs (fun a => W a ∨ a = Dl) B ad G)) ∧ Xb B H1 H' ∧
      ∃ acc, H' Dl = some (.lst acc) ∧ DpAll K (less H' (Zs (fun a => W a ∨ a = Dl) B ad G)) acc ((List.range i).filterMap f), ⟨ds.length, rfl, Nat.zero_le _, by rw [h0]; exact L0, by rw [el0]; exact Ex.refl _, .of (Ex.new hD), [], upd_same, .nil⟩, ?_⟩
    rintro i m H' ⟨rfl, hi, S', e', xb, acc, ha, hd⟩
    obtain ⟨k1, k2, k3⟩ := ok H' (Zs (fun a => W a ∨ a = Dl) B ad G) S'.there e' i
    by_cases hlt : i < ds.length
    · have hx : ds[i]? = some ds[i] := List.getElem?_eq_getElem hlt
      obtain ⟨Gt, s2, tg, ht, hy, hn⟩ := hs i _ hx
      refine .inr ⟨k1 _ hx, fun H3 => Sta K (fun a => W a ∨ a = Dl) B ad H0 H3 σ G (SS (i + 1)) ∧ Ex (less H1 (Zs W B ad G)) (less H3 (Zs (fun a => W a ∨ a = Dl) B ad G)) ∧ Xb B H1 H3 ∧
        ∃ acc, H3 Dl = some (.lst acc) ∧ DpAll K (less H3 (Zs (fun a => W a ∨ a = Dl) B ad G)) acc ((List.range (i + 1)).filterMap f), fun H3 h3 => ⟨ds.length - (i + 1), by omega, rfl, hlt, h3⟩, fun v H'' hyl => ?_⟩
      obtain ⟨ex, dx⟩ := k3 v H'' hyl
      have S2 := (S'.ext ex).slots (σ' := wipe σ vs) (G' := G) (vs := vs) ⟨rfl, fun _ _ => rfl, hgu⟩ hu hgu wipe_wipe.symm
      refine tg.2 _ B ad H0 H'' _ (SS i) v S2 (dx _ hx) _ fun σ2 S3 e3 ew => ⟨by rw [ew, wipe_wipe], ?_⟩
      have eZ : Zs (fun a => W a ∨ a = Dl) B ad Gt = Zs (fun a => W a ∨ a = Dl) B ad G := funext fun a => propext (by
        have own : ∀ (i : Nat) (xs : List PyData), Gt[i]? = some (En.own xs) ↔ G[i]? = some (En.own xs) := fun i xs => by
          by_cases hi : i ∈ vs
          · exact ⟨fun g => absurd g (tg.1.2.2 i xs hi), fun g => absurd g (hgu i xs hi)⟩
          · rw [tg.1.2.1 i hi]
        constructor
        · rintro (z | ⟨i, xs, g, r⟩ | z)
          · exact .inl z
          · exact .inr (.inl ⟨i, xs, (own i xs).mp g, r⟩)
          · exact .inr (.inr z)
        · rintro (z | ⟨i, xs, g, r⟩ | z)
          · exact .inl z
          · exact .inr (.inl ⟨i, xs, (own i xs).mpr g, r⟩)
          · exact .inr (.inr z))
      have back : ∀ {H5 : Hp} {b : Bag}, Sta K (fun a => W a ∨ a = Dl) B ad H0 H5 σ2 Gt b → Sta K (fun a => W a ∨ a = Dl) B ad H0 H5 σ G b := fun {H5 b} S5 =>
        S5.slots (G' := G) (vs := vs) ⟨tg.1.1.symm, fun i hi => (tg.1.2.1 i hi).symm, hgu⟩ hu tg.1.2.2 (by rw [ew, wipe_wipe])
      have hB : ¬ InB B Dl := fr.2
      have ha2 : H'' Dl = some (.lst acc) := ex _ _ ha
      have al : acc.length < sizeLine := by
        have h1 := dpa_len hd
        have h2 := List.length_filterMap_le f (List.range i)
        rw [List.length_range] at h2
        exact Nat.lt_of_lt_of_le (show acc.length < 16777216 by omega) (by decide)
      refine ht _ B ad H0 H'' σ2 S3 _ fun H3 S4 e4 => ?_
      have e5 : Ex (less H' (Zs (fun a => W a ∨ a = Dl) B ad G)) (less H3 (Zs (fun a => W a ∨ a = Dl) B ad G)) := (less_mono ex).trans e4.l
      cases hf : (f i) with
      | none =>
        rw [hn hf] at S4
        refine iteF ⟨back S4, e'.trans e5, (xb.trans (.of ex)).trans e4, acc, e4 _ _ ha2 hB, ?_⟩
        rw [range_fm_succ, hf]
        show DpAll K _ acc (_ ++ [])
        rw [List.append_nil]
        exact dpa_mono e5 hd
      | some y =>
        refine iteT ?_
        refine hy y hf _ B ad H0 H3 σ2 S4 _ fun w H4 S5 e6 dw => ?_
        rw [eZ] at dw
        have S6 := back S5
        have h0 : H0 Dl = none := fr.1
        obtain ⟨S7, el7⟩ := S6.foreign (o := .lst (acc ++ [w])) (p := Dl) (.inr rfl) h0 hB
        refine ⟨acc, e6 _ _ (e4 _ _ ha2 hB) hB, al, S7, ?_, ?_, acc ++ [w], upd_same, ?_⟩
        · rw [el7]
          exact e'.trans (e5.trans e6.l)
        · intro a o g n
          have na : a ≠ Dl := ne_of_none g hD
          rw [upd_ne na]
          exact ((((xb.trans (.of ex)).trans e4).trans e6) a o g n)
        · rw [el7, range_fm_succ, hf]
          exact dpa_app (dpa_mono (e5.trans e6.l) hd) (.cons dw .nil)
    · have en : i = ds.length := by omega
      subst en
      obtain ⟨S5, e5⟩ := S'.back
      refine .inl ⟨k2 (Nat.le_refl _), q _ H' S5 (e1.trans ?_) (.lst (sq_of (less_of npD ha)) (dpa_mono e5 hd))⟩
      exact fun a o g n => xb a o g n
end
end U

end
section
namespace U
open PySem PyProof.Rows L2 Evl
section
variable {K : Fg} {G G' G1 G2 : Gam} {s s1 s2 s3 s' : Bag} {ta tb tc te : TE} {t u : TT} {x y z : PyData} {tu tw tz : TS} {o : Out}
theorem range_fm_map {ds : List PyData} (F : PyData → PyData) : (List.range ds.length).filterMap (fun i => (ds[i]?).map F) = ds.map F := qt_of (by simp (disch := with_unfolding_all
  have key : ∀ (l : List PyData), (List.range l.length).filterMap (fun i => l[i]?) = l := fun l => by
    induction l with
    | nil => rfl
    | cons a l ih =>
      rw [List.length_cons, List.range_succ_eq_map, List.filterMap_cons]
      simp only [List.getElem?_cons_zero, List.filterMap_map]
      refine congrArg (a :: ·) ?_
      exact ih
  have h : (fun i : Nat => (ds[i]?).map F) = fun i : Nat => (ds.map F)[i]? := by
    funext i
    rw [List.getElem?_map]
  rw [h]
  have e := key (ds.map F)
  rw [List.length_map] at e
  exact e
  ) only [↓qt_eq])
theorem et_yes : EvT K tYes G s true s := fun W B ad H0 H σ S Q q => q H S Xb.refl
/-- [elt for target in ..], nothing drawn, no test -/
theorem ev_lcM {wi : TI} {g : TG} {vs : List Nat} {ds : List PyData} (h : Src K wi G s ds s1) (F : PyData → PyData) (hu : ∀ i e, i ∈ vs → G[i]? = some e → e = .un) (hz : ds.length ≤ 16000000)
    (hs : ∀ x, x ∈ ds → ∃ Gt, Tgt K g vs G x Gt ∧ EvG K te Gt s1 (F x) s1) : EvG K (tLc wi g tYes te vs) G s (.list (ds.map F)) s1 := qt_of (by simp (disch := with_unfolding_all
  have k := ev_lc (K := K) (te := te) (tt := tYes) h (fun i => (ds[i]?).map F) (fun _ => s1) rfl hu hz fun i x hx => by
    obtain ⟨Gt, a, b⟩ := hs x (List.mem_of_getElem? hx)
    refine ⟨Gt, s1, a, ?_, fun y hy => ?_, fun hn => rfl⟩
    · rw [hx]; exact et_yes
    · rw [hx] at hy
      cases hy
      exact b
  rw [range_fm_map] at k
  exact k
  ) only [↓qt_eq])
/-! ### deep equality -/
end
/-! ### defs -/
section
variable {Pg : Program} {w : World} {K : Fg} {mg : Str → Option Value} {base : Heap}
noncomputable def frame (n : Nat) (ds : List PyData) : Gam := ds.map .d ++ List.replicate (n - ds.length) .un
theorem frame_get {n i : Nat} {ds : List PyData} {e : En} (h : (frame n ds)[i]? = some e) : (∃ d, ds[i]? = some d ∧ e = .d d) ∨ (ds.length ≤ i ∧ e = .un) := qt_of (by simp (disch := with_unfolding_all
  unfold frame at h
  by_cases hi : i < ds.length
  · rw [List.getElem?_append_left (by rw [List.length_map]; exact hi), List.getElem?_map, List.getElem?_eq_getElem hi] at h
    exact .inl ⟨ds[i], List.getElem?_eq_getElem hi, (Option.some.inj h).symm⟩
  · have hi : ds.length ≤ i := by omega
    rw [List.getElem?_append_right (by rw [List.length_map]; exact hi)] at h
    exact .inr ⟨hi, (List.mem_replicate.mp (List.mem_of_getElem? h)).2⟩
  ) only [↓qt_eq])
theorem start_get {N : List Str} {vs : List V} {i : Nat} {v : V} (h : vs[i]? = some v) : (L2.start N vs)[i]? = some (some v) := by
  unfold L2.start
  have hi := (List.getElem?_eq_some_iff.mp h).1
  rw [List.getElem?_append_left (by rw [List.length_map]; exact hi), List.getElem?_map, h]
  rfl
theorem start_len {N : List Str} {vs : List V} : (L2.start N vs).length = vs.length + (N.length - vs.length) := by
  unfold L2.start
  rw [List.length_append, List.length_map, List.length_replicate]
/-- the state at a def's entry -/
theorem sta0 {N : List Str} {W : Addr → Prop} {H : Hp} {vs : List V} {ds : List PyData} (hW : ∀ a, W a → ∃ o, H a = some o) (hd : DpAll K (less H W) vs ds) (b : Bag) : Sta K W none (fun _ => 0) H H (L2.start N vs) (frame N.length ds) b := qt_of (by simp (disch := with_unfolding_all
  have no : ∀ (i : Nat) (xs : List PyData), (frame N.length ds)[i]? ≠ some (En.own xs) := fun i xs h => by
    rcases frame_get h with ⟨d, _, e⟩ | ⟨_, e⟩ <;> cases e
  have zz : ∀ a, Zs W none (fun _ => 0) (frame N.length ds) a → W a := by
    rintro a (z | ⟨i, xs, g, _⟩ | ⟨b, c, z, _⟩)
    · exact z
    · exact absurd g (no i xs)
    · cases z
  refine ⟨?_, fun i e h => ?_, fun i j xs ys g => absurd g (no i xs), fun i xs g => absurd g (no i xs), fun a o h _ => h, trivial, hW⟩
  · rw [start_len, dpa_len hd]
    unfold frame
    rw [List.length_append, List.length_map, List.length_replicate]
  · rcases frame_get h with ⟨d, hi, rfl⟩ | ⟨hi, rfl⟩
    · obtain ⟨v, hv, dv⟩ := dpa_get hd hi
      exact ⟨some v, start_get hv, v, rfl, dp_mono (less_sub zz) dv⟩
    · have il : i < (L2.start N vs).length := by
        rw [start_len, dpa_len hd]
        have := (List.getElem?_eq_some_iff.mp h).1
        unfold frame at this
        rw [List.length_append, List.length_map, List.length_replicate] at this
        exact this
      exact ⟨(L2.start N vs)[i], List.getElem?_eq_getElem il, trivial⟩
  ) only [↓qt_eq])
/-- a def of data -/
theorem okP {x qual : Str} {st : Stmt} {f : Addr} {fd : FuncData} {N ps : List Str} {k : Nat} {P : List PyData → PyData → Prop} (F : Fun K x qual st f fd) (S : FnScope N ps (defScope st)) (hl : ∀ ds r, P ds r → ds.length = ps.length)
    (hb : ∀ ds r, P ds r → ∀ (cdv : Value) (A : Around) (outer : List Env) (sh : Shared) (H : Hp) (E : XK), Room k (A.deeper (envOfC qual (defScope st) sh.heap.objs.size f cdv)) →
      ∃ t, PSs (cxOf CX0 Pg w K mg base N qual (defScope st) f cdv A outer sh H E).nox (defBody st) t ∧ ∀ b, SG K t (frame N.length ds) b (.rt r b)) : FnOk Pg w K mg base CX0 (k + 1) f fd ps (spP K P) := qt_of (by simp (disch := with_unfolding_all
  refine F.ok S (fun vs H Q E h => ?_) (fun cdv A outer sh H vs Q E hr h => ?_)
  · obtain ⟨W, ds, r, _, hd, hp, _⟩ := h
    rw [dpa_len hd]
    exact hl ds r hp
  · obtain ⟨W, ds, r, hW, hd, hp, q⟩ := h
    obtain ⟨t, ht, g⟩ := hb ds r hp cdv A outer sh H E hr
    refine ⟨t, ht, g ⟨[], 0, 0⟩ W none (fun _ => 0) H H _ _ (sta0 hW hd _) fun v H' e _ d => q v H' (fun a o h => e a o h (fun ⟨_, _, z, _⟩ => by cases z)) (dp_mono (less_sub fun a z => .inl z) d)⟩
  ) only [↓qt_eq])
theorem staB {N : List Str} {W : Addr → Prop} {H : Hp} {b c : Addr} {vs : List V} {ds : List PyData} {s : Bag} (hW : ∀ a, W a → ∃ o, H a = some o) (hB : BagAt H (some (b, c)) s) (hd : DpAll K (less H fun a => W a ∨ InB (some (b, c)) a) vs ds) :
    Sta K W (some (b, c)) (fun _ => 0) H H (L2.start N (.ref b :: vs)) (.bag :: frame (N.length - 1) ds) s := qt_of (by simp (disch := with_unfolding_all
  have no : ∀ (i : Nat) (xs : List PyData), (En.bag :: frame (N.length - 1) ds)[i]? ≠ some (En.own xs) := fun i xs h => by
    cases i with
    | zero => cases h
    | succ i => rcases frame_get h with ⟨d, _, e⟩ | ⟨_, e⟩ <;> cases e
  have zz : ∀ a, Zs W (some (b, c)) (fun _ => 0) (En.bag :: frame (N.length - 1) ds) a → W a ∨ InB (some (b, c)) a := by
    rintro a (z | ⟨i, xs, g, _⟩ | z)
    · exact .inl z
    · exact absurd g (no i xs)
    · exact .inr z
  have ln : (L2.start N (.ref b :: vs)).length = (En.bag :: frame (N.length - 1) ds).length := by
    rw [start_len, List.length_cons, List.length_cons, dpa_len hd]
    unfold frame
    rw [List.length_append, List.length_map, List.length_replicate]
    omega
  refine ⟨ln, fun i e h => ?_, fun i j xs ys g => absurd g (no i xs), fun i xs g => absurd g (no i xs), fun a o h _ => h, hB, hW⟩
  cases i with
  | zero =>
    cases h
    exact ⟨some (.ref b), rfl, b, c, rfl, rfl⟩
  | succ i =>
    rcases frame_get h with ⟨d, hi, rfl⟩ | ⟨hi, rfl⟩
    · obtain ⟨v, hv, dv⟩ := dpa_get hd hi
      exact ⟨some v, start_get (show (V.ref b :: vs)[i + 1]? = some v from hv), v, rfl, dp_mono (less_sub zz) dv⟩
    · have il : i + 1 < (L2.start N (.ref b :: vs)).length := by
        rw [ln]; exact (List.getElem?_eq_some_iff.mp h).1
      exact ⟨_, List.getElem?_eq_getElem il, trivial⟩
  ) only [↓qt_eq])
/-- a def that draws -/
theorem okB {x qual : Str} {st : Stmt} {f : Addr} {fd : FuncData} {N ps : List Str} {k : Nat} {P : Bag → List PyData → PyData → Bag → Prop} (F : Fun K x qual st f fd) (S : FnScope N ps (defScope st)) (hl : ∀ s ds r s', P s ds r s' → ds.length + 1 = ps.length)
    (hb : ∀ s ds r s', P s ds r s' → s.ok → ∀ (cdv : Value) (A : Around) (outer : List Env) (sh : Shared) (H : Hp) (E : XK), Room k (A.deeper (envOfC qual (defScope st) sh.heap.objs.size f cdv)) →
      ∃ t, PSs (cxOf CX0 Pg w K mg base N qual (defScope st) f cdv A outer sh H E).nox (defBody st) t ∧ SG K t (.bag :: frame (N.length - 1) ds) s (.rt r s')) : FnOk Pg w K mg base CX0 (k + 1) f fd ps (spB K P) := qt_of (by simp (disch := with_unfolding_all
  refine F.ok S (fun vs H Q E h => ?_) (fun cdv A outer sh H vs Q E hr h => ?_)
  · obtain ⟨W, b, c, us, s, ds, r, s', _, rfl, _, hd, hp, _⟩ := h
    rw [List.length_cons, dpa_len hd]
    exact hl s ds r s' hp
  · obtain ⟨W, b, c, us, s, ds, r, s', hW, rfl, hB, hd, hp, q⟩ := h
    obtain ⟨t, ht, g⟩ := hb s ds r s' hp hB.2.2 cdv A outer sh H E hr
    exact ⟨t, ht, g W (some (b, c)) (fun _ => 0) H H _ _ (staB hW hB hd) fun v H' e hb d => q v H' e hb d⟩
  ) only [↓qt_eq])
/-! ### the law itself: the script, the bag made of it, the rest -/
noncomputable def bag0 (ns : List Int) : Bag := ⟨ns, 0, 20011⟩
noncomputable def spBag (K : Fg) : Sp := fun vs H Q _ => ∃ (W : Addr → Prop) (ns : List Int), (∀ a, W a → ∃ o, H a = some o) ∧ DpAll K (less H W) vs [.list (ns.map PyData.int)] ∧ ns.length ≤ 63 ∧
  ∀ b c H', Ex H H' → H b = none → H c = none → BagAt H' (some (b, c)) (bag0 ns) → Q (.ref b) H'
noncomputable def PLaw : List PyData → PyData → Prop := fun ds r => ∃ ns : List Int, ds = [.list (ns.map PyData.int)] ∧ ns.length ≤ 63 ∧ r = .bool true
end
end U

end
section
namespace U
open PySem PyProof.Rows L2 Evl
/-! ### the mathematics of fractions -/
noncomputable abbrev Fr := Int × Int
noncomputable abbrev fr (p : Fr) : PyData := .tuple [.int p.1, .int p.2]
noncomputable def gN (a b : Int) : Nat := max (Nat.gcd a.natAbs b.natAbs) 1
noncomputable def gI (a b : Int) : Int := (gN a b : Int)
theorem gI_pos (a b : Int) : 0 < gI a b := by
  unfold gI gN
  have : 1 ≤ max (Nat.gcd a.natAbs b.natAbs) 1 := Nat.le_max_right _ _
  omega
/-- the states of Euclid's loop -/
noncomputable def eu (x y : Nat) : Nat → Nat × Nat
  | 0 => (x, y)
  | i + 1 => ((eu x y i).2, (eu x y i).1 % (eu x y i).2)
theorem eu_shift (x y : Nat) : ∀ i, eu x y (i + 1) = eu y (x % y) i
  | 0 => rfl
  | i + 1 => by
    show ((eu x y (i + 1)).2, (eu x y (i + 1)).1 % (eu x y (i + 1)).2) = _
    rw [eu_shift x y i]
    rfl
theorem eu_end : ∀ (y x : Nat), ∃ n, eu x y n = (Nat.gcd x y, 0) ∧ ∀ i, i < n → 0 < (eu x y i).2 := fun y => by
  induction y using Nat.strongRecOn with
  | ind y ih =>
    intro x
    by_cases hy : y = 0
    · subst hy
      exact ⟨0, by show (x, 0) = _; rw [Nat.gcd_zero_right], fun i hi => absurd hi (Nat.not_lt_zero _)⟩
    · obtain ⟨n, h1, h2⟩ := ih (x % y) (Nat.mod_lt _ (Nat.pos_of_ne_zero hy)) y
      refine ⟨n + 1, ?_, fun i hi => ?_⟩
      · rw [eu_shift, h1, Nat.gcd_comm x y, Nat.gcd_rec y x]
        rw [Nat.gcd_comm]
      · cases i with
        | zero => exact Nat.pos_of_ne_zero hy
        | succ i =>
          rw [eu_shift]
          exact h2 i (by omega)
theorem fmod_nat (a b : Nat) : Int.fmod (a : Int) (b : Int) = ((a % b : Nat) : Int) := by
  rw [Int.fmod_eq_emod_of_nonneg _ (Int.natCast_nonneg b)]
  rfl
theorem absI_nat (a : Int) : absI a = (a.natAbs : Int) := by
  unfold absI
  split <;> omega
noncomputable def Bd (n : Nat) (a : Int) : Prop := a.natAbs < 2 ^ n
noncomputable def Sz (n : Nat) (p : Fr) : Prop := Bd n p.1 ∧ Bd n p.2
theorem Bd.mono {n m : Nat} {a : Int} (h : Bd n a) (l : n ≤ m) : Bd m a := Nat.lt_of_lt_of_le h (Nat.pow_le_pow_right (by decide) l)
theorem Sz.mono {n m : Nat} {p : Fr} (h : Sz n p) (l : n ≤ m) : Sz m p := ⟨h.1.mono l, h.2.mono l⟩
theorem Bd.cm {n m : Nat} {a b : Int} (ha : Bd n a) (hb : Bd m b) (h : n + m + 2 ≤ 1000000) : CMulW a b :=
  wide_mul (ha.mono (Nat.le_succ n)) (hb.mono (Nat.le_succ m)) (Nat.succ_pos _) (Nat.succ_pos _) (by omega)
theorem Bd.neg {n : Nat} {a : Int} (ha : Bd n a) : Bd n (-a) := by
  unfold Bd at *
  omega
theorem Bd.fdiv {n : Nat} {a : Int} (b : Int) (ha : Bd n a) : Bd n (a.fdiv b) := Nat.lt_of_le_of_lt (Int.natAbs_fdiv_le_natAbs a b) ha
theorem gN_le {n : Nat} {a b : Int} (ha : Bd n a) (hb : Bd n b) : gN a b ≤ 2 ^ n := qt_of (by simp (disch := with_unfolding_all
  unfold gN
  have h1 : 1 ≤ 2 ^ n := Nat.one_le_two_pow
  refine Nat.max_le.mpr ⟨?_, h1⟩
  by_cases h0 : a.natAbs = 0
  · rw [h0, Nat.gcd_zero_left]
    exact Nat.le_of_lt hb
  · exact Nat.le_trans (Nat.gcd_le_left _ (Nat.pos_of_ne_zero h0)) (Nat.le_of_lt ha)
  ) only [↓qt_eq])
theorem Bd.g {n : Nat} {a b : Int} (ha : Bd n a) (hb : Bd n b) : Bd (n + 1) (gI a b) := by
  have h := gN_le ha hb
  have h1 : 1 ≤ 2 ^ n := Nat.one_le_two_pow
  unfold Bd gI
  rw [Nat.pow_succ, Int.natAbs_natCast]
  omega
theorem Bd.dv {n : Nat} {i j : Int} (h0 : j ≠ 0) (h : Bd n j) (hn : n ≤ 8000) : CDvX i j := by
  refine ⟨h0, ?_⟩
  have h2 : j.natAbs < 2 ^ (n + 1) := h.mono (Nat.le_succ n)
  have := PySem.Flt.log2_lt_of (Nat.succ_pos n) h2
  omega
/-! ### gcd, the law's own and the program's -/
theorem max_gN (a b : Int) : maxI 1 (Nat.gcd a.natAbs b.natAbs : Nat) = gI a b := by
  unfold maxI gI gN
  rw [Nat.max_def]
  split <;> split <;> omega
theorem gN_max (a b : Int) : maxI (Nat.gcd a.natAbs b.natAbs : Nat) 1 = gI a b := by
  unfold maxI gI gN
  rw [Nat.max_def]
  split <;> split <;> omega
noncomputable def P_gcd : List PyData → PyData → Prop := fun ds r => ∃ a b : Int, ds = [.int a, .int b] ∧ r = .int (gI a b)
/-- above / below as the law makes it -/
noncomputable def fracF (a b : Int) : Fr := (a.fdiv (if b < 0 then -gI a b else gI a b), b.fdiv (if b < 0 then -gI a b else gI a b))
noncomputable def P_frac : List PyData → PyData → Prop := fun ds r => ∃ a b : Int, ds = [.int a, .int b] ∧ Bd 7990 a ∧ Bd 7990 b ∧ r = fr (fracF a b)
theorem Sz.frac {n : Nat} {a b : Int} (ha : Bd n a) (hb : Bd n b) : Sz n (fracF a b) := ⟨ha.fdiv _, hb.fdiv _⟩
noncomputable def addF (p q : Fr) : Fr := fracF (p.1 * q.2 + q.1 * p.2) (p.2 * q.2)
section
variable {K : Fg} {G G' G1 G2 : Gam} {s s1 s2 s3 s' : Bag} {ta tb tc te : TE} {t u : TT} {x y z : PyData} {E : XK}
theorem ev_gcd {a b : Int} (h1 : EvG K ta G s (.int a) s1) (h2 : EvG K tb G s1 (.int b) s2) : EvG K (tCall (spP K P_gcd) [] E (tCons ta (tCons tb tNil))) G s (.int (gI a b)) s2 :=
  ev_call (ea_cons h1 (ea_cons h2 ea_nil)) (fun _ => .nil) ⟨a, b, rfl, rfl⟩
theorem ev_frac {a b : Int} (h1 : EvG K ta G s (.int a) s1) (h2 : EvG K tb G s1 (.int b) s2) (ha : Bd 4000 a) (hb : Bd 4000 b) : EvG K (tCall (spP K P_frac) [] E (tCons ta (tCons tb tNil))) G s (fr (fracF a b)) s2 :=
  ev_call (ea_cons h1 (ea_cons h2 ea_nil)) (fun _ => .nil) ⟨a, b, rfl, ha.mono (by decide), hb.mono (by decide), rfl⟩
end
theorem less_none {K : Fg} {H : Hp} {a : Addr} {xs : List V} (h : SqL K H a xs) : SqL K (less H fun _ => False) a xs := ex_l (fun a o h => less_of (fun z => z) h) h
theorem ev_ixDisp {K : Fg} {G : Gam} {s s1 s2 : Bag} {ta : TA} {tb : TE} {xs : List PyData} {x : PyData} {i : Int} (h : EvA K ta G s xs s1) (hl : xs.length ≤ 16000000) (hb : EvG K tb G s1 (.int i) s2) (he : atI xs i = some x) : EvG K (tOp (rIx K) (tLst ta) tb) G s x s2 := ev_ixL (ev_lst h hl) hb he
/-! ### draws -/
noncomputable def cellOf (s : Bag) : Int := if s.cs.length = 0 then 0 else s.cs.getD (s.i.fmod s.cs.length).toNat 0
noncomputable def pull (s : Bag) (n : Int) : Int × Bag :=
  if 0 < s.cs.length ∧ 1000000000000000000 ≤ absI (cellOf s) then ((cellOf s).fmod n, ⟨s.cs.set (s.i.fmod s.cs.length).toNat ((cellOf s).fdiv n), s.i, s.j⟩)
  else
    let j := (s.j * 48271 + (cellOf s).fmod 1000003 + (s.i + 1)).fmod 2147483647
    ((((j * 69621 + j.fdiv 65536).fmod 2147483629).fdiv 32).fmod n, ⟨s.cs, s.i + 1, j⟩)
noncomputable def pullV (s : Bag) (n : Int) : Int := (pull s n).1
noncomputable def pullS (s : Bag) (n : Int) : Bag := (pull s n).2
theorem fmod_range (a : Int) {n : Int} (h : 0 < n) : 0 ≤ a.fmod n ∧ a.fmod n < n := by
  rw [Int.fmod_eq_emod_of_nonneg _ (Int.le_of_lt h)]
  exact ⟨Int.emod_nonneg _ (by omega), Int.emod_lt_of_pos _ h⟩
theorem pullV_range (s : Bag) {n : Int} (h : 0 < n) : 0 ≤ pullV s n ∧ pullV s n < n := by
  unfold pullV pull
  split
  · exact fmod_range _ h
  · exact fmod_range _ h
theorem pullS_ok {s : Bag} (n : Int) (h : s.ok) : (pullS s n).ok := qt_of (by simp (disch := with_unfolding_all
  obtain ⟨h1, h2, h3⟩ := h
  unfold pullS pull
  split
  · exact ⟨by show (List.set _ _ _).length ≤ 63; rw [List.length_set]; exact h1, h2, h3⟩
  · have := fmod_range (s.j * 48271 + (cellOf s).fmod 1000003 + (s.i + 1)) (n := 2147483647) (by decide)
    exact ⟨h1, this.1, this.2⟩
  ) only [↓qt_eq])
noncomputable def P_pull : Bag → List PyData → PyData → Bag → Prop := fun s ds r s' => ∃ n : Int, ds = [.int n] ∧ 0 < n ∧ n < 1000000000000 ∧ r = .int (pullV s n) ∧ s' = pullS s n
section
variable {K : Fg} {G G' G1 G2 : Gam} {s s1 s2 s3 s' : Bag} {ta tb tc te : TE} {t u : TT} {x y z : PyData} {E : XK}
theorem ev_pull {i : Nat} {n : Int} (hi : G[i]? = some .bag) (h : EvG K ta G s (.int n) s1) (h0 : 0 < n) (h1 : n < 1000000000000) : EvG K (tCall (spB K P_pull) [] E (tCons (tVar i) (tCons ta tNil))) G s (.int (pullV s1 n)) (pullS s1 n) :=
  ev_callB hi (ea_cons h ea_nil) ⟨n, rfl, h0, h1, rfl, rfl⟩
end
/-! ### drawn numbers -/
noncomputable def menu (l : List Int) (i : Int) : Int := l.getD i.toNat 0
theorem menu_at {l : List Int} {i : Int} (h0 : 0 ≤ i) (h1 : i < l.length) : atI (l.map PyData.int) i = some (.int (menu l i)) := qt_of (by simp (disch := with_unfolding_all
  obtain ⟨j, rfl⟩ : ∃ j : Nat, i = (j : Int) := ⟨i.toNat, by omega⟩
  have hj : j < l.length := by omega
  refine atI_nat ?_
  unfold menu
  rw [List.getElem?_map, List.getElem?_eq_getElem hj, Int.toNat_natCast, List.getD_eq_getElem?_getD, List.getElem?_eq_getElem hj]
  rfl
  ) only [↓qt_eq])
theorem menu_mem {l : List Int} {i : Int} (h0 : 0 ≤ i) (h1 : i < l.length) : menu l i ∈ l := qt_of (by simp (disch := with_unfolding_all
  obtain ⟨j, rfl⟩ : ∃ j : Nat, i = (j : Int) := ⟨i.toNat, by omega⟩
  have hj : j < l.length := by omega
  unfold menu
  rw [Int.toNat_natCast, List.getD_eq_getElem?_getD, List.getElem?_eq_getElem hj]
  exact List.getElem_mem hj
  ) only [↓qt_eq])
noncomputable def partOf (s : Bag) : Fr := fracF (pullV s 13 - 6) (menu [1, 1, 2, 3] (pullV (pullS s 13) 4))
noncomputable def partS (s : Bag) : Bag := pullS (pullS s 13) 4
noncomputable def P_part : Bag → List PyData → PyData → Bag → Prop := fun s ds r s' => ds = [] ∧ r = fr (partOf s) ∧ s' = partS s
theorem ev_b0 {K : Fg} {G : Gam} {s s' : Bag} {x : PyData} {E : XK} {i : Nat} {P : Bag → List PyData → PyData → Bag → Prop} (hi : G[i]? = some .bag) (hp : P s [] x s') : EvG K (tCall (spB K P) [] E (tCons (tVar i) tNil)) G s x s' := ev_callB hi ea_nil hp
theorem ev_part {K : Fg} {G : Gam} {s : Bag} {E : XK} {i : Nat} (hi : G[i]? = some .bag) : EvG K (tCall (spB K P_part) [] E (tCons (tVar i) tNil)) G s (fr (partOf s)) (partS s) := ev_b0 hi ⟨rfl, rfl, rfl⟩
theorem partOf_sz (s : Bag) : Sz 10 (partOf s) := qt_of (by simp (disch := with_unfolding_all
  obtain ⟨z1, z2⟩ := pullV_range s (n := 13) (by decide)
  obtain ⟨y1, y2⟩ := pullV_range (pullS s 13) (n := 4) (by decide)
  have hm := menu_mem (l := [1, 1, 2, 3]) y1 y2
  unfold partOf
  generalize menu _ _ = m at hm
  generalize pullV s 13 = y at *
  simp only [List.mem_cons, List.mem_singleton, List.not_mem_nil, or_false] at hm
  refine Sz.frac ?_ ?_
  · unfold Bd; omega
  · unfold Bd; omega
  ) only [↓qt_eq])
theorem partS_ok {s : Bag} (h : s.ok) : (partS s).ok := pullS_ok _ (pullS_ok _ h)
/-! ### alike: what is asked of a thing and itself -/
mutual
noncomputable def okD : Nat → PyData → Bool
  | _, .none => true
  | _, .bool _ => true
  | _, .int _ => true
  | _, .str _ => true
  | 0, .list _ => false
  | 0, .tuple _ => false
  | n + 1, .list xs => decide (xs.length ≤ 1000000) && okAll n xs
  | n + 1, .tuple xs => decide (xs.length ≤ 1000000) && okAll n xs
  | _, .dict _ => false
noncomputable def okAll : Nat → List PyData → Bool
  | _, [] => true
  | n, x :: xs => okD n x && okAll n xs
end
theorem okAll_get : ∀ {n : Nat} {xs : List PyData} {i : Nat} {x : PyData}, okAll n xs = true → xs[i]? = some x → okD n x = true
  | _, [], _, _, _, h => by simp at h
  | n, y :: xs, 0, x, h, e => by
    have e := Option.some.inj e
    subst e
    unfold okAll at h
    exact (Bool.and_eq_true_iff.mp h).1
  | n, y :: xs, i + 1, x, h, e => by
    unfold okAll at h
    exact okAll_get (i := i) (Bool.and_eq_true_iff.mp h).2 e
noncomputable def P_like : Nat → List PyData → PyData → Prop
  | 0 => fun _ _ => False
  | n + 1 => fun ds r => ∃ x : PyData, ds = [x, x] ∧ okD n x = true ∧ r = .bool true
section
variable {K : Fg} {G G' G1 G2 : Gam} {s s1 s2 s3 s' : Bag} {ta tb tc te : TE} {t u : TT} {x y z : PyData} {E : XK}
theorem ev_like {n : Nat} (h1 : EvG K ta G s x s1) (h2 : EvG K tb G s1 y s2) (e : x = y) (hx : okD n y = true) : EvG K (tCall (spP K (P_like (n + 1))) [] E (tCons ta (tCons tb tNil))) G s (.bool true) s2 := by
  subst e
  exact ev_call (ea_cons h1 (ea_cons h2 ea_nil)) (fun _ => .nil) ⟨x, rfl, hx, rfl⟩
end
end U

end
section
namespace U
open PySem PyProof.Rows L2 Evl
/-! what plain data are -/
theorem okAll_of {n : Nat} : ∀ {xs : List PyData}, (∀ x ∈ xs, okD n x = true) → okAll n xs = true
  | [], _ => rfl
  | x :: xs, h => by
    unfold okAll
    rw [h x (List.mem_cons_self ..), okAll_of fun y hy => h y (List.mem_cons_of_mem _ hy)]
    rfl
theorem okD_list {n : Nat} {xs : List PyData} (hl : xs.length ≤ 1000000) (h : ∀ x ∈ xs, okD n x = true) : okD (n + 1) (.list xs) = true := by
  unfold okD
  rw [decide_eq_true hl, okAll_of h]
  rfl
end U

end
section
namespace U
open PySem PyProof.Rows L2 Evl
/-- list + list, both of them only read -/
noncomputable def rCatL (K : Fg) : R2 := fun x y H Q => ∃ a b xs ys, x = .ref a ∧ y = .ref b ∧ SqL K H a xs ∧ SqL K H b ys ∧ xs.length + ys.length ≤ sizeLine ∧ ∀ p, H p = none → Q (.ref p) (upd H p (.lst (xs ++ ys)))
section
variable {X : Cx}
theorem op_catL : OpR X (binaryOp .Add) (rCatL X.K) := by
  intro pins s σ H x y v u Q I rx ry h
  obtain ⟨l, b, xs, zs, rfl, rfl, hH, hB, hz, q⟩ := h
  cases rx
  cases ry
  obtain ⟨its, r, pl, hl⟩ := I.list hH
  obtain ⟨its2, r2, pl2, hl2⟩ := I.list hB
  have h1 := r.length
  have h2 := r2.length
  obtain ⟨⟨cls, dd, data, sl⟩, n, ho, hc, _, hd⟩ := pl
  obtain ⟨⟨cls2, dd2, data2, sl2⟩, n2, ho2, hc2, _, hd2⟩ := pl2
  simp only at hc hd hc2 hd2
  subst hc hd hc2 hd2
  refine concat_meets ⟨_, ho, rfl⟩ ⟨_, ho2, rfl⟩ noFill_list_add seq_list_add F.slot_list_add F.entry_list_add (F.args_list_add_2 _ _) (list_addW l b its.toArray its2.toArray n n2 dd dd2 sl sl2 (by rw [List.size_toArray, List.size_toArray]; omega)) ⟨ho, ho2, ?_⟩
  have ea : its.toArray ++ its2.toArray = (its ++ its2).toArray := by simp
  rw [ea]
  exact ⟨.ref _, _, I.lnew (t' := s.toks) (r.append r2) (by rw [List.length_append]; omega), rfl, q _ I.fresh⟩
end
section
variable {K : Fg} {G G1 G2 : Gam} {s s1 s2 s3 s' : Bag} {ta tb tc te : TE} {t u : TT} {x y z : PyData}
theorem cutD_whole {xs : List PyData} {lo hi : Option Int} (h : HT.sIx xs.length 0 lo = 0 ∧ HT.sIx xs.length xs.length hi = xs.length) : cutD xs lo hi = xs := by
  unfold cutD
  rw [h.1, h.2, List.drop_zero, Nat.sub_zero, List.take_length]
end
end U

end
section
namespace U
open PySem PyProof.Rows L2 Evl
section
variable {K : Fg} {G G1 G2 : Gam} {s s1 s2 s3 s' : Bag} {ta tb tc te : TE} {t u : TT} {x y z : PyData}
/-! ### in, not in: whole numbers -/
/-! ### zip -/
/-! ### a comprehension that draws -/
noncomputable def itB (N : Bag → Bag) : Nat → Bag → Bag
  | 0, s => s
  | n + 1, s => N (itB N n s)
noncomputable def drawn (F : Bag → PyData) (N : Bag → Bag) (n : Nat) (s : Bag) : List PyData := (List.range n).map fun i => F (itB N i s)
theorem ev_lcDraw {wi : TI} {g : TG} {vs : List Nat} {ds : List PyData} (h : Src K wi G s ds s1) (F : Bag → PyData) (N : Bag → Bag) (hu : ∀ i e, i ∈ vs → G[i]? = some e → e = .un) (hz : ds.length ≤ 16000000)
    (hs : ∀ x s, x ∈ ds → ∃ Gt, Tgt K g vs G x Gt ∧ EvG K te Gt s (F s) (N s)) : EvG K (tLc wi g tYes te vs) G s (.list (drawn F N ds.length s1)) (itB N ds.length s1) := qt_of (by simp (disch := with_unfolding_all
  have k := ev_lc (K := K) (te := te) (tt := tYes) h (fun i => some (F (itB N i s1))) (fun i => itB N i s1) rfl hu hz fun i x hx => by
    obtain ⟨Gt, a, b⟩ := hs x (itB N i s1) (List.mem_of_getElem? hx)
    exact ⟨Gt, _, a, et_yes, fun y hy => by cases hy; exact b, fun hn => by cases hn⟩
  have e : (List.range ds.length).filterMap (fun i => some (F (itB N i s1))) = drawn F N ds.length s1 := by
    unfold drawn
    exact congrFun List.filterMap_eq_map' _
  rw [e] at k
  exact k
  ) only [↓qt_eq])
end
end U

end
section
namespace U
open PySem PyProof.Rows L2 Evl
local macro_rules | `(tactic| walk_at "ev1") => `(tactic| first
  | exact ev_int | exact ev_bl | exact ev_str | exact ev_non | exact ev_var rfl | exact ea_nil | exact eo_none
  | with_reducible apply ev_ixDisp | with_reducible apply ev_fst | with_reducible apply ev_snd
  | with_reducible apply ev_add | with_reducible apply ev_sub | with_reducible apply ev_mul | with_reducible apply ev_fdiv | with_reducible apply ev_mod | with_reducible apply ev_pow
  | with_reducible apply ev_lt | with_reducible apply ev_le | with_reducible apply ev_gt | with_reducible apply ev_ge
  | with_reducible apply ev_eqI | with_reducible apply ev_neI
  | with_reducible apply ev_neg | with_reducible apply ev_subB | with_reducible apply ev_isNo | with_reducible apply ev_noNo
  | with_reducible apply ev_not | with_reducible apply et_test | with_reducible apply et_B | with_reducible apply et_not
  | with_reducible apply ev_abs | with_reducible apply ev_max | with_reducible apply ev_min | with_reducible apply ev_intB
  | with_reducible apply ev_gcd | with_reducible apply ev_frac | with_reducible apply ev_fadd | with_reducible apply ev_sign | with_reducible apply ev_cmpF
  | with_reducible apply ev_pull rfl
  | with_reducible apply ev_like
  | with_reducible apply ev_tup | with_reducible apply ev_lst | with_reducible apply ea_cons | with_reducible apply eo_some
  | with_reducible apply ev_order | exact ev_part rfl | exact ev_far rfl | exact ev_farPart rfl
  | (with_reducible show List.length _ ≤ 16000000; (simp; done)) | (with_reducible show (0 : Int) < _; decide) | (with_reducible show (_ : Int) < 1000000000000; decide) | (with_reducible show CPow _ _; (unfold CPow; decide)) | (with_reducible show CNz _ _; (unfold CNz; decide))
  | with_reducible apply sg_ret | with_reducible apply sg_asg | with_reducible apply sg_next)
local macro_rules | `(tactic| walk_at "ln") => `(tactic| first | walk_at "ev1" | with_reducible apply sg_seq)
section

section
variable {K : Fg}
-- slots of order: 0 one, 1 other, 2 gap
noncomputable def t__law_gcd (K : Fg) : TS := (tSeq (tAsg (tCB rAbs (tCons (tVar 0) tNil)) (gName 0))
  (tSeq (tAsg (tCB rAbs (tCons (tVar 1) tNil)) (gName 1))
  (tSeq (tWhile (tTest (tOp (rI0 fun i j => V.bl (decide (j < i))) (tVar 1) (tC (V.int 0)))) (tSeq (tAsg (tVar 1) (gName 2))
  (tSeq (tAsg (tOp (rI CNz fun i j => V.int (i.fmod j)) (tVar 0) (tVar 1)) (gName 1))
  (tAsg (tVar 2) (gName 0)))))
  (tRet (tCB rMx (tCons (tC (V.int 1)) (tCons (tVar 0) tNil)))))))
-- slots of _law_gcd: 0 _law_one, 1 _law_other, 2 _law_kept
theorem ln__law_gcd : ∀ ds r, P_gcd ds r → ds.length = 2 := fun ds r h => by obtain ⟨p, q, rfl, _⟩ := h; rfl
theorem rd__law_gcd {ds r} (h : P_gcd ds r) (b : Bag) : SG K (t__law_gcd K) (frame 3 ds) b (.rt r b) := qt_of (by simp (disch := with_unfolding_all
  obtain ⟨x, y, rfl, rfl⟩ := h
  unfold t__law_gcd
  obtain ⟨n, h1, h2⟩ := eu_end y.natAbs x.natAbs
  apply sg_is
  apply sg_seq
  (repeat' walk_at "ev1")
  apply sg_seq
  (repeat' walk_at "ev1")
  apply sg_seq
  · refine sg_while (s' := b) (fun i => [.d (.int (eu x.natAbs y.natAbs i).1), .d (.int (eu x.natAbs y.natAbs i).2), .un]) (fun _ => b) (fun _ => b) n ?_ rfl (fun i hi => ?_) (fun i hi => .inl ?_) ?_
    · show Wk [.d (.int (absI x)), .d (.int (absI y)), .un] _
      rw [absI_nat, absI_nat]
      exact .refl _
    · refine et_is (by (repeat' walk_at "ev1")) ?_
      have := h2 i hi
      simp; omega
    · have hy := h2 i hi
      refine sg_wk (G1 := [.d (.int (eu x.natAbs y.natAbs (i + 1)).1), .d (.int (eu x.natAbs y.natAbs (i + 1)).2), .d (.int (eu x.natAbs y.natAbs i).2)]) ?_ (.cons (.cons (.drop .nil)))
      apply sg_is
      (repeat' walk_at "ln")
      · show ((eu x.natAbs y.natAbs i).2 : Int) ≠ 0
        omega
      · rw [fmod_nat]
        rfl
    · refine et_is (by (repeat' walk_at "ev1")) ?_
      rw [h1]
      rfl
  · rw [h1]
    (repeat' walk_at "ev1")
  · show Out.rt (.int (maxI 1 _)) b = _
    rw [max_gN]
  ) only [↓qt_eq])
noncomputable def t__law_frac (K : Fg) : TS := (tSeq (tAsg (tCall (spP K P_gcd) [] E0 (tCons (tVar 0) (tCons (tVar 1) tNil))) (gName 2))
  (tSeq (tIfS (tTest (tOp (rI0 fun i j => V.bl (decide (i < j))) (tVar 1) (tC (V.int 0)))) (tAsg (tUn (rU fun i => V.int (-i)) (tVar 2)) (gName 2)) tNext)
  (tRet (tTup (tCons (tOp (rI CDvX fun i j => V.int (i.fdiv j)) (tVar 0) (tVar 2)) (tCons (tOp (rI CDvX fun i j => V.int (i.fdiv j)) (tVar 1) (tVar 2)) tNil))))))
-- slots of _law_frac: 0 _law_above, 1 _law_below, 2 _law_divisor
theorem ln__law_frac : ∀ ds r, P_frac ds r → ds.length = 2 := fun ds r h => by obtain ⟨p, q, rfl, _⟩ := h; rfl
theorem rd__law_frac {ds r} (h : P_frac ds r) (b : Bag) : SG K (t__law_frac K) (frame 3 ds) b (.rt r b) := qt_of (by simp (disch := with_unfolding_all
  obtain ⟨x, y, rfl, hx, hy, rfl⟩ := h
  unfold t__law_frac
  have hg := gI_pos x y
  have hb : Bd 7991 (gI x y) := Bd.g hx hy
  apply sg_seq
  (repeat' walk_at "ev1")
  apply sg_when
  (repeat' walk_at "ev1")
  · intro h
    have h := of_decide_eq_true h
    apply sg_is
    (repeat' walk_at "ln")
    · exact Bd.dv (by omega) hb.neg (by decide)
    · exact Bd.dv (by omega) hb.neg (by decide)
    · show Out.rt (fr (x.fdiv (-gI x y), y.fdiv (-gI x y))) b = Out.rt (fr (fracF x y)) b
      unfold fracF
      rw [if_pos h]
  · intro h
    have h := of_decide_eq_false h
    apply sg_is
    (repeat' walk_at "ln")
    · exact Bd.dv (by omega) hb (by decide)
    · exact Bd.dv (by omega) hb (by decide)
    · show Out.rt (fr (x.fdiv (gI x y), y.fdiv (gI x y))) b = Out.rt (fr (fracF x y)) b
      unfold fracF
      rw [if_neg h]
  ) only [↓qt_eq])
-- slots of _law_add: 0 _law_one, 1 _law_other
-- slots of _law_sign: 0 _law_number
-- slots of _law_cmp: 0 _law_one, 1 _law_other
noncomputable def t__law_part (K : Fg) : TS := (tRet (tCall (spP K P_frac) [] E0 (tCons (tOp (rI0 fun i j => V.int (i - j)) (tCall (spB K P_pull) [] E0 (tCons (tVar 0) (tCons (tC (V.int 13)) tNil))) (tC (V.int 6))) (tCons (tOp (rIx K) (tLst (tCons (tC (V.int 1)) (tCons (tC (V.int 1)) (tCons (tC (V.int 2)) (tCons (tC (V.int 3)) tNil))))) (tCall (spB K P_pull) [] E0 (tCons (tVar 0) (tCons (tC (V.int 4)) tNil)))) tNil))))
-- slots of _law_part: 0 _law_bag_here
theorem ln__law_part : ∀ s ds r s', P_part s ds r s' → ds.length + 1 = 1 := fun s ds r s' h => by obtain ⟨rfl, _⟩ := h; rfl
theorem rd__law_part {s ds r s'} (h : P_part s ds r s') (ok : s.ok) : SG K (t__law_part K) (.bag :: frame 0 ds) s (.rt r s') := qt_of (by simp (disch := with_unfolding_all
  obtain ⟨rfl, rfl, rfl⟩ := h
  unfold t__law_part
  obtain ⟨z1, z2⟩ := pullV_range s (n := 13) (by decide)
  obtain ⟨y1, y2⟩ := pullV_range (pullS s 13) (n := 4) (by decide)
  have hm := menu_mem (l := [1, 1, 2, 3]) y1 y2
  apply sg_is
  (repeat' walk_at "ln")
  all_goals first | exact menu_at (l := [1, 1, 2, 3]) y1 y2 | skip
  · unfold Bd; omega
  · refine Bd.mono (n := 10) ?_ (by decide)
    generalize menu _ _ = m at hm
    simp only [List.mem_cons, List.not_mem_nil, or_false] at hm
    unfold Bd; omega
  · rfl
  ) only [↓qt_eq])
-- slots of _law_far: 0 _law_bag_here
-- slots of _law_far_part: 0 _law_bag_here
noncomputable def t__law_pull (K : Fg) : TS := (tSeq (tAsg (tOp (rIx K) (tVar 0) (tC (V.int 0))) (gName 2))
  (tSeq (tAsg (tC (V.int 0)) (gName 3))
  (tSeq (tIfS (tTest (tOp (rI0 fun i j => V.bl (decide (j < i))) (tCB (rLenQ K) (tCons (tVar 2) tNil)) (tC (V.int 0)))) (tSeq (tAsg (tOp (rI CNz fun i j => V.int (i.fmod j)) (tOp (rIx K) (tVar 0) (tC (V.int 1))) (tCB (rLenQ K) (tCons (tVar 2) tNil))) (gName 4))
  (tSeq (tAsg (tOp (rIx K) (tVar 2) (tVar 4)) (gName 3))
  (tIfS (tTest (tOp (rI0 fun i j => V.bl (decide (j ≤ i))) (tCB rAbs (tCons (tVar 3) tNil)) (tOp (rI CPow fun i j => V.int (i ^ j.toNat)) (tC (V.int 10)) (tC (V.int 18))))) (tSeq (tAsg (tOp (rI CDvX fun i j => V.int (i.fdiv j)) (tVar 3) (tVar 1)) (gSub (tVar 2) (tVar 4) rSetL))
  (tRet (tOp (rI CNz fun i j => V.int (i.fmod j)) (tVar 3) (tVar 1)))) tNext))) tNext)
  (tSeq (tAsg (tOp (rI0 fun i j => V.int (i + j)) (tOp (rIx K) (tVar 0) (tC (V.int 1))) (tC (V.int 1))) (gSub (tVar 0) (tC (V.int 1)) rSetL))
  (tSeq (tAsg (tOp (rI CNz fun i j => V.int (i.fmod j)) (tOp (rI0 fun i j => V.int (i + j)) (tOp (rI0 fun i j => V.int (i + j)) (tOp (rI CMulW fun i j => V.int (i * j)) (tOp (rIx K) (tVar 0) (tC (V.int 2))) (tC (V.int 48271))) (tOp (rI CNz fun i j => V.int (i.fmod j)) (tVar 3) (tC (V.int 1000003)))) (tOp (rIx K) (tVar 0) (tC (V.int 1)))) (tC (V.int 2147483647))) (gSub (tVar 0) (tC (V.int 2)) rSetL))
  (tRet (tOp (rI CNz fun i j => V.int (i.fmod j)) (tOp (rI CDvX fun i j => V.int (i.fdiv j)) (tOp (rI CNz fun i j => V.int (i.fmod j)) (tOp (rI0 fun i j => V.int (i + j)) (tOp (rI CMulW fun i j => V.int (i * j)) (tOp (rIx K) (tVar 0) (tC (V.int 2))) (tC (V.int 69621))) (tOp (rI CDvX fun i j => V.int (i.fdiv j)) (tOp (rIx K) (tVar 0) (tC (V.int 2))) (tC (V.int 65536)))) (tC (V.int 2147483629))) (tC (V.int 32))) (tVar 1))))))))
-- slots of _law_pull: 0 _law_bag_here, 1 _law_size, 2 _law_cells, 3 _law_cell, 4 _law_spot
theorem ln__law_pull : ∀ s ds r s', P_pull s ds r s' → ds.length + 1 = 2 := fun s ds r s' h => by obtain ⟨n, rfl, _⟩ := h; rfl
theorem bag_ne {H : Hp} {b c : Addr} {s : Bag} (h : BagAt H (some (b, c)) s) : b ≠ c := fun e => by
  have h1 := h.1
  have h2 := h.2.1
  rw [e, h2] at h1
  have h3 := HO.lst.inj (Option.some.inj h1)
  cases hc : s.cs with
  | nil => rw [hc] at h3; cases h3
  | cons x r => rw [hc] at h3; cases h3
theorem rd_pullTail {D : Ends} {H : Hp} {b c : Addr} {s : Bag} {cell n : Int} {x4 : Option V} (hB : BagAt H (some (b, c)) s) (h0 : 0 < n)
    (q : ∀ H', (∀ a o, H a = some o → ¬ InB (some (b, c)) a → H' a = some o) → BagAt H' (some (b, c)) ⟨s.cs, s.i + 1, (s.j * 48271 + cell.fmod 1000003 + (s.i + 1)).fmod 2147483647⟩ →
      D.rt (.int (((((s.j * 48271 + cell.fmod 1000003 + (s.i + 1)).fmod 2147483647) * 69621 + ((s.j * 48271 + cell.fmod 1000003 + (s.i + 1)).fmod 2147483647).fdiv 65536).fmod 2147483629).fdiv 32 |>.fmod n)) H') :
    (tSeq (tAsg (tOp (rI0 fun i j => V.int (i + j)) (tOp (rIx K) (tVar 0) (tC (V.int 1))) (tC (V.int 1))) (gSub (tVar 0) (tC (V.int 1)) rSetL))
  (tSeq (tAsg (tOp (rI CNz fun i j => V.int (i.fmod j)) (tOp (rI0 fun i j => V.int (i + j)) (tOp (rI0 fun i j => V.int (i + j)) (tOp (rI CMulW fun i j => V.int (i * j)) (tOp (rIx K) (tVar 0) (tC (V.int 2))) (tC (V.int 48271))) (tOp (rI CNz fun i j => V.int (i.fmod j)) (tVar 3) (tC (V.int 1000003)))) (tOp (rIx K) (tVar 0) (tC (V.int 1)))) (tC (V.int 2147483647))) (gSub (tVar 0) (tC (V.int 2)) rSetL))
  (tRet (tOp (rI CNz fun i j => V.int (i.fmod j)) (tOp (rI CDvX fun i j => V.int (i.fdiv j)) (tOp (rI CNz fun i j => V.int (i.fmod j)) (tOp (rI0 fun i j => V.int (i + j)) (tOp (rI CMulW fun i j => V.int (i * j)) (tOp (rIx K) (tVar 0) (tC (V.int 2))) (tC (V.int 69621))) (tOp (rI CDvX fun i j => V.int (i.fdiv j)) (tOp (rIx K) (tVar 0) (tC (V.int 2))) (tC (V.int 65536)))) (tC (V.int 2147483629))) (tC (V.int 32))) (tVar 1))))) D
    [some (.ref b), some (.int n), some (.ref c), some (.int cell), x4] H := qt_of (by simp (disch := with_unfolding_all
  obtain ⟨hb, hc, h1, h2, h3⟩ := id hB
  have nbc : b ≠ c := bag_ne hB
  have mulj : ∀ {x y : Int}, 0 ≤ x → x < 2147483647 → Bd 40 y → CMulW x y := fun {x y} a b c => Bd.cm (n := 31) (m := 40) (by unfold Bd; omega) c (by decide)
  generalize hj : (s.j * 48271 + cell.fmod 1000003 + (s.i + 1)).fmod 2147483647 = j at q
  have hjr : 0 ≤ j ∧ j < 2147483647 := by rw [← hj]; exact fmod_range _ (by decide)
  -- bag[1] = bag[1] + 1
  refine ⟨_, rfl, .inl ⟨b, _, 1, .int s.i, rfl, rfl, sq_of hb, rfl, _, _, rfl, rfl, _, rfl, b, _, 1, 1, rfl, rfl, hb, rfl, ?_⟩⟩
  -- bag[2] = ..
  refine ⟨_, rfl, .inl ⟨b, _, 2, .int s.j, rfl, rfl, sq_of upd_same, rfl, _, _, rfl, rfl, mulj h2 h3 (by unfold Bd; decide), _, rfl, _, _, rfl, rfl, (by show (1000003 : Int) ≠ 0; decide), _, _, rfl, rfl, _, rfl, .inl ⟨b, _, 1, .int (s.i + 1), rfl, rfl, sq_of upd_same, rfl, _, _, rfl, rfl, _, _, rfl, rfl, (by show (2147483647 : Int) ≠ 0; decide), _, rfl, b, _, 2, 2, rfl, rfl, upd_same, rfl, ?_⟩⟩⟩
  dsimp only
  rw [hj]
  -- return
  refine ⟨_, rfl, .inl ⟨b, _, 2, .int j, rfl, rfl, sq_of upd_same, rfl, _, _, rfl, rfl, mulj hjr.1 hjr.2 (by unfold Bd; decide), _, rfl, .inl ⟨b, _, 2, .int j, rfl, rfl, sq_of upd_same, rfl, _, _, rfl, rfl, ⟨by decide, by decide⟩, _, _, rfl, rfl, _, _, rfl, rfl, (by show (2147483629 : Int) ≠ 0; decide), _, _, rfl, rfl, ⟨by decide, by decide⟩, _, rfl, _, _, rfl, rfl, ?_, ?_⟩⟩⟩
  · show n ≠ 0
    omega
  · refine q _ (fun a o h z => ?_) ⟨upd_same, ?_, h1, hjr.1, hjr.2⟩
    · have na : a ≠ b := fun e => z ⟨b, c, rfl, .inl e⟩
      rw [upd_ne na, upd_ne na]; exact h
    · rw [upd_ne nbc.symm, upd_ne nbc.symm]; exact hc
  ) only [↓qt_eq])
theorem rd__law_pull {D : Ends} {W : Addr → Prop} {H : Hp} {b c : Addr} {s : Bag} {n : Int} (hB : BagAt H (some (b, c)) s) (h0 : 0 < n) (h1 : n < 1000000000000)
    (q : ∀ (v : V) (H' : Hp), (∀ (a : Addr) (o : HO), H a = some o → ¬InB (some (b, c)) a → H' a = some o) → BagAt H' (some (b, c)) (pullS s n) → Dp K (less H' fun a => W a ∨ InB (some (b, c)) a) v (PyData.int (pullV s n)) → D.rt v H') :
    t__law_pull K D [some (.ref b), some (.int n), none, none, none] H := qt_of (by simp (disch := with_unfolding_all
  obtain ⟨hb, hc, k1, k2, k3⟩ := id hB
  have nbc : b ≠ c := bag_ne hB
  unfold t__law_pull
  refine ⟨_, rfl, .inl ⟨b, _, 0, .ref c, rfl, rfl, sq_of hb, rfl, ?_⟩⟩
  have lc : SqL K H c (s.cs.map V.int) := sq_of hc
  refine ⟨_, rfl, c, _, rfl, .inl lc, _, _, rfl, rfl, _, rfl, ?_⟩
  rw [List.length_map]
  refine ite2 (fun h => ?_) (fun h => ?_)
  · have hl : 0 < s.cs.length := by have := of_decide_eq_true h; omega
    have hsp := fmod_range s.i (n := (s.cs.length : Int)) (by omega)
    obtain ⟨k, hk⟩ : ∃ k : Nat, s.i.fmod s.cs.length = (k : Int) := ⟨(s.i.fmod s.cs.length).toNat, by omega⟩
    have kl : k < s.cs.length := by omega
    have gk : (s.cs.map V.int)[k]? = some (.int s.cs[k]) := by rw [List.getElem?_map, List.getElem?_eq_getElem kl]; rfl
    have ec : cellOf s = s.cs[k] := by
      unfold cellOf
      rw [if_neg (by omega), hk, Int.toNat_natCast, List.getD_eq_getElem?_getD, List.getElem?_eq_getElem kl]
      rfl
    refine ⟨_, rfl, .inl ⟨b, _, 1, .int s.i, rfl, rfl, sq_of hb, rfl, _, rfl, c, _, rfl, .inl lc, _, _, rfl, rfl, ?_, ?_⟩⟩
    · show ((s.cs.map V.int).length : Int) ≠ 0
      rw [List.length_map]; omega
    rw [List.length_map]
    dsimp only
    rw [hk]
    refine ⟨_, rfl, _, rfl, .inl ⟨c, _, (k : Int), _, rfl, rfl, lc, atI_nat gk, ?_⟩⟩
    refine ⟨_, rfl, _, rfl, _, _, rfl, rfl, (by unfold CPow; decide), _, _, rfl, rfl, _, rfl, ?_⟩
    have e18 : (10 : Int) ^ (18 : Int).toNat = 1000000000000000000 := by decide
    rw [e18]
    refine ite2 (fun h2 => ?_) (fun h2 => ?_)
    · have hbig : 1000000000000000000 ≤ absI (cellOf s) := by
        rw [ec]; exact of_decide_eq_true h2
      have ep : pull s n = ((cellOf s).fmod n, ⟨s.cs.set k ((cellOf s).fdiv n), s.i, s.j⟩) := by
        unfold pull
        rw [if_pos ⟨hl, hbig⟩, hk, Int.toNat_natCast]
      refine ⟨_, rfl, _, rfl, _, _, rfl, rfl, ⟨by omega, ?_⟩, _, rfl, _, rfl, c, _, (k : Int), k, rfl, rfl, hc, ?_, ?_⟩
      · have : n.natAbs < 2 ^ 40 := by omega
        have := PySem.Flt.log2_lt_of (by decide) this
        omega
      · exact ixN_nat (by rw [List.length_map]; exact kl)
      · refine ⟨_, rfl, _, rfl, _, _, rfl, rfl, (by show n ≠ 0; omega), ?_⟩
        refine q _ _ (fun a o h z => ?_) ?_ ?_
        · rw [upd_ne (fun e => z ⟨b, c, rfl, .inr e⟩)]; exact h
        · unfold pullS
          rw [ep]
          refine ⟨by rw [upd_ne nbc]; exact hb, ?_, by rw [List.length_set]; exact k1, k2, k3⟩
          rw [upd_same, List.map_set, ec]
        · unfold pullV
          rw [ep, ec]
          exact .int _
    · have hbig : ¬ 1000000000000000000 ≤ absI (cellOf s) := fun z => h2 (decide_eq_true (by rw [ec] at z; exact z))
      refine rd_pullTail hB h0 fun H' e hB' => ?_
      have ep : pull s n = (((((s.j * 48271 + (cellOf s).fmod 1000003 + (s.i + 1)).fmod 2147483647) * 69621 + ((s.j * 48271 + (cellOf s).fmod 1000003 + (s.i + 1)).fmod 2147483647).fdiv 65536).fmod 2147483629).fdiv 32 |>.fmod n, ⟨s.cs, s.i + 1, (s.j * 48271 + (cellOf s).fmod 1000003 + (s.i + 1)).fmod 2147483647⟩) := by
        unfold pull
        rw [if_neg (fun z => hbig z.2)]
      refine q _ _ e ?_ ?_
      · unfold pullS
        rw [ep, ec]; exact hB'
      · unfold pullV
        rw [ep, ec]; exact .int _
  · have hl : s.cs.length = 0 := by
      have := of_decide_eq_false (eq_false_of_ne_true h)
      omega
    have ec : cellOf s = 0 := by unfold cellOf; rw [if_pos hl]
    refine rd_pullTail hB h0 fun H' e hB' => ?_
    have ep : pull s n = (((((s.j * 48271 + (cellOf s).fmod 1000003 + (s.i + 1)).fmod 2147483647) * 69621 + ((s.j * 48271 + (cellOf s).fmod 1000003 + (s.i + 1)).fmod 2147483647).fdiv 65536).fmod 2147483629).fdiv 32 |>.fmod n, ⟨s.cs, s.i + 1, (s.j * 48271 + (cellOf s).fmod 1000003 + (s.i + 1)).fmod 2147483647⟩) := by
      unfold pull
      rw [if_neg (fun z => by omega)]
    refine q _ _ e ?_ ?_
    · unfold pullS
      rw [ep, ec]; exact hB'
    · unfold pullV
      rw [ep, ec]; exact .int _
  ) only [↓qt_eq])
end

end
end U
end
section
namespace U
open PySem PyProof.Rows L2 Evl
theorem kit_NoneType_bool : kitB "NoneType" "bool" = some false := by decide +kernel
theorem kit_NoneType_int : kitB "NoneType" "int" = some false := by decide +kernel
theorem kit_NoneType_str : kitB "NoneType" "str" = some false := by decide +kernel
theorem kit_NoneType_list : kitB "NoneType" "list" = some false := by decide +kernel
theorem kit_NoneType_tuple : kitB "NoneType" "tuple" = some false := by decide +kernel
theorem kit_bool_bool : kitB "bool" "bool" = some true := by decide +kernel
theorem kit_bool_list : kitB "bool" "list" = some false := by decide +kernel
theorem kit_bool_tuple : kitB "bool" "tuple" = some false := by decide +kernel
theorem kit_int_bool : kitB "int" "bool" = some false := by decide +kernel
theorem kit_int_int : kitB "int" "int" = some true := by decide +kernel
theorem kit_int_list : kitB "int" "list" = some false := by decide +kernel
theorem kit_int_tuple : kitB "int" "tuple" = some false := by decide +kernel
theorem kit_str_bool : kitB "str" "bool" = some false := by decide +kernel
theorem kit_str_int : kitB "str" "int" = some false := by decide +kernel
theorem kit_str_str : kitB "str" "str" = some true := by decide +kernel
theorem kit_str_list : kitB "str" "list" = some false := by decide +kernel
theorem kit_str_tuple : kitB "str" "tuple" = some false := by decide +kernel
theorem kit_list_list : kitB "list" "list" = some true := by decide +kernel
theorem kit_list_tuple : kitB "list" "tuple" = some false := by decide +kernel
theorem kit_tuple_list : kitB "tuple" "list" = some false := by decide +kernel
theorem kit_tuple_tuple : kitB "tuple" "tuple" = some true := by decide +kernel
local macro_rules | `(tactic| walk_at "ev1") => `(tactic| first
  | exact ev_int | exact ev_bl | exact ev_str | exact ev_non | exact ev_var rfl | exact ea_nil | exact eo_none
  | with_reducible apply ev_ixDisp | with_reducible apply ev_fst | with_reducible apply ev_snd
  | with_reducible apply ev_add | with_reducible apply ev_sub | with_reducible apply ev_mul | with_reducible apply ev_fdiv | with_reducible apply ev_mod | with_reducible apply ev_pow
  | with_reducible apply ev_lt | with_reducible apply ev_le | with_reducible apply ev_gt | with_reducible apply ev_ge
  | with_reducible apply ev_eqI | with_reducible apply ev_neI
  | with_reducible apply ev_neg | with_reducible apply ev_subB | with_reducible apply ev_isNo | with_reducible apply ev_noNo
  | with_reducible apply ev_not | with_reducible apply et_test | with_reducible apply et_B | with_reducible apply et_not
  | with_reducible apply ev_abs | with_reducible apply ev_max | with_reducible apply ev_min | with_reducible apply ev_intB
  | with_reducible apply ev_gcd | with_reducible apply ev_frac | with_reducible apply ev_fadd | with_reducible apply ev_sign | with_reducible apply ev_cmpF
  | with_reducible apply ev_pull rfl
  | with_reducible apply ev_like
  | with_reducible apply ev_tup | with_reducible apply ev_lst | with_reducible apply ea_cons | with_reducible apply eo_some
  | with_reducible apply ev_order | exact ev_part rfl | exact ev_far rfl | exact ev_farPart rfl
  | (with_reducible show List.length _ ≤ 16000000; (simp; done)) | (with_reducible show (0 : Int) < _; decide) | (with_reducible show (_ : Int) < 1000000000000; decide) | (with_reducible show CPow _ _; (unfold CPow; decide)) | (with_reducible show CNz _ _; (unfold CNz; decide))
  | with_reducible apply sg_ret | with_reducible apply sg_asg | with_reducible apply sg_next)
local macro_rules | `(tactic| walk_at "ln") => `(tactic| first | walk_at "ev1" | with_reducible apply sg_seq)

section
variable {K : Fg}
theorem fnok_false {Pg : Program} {w : World} {mg : Str → Option Value} {base : Heap} {CX : CXT} {k : Nat} {f : Addr} {fd : FuncData} {ps : List Str} : FnOk Pg w K mg base CX k f fd ps (spP K fun _ _ => False) :=
  ⟨fun vs H Q E h => by obtain ⟨_, _, _, _, _, h, _⟩ := h; exact h.elim, fun A outer s H args us vs Q E _ _ _ _ h => by obtain ⟨_, _, _, _, _, h, _⟩ := h; exact h.elim⟩
/-! _law_bag -/
noncomputable def t__law_bag (K : Fg) : TS := (tRet (tLst (tCons (tCB (rListQ K) (tCons (tSl (rSlL K) (tVar 0) tNoPart (tPart (tC (V.int 63)))) tNil)) (tCons (tC (V.int 0)) (tCons (tC (V.int 20011)) tNil)))))
-- slots of _law_bag: 0 _law_script
theorem cut63 {xs : List V} (h : xs.length ≤ 63) : cutV xs none (some 63) = xs := qt_of (by simp (disch := with_unfolding_all
  unfold cutV
  rw [HT.sIx_none, show HT.sIx xs.length xs.length (some 63) = min 63 xs.length from HT.sIx_nat xs.length xs.length 63, Nat.min_eq_right h, List.drop_zero, Nat.sub_zero, List.take_length]
  ) only [↓qt_eq])
theorem rd__law_bag {D : Ends} {W : Addr → Prop} {H : Hp} {v : V} {ns : List Int} (hd : Dp K (less H W) v (.list (ns.map PyData.int))) (hl : ns.length ≤ 63)
    (q : ∀ b c H', Ex H H' → H b = none → H c = none → BagAt H' (some (b, c)) (bag0 ns) → D.rt (.ref b) H') : t__law_bag K D [some v] H := qt_of (by simp (disch := with_unfolding_all
  cases hd with
  | @lst a vs _ g t =>
    have e := dpa_ints t
    subst e
    have g' : SqL K H a (ns.map V.int) := ex_l less_ex g
    have ll : (ns.map V.int).length ≤ 63 := by rw [List.length_map]; exact hl
    unfold t__law_bag
    refine ⟨.ref a, rfl, 63, rfl, a, _, rfl, g', fun p hp => ?_⟩
    rw [cut63 ll]
    refine ⟨p, _, rfl, .inl (sq_of upd_same), fun c hc => ?_⟩
    refine ⟨by show 3 ≤ sizeLine; decide, fun b hb => ?_⟩
    have e1 : Ex H (upd H p (.lst (ns.map V.int))) := Ex.new hp
    have e2 := e1.trans (Ex.new (o := .lst (ns.map V.int)) hc)
    have nbc : c ≠ b := fun z => by
      rw [← z, upd_same] at hb; cases hb
    refine q b c _ (e2.trans (Ex.new hb)) (fresh_back e2 hb) (fresh_back e1 hc) ⟨upd_same, ?_, hl, by show (0 : Int) ≤ 20011; decide, by show (20011 : Int) < 2147483647; decide⟩
    rw [upd_ne nbc, upd_same]
    rfl
  ) only [↓qt_eq])
/-! _law_like -/
noncomputable def t__law_like (K : Fg) (n : Nat) : TS := (tSeq (tIfS (tB (tCB (rIsiT K) (tCons (tVar 1) (tCons (tTup (tCons (tC (V.ty "tuple")) (tCons (tC (V.ty "list")) tNil))) tNil)))) (tSeq (tIfS (tTest (tOp rNe (tCB (rIsi K) (tCons (tVar 0) (tCons (tC (V.ty "tuple")) tNil))) (tCB (rIsi K) (tCons (tVar 1) (tCons (tC (V.ty "tuple")) tNil))))) (tRet (tC (V.bl false))) tNext)
  (tSeq (tIfS (tOr (tNot (tB (tCB (rIsiT K) (tCons (tVar 0) (tCons (tTup (tCons (tC (V.ty "tuple")) (tCons (tC (V.ty "list")) tNil))) tNil))))) (tTest (tOp rNe (tCB (rLenQ K) (tCons (tVar 0) tNil)) (tCB (rLenQ K) (tCons (tVar 1) tNil))))) (tRet (tC (V.bl false))) tNext)
  (tRet (tCB (rAll K) (tCons (tLc (iRng1 (tCons (tCB (rLenQ K) (tCons (tVar 1) tNil)) tNil)) (gName 2) tYes (tCall (spP K (P_like n)) [] E0 (tCons (tOp (rIx K) (tVar 0) (tVar 2)) (tCons (tOp (rIx K) (tVar 1) (tVar 2)) tNil))) [2]) tNil))))) tNext)
  (tSeq (tIfS (tB (tCB (rIsi K) (tCons (tVar 1) (tCons (tC (V.ty "bool")) tNil)))) (tRet (tAndV (tCB (rIsi K) (tCons (tVar 0) (tCons (tC (V.ty "bool")) tNil))) (tOp rEq (tVar 0) (tVar 1)))) tNext)
  (tSeq (tIfS (tB (tCB (rIsi K) (tCons (tVar 1) (tCons (tC (V.ty "int")) tNil)))) (tRet (tAndV (tCB (rIsi K) (tCons (tVar 0) (tCons (tC (V.ty "int")) tNil))) (tAndV (tNotV (tCB (rIsi K) (tCons (tVar 0) (tCons (tC (V.ty "bool")) tNil)))) (tOp rEq (tVar 0) (tVar 1))))) tNext)
  (tSeq (tIfS (tB (tCB (rIsi K) (tCons (tVar 1) (tCons (tC (V.ty "str")) tNil)))) (tRet (tAndV (tCB (rIsi K) (tCons (tVar 0) (tCons (tC (V.ty "str")) tNil))) (tOp rEq (tVar 0) (tVar 1)))) tNext)
  (tRet (tAndV (tOp rIsNo (tVar 1) (tC V.non)) (tOp rIsNo (tVar 0) (tC V.non))))))))
-- slots of _law_like: 0 _law_found, 1 _law_due, 2 _law_at
theorem ln__law_like {n : Nat} : ∀ ds r, P_like (n + 1) ds r → ds.length = 2 := fun ds r h => by obtain ⟨p, rfl, _⟩ := h; rfl
theorem atI_rng {xs : List PyData} {i : Nat} (h : i < xs.length) : ∃ x, xs[i]? = some x ∧ atI xs ((0 : Int) + (i : Int)) = some x := by
  refine ⟨xs[i], List.getElem?_eq_getElem h, ?_⟩
  rw [Int.zero_add]
  exact atI_nat (List.getElem?_eq_getElem h)
theorem mem_rng {lo : Int} {n : Nat} {x : PyData} (h : x ∈ rngD lo n) : ∃ i, i < n ∧ x = .int (lo + (i : Int)) := by
  unfold rngD at h
  obtain ⟨i, hi, rfl⟩ := List.mem_map.mp h
  exact ⟨i, List.mem_range.mp hi, rfl⟩
theorem un_at {G : Gam} {j : Nat} (h : G[j]? = some .un) : ∀ i e, i ∈ [j] → G[i]? = some e → e = .un := fun i e hi g => by
  rw [List.mem_singleton.mp hi, h] at g
  exact (Option.some.inj g).symm
theorem all_true (n : Nat) (l : List PyData) : l.map (fun _ => PyData.bool true) = (l.map fun _ => true).map PyData.bool := by
  rw [List.map_map]; rfl
theorem all_true2 (l : List PyData) : (l.map fun _ => true).all id = true := by
  rw [List.all_map]; simp
theorem rd__law_like {n : Nat} {ds r} (h : P_like (n + 1) ds r) (b : Bag) : SG K (t__law_like K n) (frame 3 ds) b (.rt r b) := qt_of (by simp (disch := with_unfolding_all
  obtain ⟨x, rfl, hx, rfl⟩ := h
  unfold t__law_like
  have v0 : EvG K (tVar 0) (frame 3 [x, x]) b x b := ev_var rfl
  have v1 : EvG K (tVar 1) (frame 3 [x, x]) b x b := ev_var rfl
  cases x with
  | none =>
    refine sg_when (et_B (ev_isi2 v1 kit_NoneType_tuple kit_NoneType_list)) (fun h => by cases h) fun _ => ?_
    refine sg_when (et_B (ev_isi v1 kit_NoneType_bool)) (fun h => by cases h) fun _ => ?_
    refine sg_when (et_B (ev_isi v1 kit_NoneType_int)) (fun h => by cases h) fun _ => ?_
    refine sg_when (et_B (ev_isi v1 kit_NoneType_str)) (fun h => by cases h) fun _ => ?_
    exact sg_ret (ev_andT (ev_isNo v1) (ev_isNo v0))
  | bool i =>
    refine sg_when (et_B (ev_isi2 v1 kit_bool_tuple kit_bool_list)) (fun h => by cases h) fun _ => ?_
    refine sg_when (et_B (ev_isi v1 kit_bool_bool)) (fun _ => ?_) (fun h => by cases h)
    refine sg_seqR (sg_ret (ev_andT (ev_isi v0 kit_bool_bool) (ev_is (ev_eqB v0 v1) ?_)))
    simp
  | int i =>
    refine sg_when (et_B (ev_isi2 v1 kit_int_tuple kit_int_list)) (fun h => by cases h) fun _ => ?_
    refine sg_when (et_B (ev_isi v1 kit_int_bool)) (fun h => by cases h) fun _ => ?_
    refine sg_when (et_B (ev_isi v1 kit_int_int)) (fun _ => ?_) (fun h => by cases h)
    refine sg_seqR (sg_ret (ev_andT (ev_isi v0 kit_int_int) (ev_andT (ev_not (ev_isi v0 kit_int_bool)) (ev_is (ev_eqI v0 v1) ?_))))
    simp
  | str i =>
    refine sg_when (et_B (ev_isi2 v1 kit_str_tuple kit_str_list)) (fun h => by cases h) fun _ => ?_
    refine sg_when (et_B (ev_isi v1 kit_str_bool)) (fun h => by cases h) fun _ => ?_
    refine sg_when (et_B (ev_isi v1 kit_str_int)) (fun h => by cases h) fun _ => ?_
    refine sg_when (et_B (ev_isi v1 kit_str_str)) (fun _ => ?_) (fun h => by cases h)
    refine sg_seqR (sg_ret (ev_andT (ev_isi v0 kit_str_str) (ev_is (ev_eqS v0 v1) ?_)))
    simp
  | dict i => cases n <;> cases hx
  | tuple xs =>
    cases n with
    | zero => cases hx
    | succ n =>
      unfold okD at hx
      obtain ⟨hl, ha⟩ := Bool.and_eq_true_iff.mp hx
      have hl := of_decide_eq_true hl
      refine sg_when (et_B (ev_isi2 v1 kit_tuple_tuple kit_tuple_list)) (fun _ => ?_) (fun h => by cases h)
      refine sg_seqR ?_
      refine sg_when (et_test (ev_neB (ev_isi v0 kit_tuple_tuple) (ev_isi v1 kit_tuple_tuple))) (fun h => by cases h) fun _ => ?_
      refine sg_when (et_orF (et_not (et_B (ev_isi2 v0 kit_tuple_tuple kit_tuple_list))) (et_is (et_test (ev_neI (ev_lenT v0) (ev_lenT v1))) (b' := false) (by simp))) (fun h => by cases h) fun _ => ?_
      refine sg_ret (ev_is (ev_all (bs := (rngD 0 ((xs.length : Int).toNat)).map fun _ => true) (ev_is (ev_lcM (src_rng1 (ea_cons (ev_lenT v1) ea_nil) ⟨by omega, by omega⟩) (fun _ => .bool true) (un_at rfl) (by rw [rngD_len]; omega) fun y hy => ?_) (congrArg PyData.list (all_true 0 _)))) (by rw [all_true2]))
      obtain ⟨i, hi, rfl⟩ := mem_rng hy
      rw [Int.toNat_natCast] at hi
      obtain ⟨z, hz, hz2⟩ := atI_rng hi
      refine ⟨_, tgt_name, ev_like (ev_ixT (ev_var rfl) (ev_var rfl) hz2) (ev_ixT (ev_var rfl) (ev_var rfl) hz2) rfl (okAll_get ha hz)⟩
  | list xs =>
    cases n with
    | zero => cases hx
    | succ n =>
      unfold okD at hx
      obtain ⟨hl, ha⟩ := Bool.and_eq_true_iff.mp hx
      have hl := of_decide_eq_true hl
      refine sg_when (et_B (ev_isi2 v1 kit_list_tuple kit_list_list)) (fun _ => ?_) (fun h => by cases h)
      refine sg_seqR ?_
      refine sg_when (et_test (ev_neB (ev_isi v0 kit_list_tuple) (ev_isi v1 kit_list_tuple))) (fun h => by cases h) fun _ => ?_
      refine sg_when (et_orF (et_not (et_B (ev_isi2 v0 kit_list_tuple kit_list_list))) (et_is (et_test (ev_neI (ev_lenL v0) (ev_lenL v1))) (b' := false) (by simp))) (fun h => by cases h) fun _ => ?_
      refine sg_ret (ev_is (ev_all (bs := (rngD 0 ((xs.length : Int).toNat)).map fun _ => true) (ev_is (ev_lcM (src_rng1 (ea_cons (ev_lenL v1) ea_nil) ⟨by omega, by omega⟩) (fun _ => .bool true) (un_at rfl) (by rw [rngD_len]; omega) fun y hy => ?_) (congrArg PyData.list (all_true 0 _)))) (by rw [all_true2]))
      obtain ⟨i, hi, rfl⟩ := mem_rng hy
      rw [Int.toNat_natCast] at hi
      obtain ⟨z, hz, hz2⟩ := atI_rng hi
      refine ⟨_, tgt_name, ev_like (ev_ixL (ev_var rfl) (ev_var rfl) hz2) (ev_ixL (ev_var rfl) (ev_var rfl) hz2) rfl (okAll_get ha hz)⟩
  ) only [↓qt_eq])
/-! ### a law's loop -/
end
end U


end
section
namespace U
open PySem PyProof.Rows L2 Evl
local macro_rules | `(tactic| walk_at "ev1") => `(tactic| first
  | exact ev_int | exact ev_bl | exact ev_str | exact ev_non | exact ev_var rfl | exact ea_nil | exact eo_none
  | with_reducible apply ev_ixDisp | with_reducible apply ev_fst | with_reducible apply ev_snd
  | with_reducible apply ev_add | with_reducible apply ev_sub | with_reducible apply ev_mul | with_reducible apply ev_fdiv | with_reducible apply ev_mod | with_reducible apply ev_pow
  | with_reducible apply ev_lt | with_reducible apply ev_le | with_reducible apply ev_gt | with_reducible apply ev_ge
  | with_reducible apply ev_eqI | with_reducible apply ev_neI
  | with_reducible apply ev_neg | with_reducible apply ev_subB | with_reducible apply ev_isNo | with_reducible apply ev_noNo
  | with_reducible apply ev_not | with_reducible apply et_test | with_reducible apply et_B | with_reducible apply et_not
  | with_reducible apply ev_abs | with_reducible apply ev_max | with_reducible apply ev_min | with_reducible apply ev_intB
  | with_reducible apply ev_gcd | with_reducible apply ev_frac | with_reducible apply ev_fadd | with_reducible apply ev_sign | with_reducible apply ev_cmpF
  | with_reducible apply ev_pull rfl
  | with_reducible apply ev_like
  | with_reducible apply ev_tup | with_reducible apply ev_lst | with_reducible apply ea_cons | with_reducible apply eo_some
  | with_reducible apply ev_order | exact ev_part rfl | exact ev_far rfl | exact ev_farPart rfl
  | (with_reducible show List.length _ ≤ 16000000; (simp; done)) | (with_reducible show (0 : Int) < _; decide) | (with_reducible show (_ : Int) < 1000000000000; decide) | (with_reducible show CPow _ _; (unfold CPow; decide)) | (with_reducible show CNz _ _; (unfold CNz; decide))
  | with_reducible apply sg_ret | with_reducible apply sg_asg | with_reducible apply sg_next)
local macro_rules | `(tactic| walk_at "ln") => `(tactic| first | walk_at "ev1" | with_reducible apply sg_seq)
section

noncomputable def isPart2 : PyData → PyData → Bool
  | .int a, .int b => decide (0 < b) && decide (gI a b = 1)
  | _, _ => false
noncomputable def isPart : PyData → Bool
  | .tuple [p, q] => isPart2 p q
  | _ => false
section
variable {K : Fg} {G : Gam} {s s1 s2 s' : Bag} {ta tb te : TE} {x y : PyData} {E : XK}
end
section
variable {K : Fg}
-- slots of is_whole: 0 thing
noncomputable def t_shared (K : Fg) : TS := (tSeq (tPar 0 1 (tCons (tCB rAbs (tCons (tVar 0) tNil)) (tCons (tCB rAbs (tCons (tVar 1) tNil)) tNil)))
  (tSeq (tWhile (tTest (tOp (rI0 fun i j => V.bl (decide (j < i))) (tVar 1) (tC (V.int 0)))) (tPar 0 1 (tCons (tVar 1) (tCons (tOp (rI CNz fun i j => V.int (i.fmod j)) (tVar 0) (tVar 1)) tNil))))
  (tRet (tCB rMx (tCons (tVar 0) (tCons (tC (V.int 1)) tNil))))))
-- slots of shared: 0 one, 1 other
theorem ln_shared : ∀ ds r, P_gcd ds r → ds.length = 2 := fun ds r h => by obtain ⟨p, q, rfl, _⟩ := h; rfl
theorem rd_shared {ds r} (h : P_gcd ds r) (b : Bag) : SG K (t_shared K) (frame 2 ds) b (.rt r b) := qt_of (by simp (disch := with_unfolding_all
  obtain ⟨x, y, rfl, rfl⟩ := h
  unfold t_shared
  obtain ⟨n, h1, h2⟩ := eu_end y.natAbs x.natAbs
  apply sg_is
  apply sg_seq
  · apply sg_par
    (repeat' walk_at "ev1")
  apply sg_seq
  · refine sg_while (s' := b) (fun i => [.d (.int (eu x.natAbs y.natAbs i).1), .d (.int (eu x.natAbs y.natAbs i).2)]) (fun _ => b) (fun _ => b) n ?_ rfl (fun i hi => ?_) (fun i hi => .inl ?_) ?_
    · show Wk [.d (.int (absI x)), .d (.int (absI y))] _
      rw [absI_nat, absI_nat]
      exact .refl _
    · refine et_is (by (repeat' walk_at "ev1")) ?_
      have := h2 i hi
      simp; omega
    · have hy := h2 i hi
      refine sg_is (sg_par (ea_cons (ev_var rfl) (ea_cons (ev_mod (ev_var rfl) (ev_var rfl) ?_) ea_nil))) ?_
      · show ((eu x.natAbs y.natAbs i).2 : Int) ≠ 0
        omega
      · rw [fmod_nat]
        rfl
    · refine et_is (by (repeat' walk_at "ev1")) ?_
      rw [h1]
      rfl
  · rw [h1]
    (repeat' walk_at "ev1")
  · show Out.rt (.int (maxI _ 1)) b = _
    rw [gN_max]
  ) only [↓qt_eq])
-- slots of is_part: 0 thing
-- slots of _law_wild: 0 _law_bag_here, 1 _law_things
end

end
end U
end
section
/-! Own exception classes over any of four built-in bases, their __init__ walked as a def. -/
namespace U
open PySem PySem.W PyProof.Rows L2 Evl
structure OxC (K : Fg) (C : Addr) (B newId initId : String) (bmB : List Value) : Prop where
  fb : ExcBaseFacts B newId initId bmB
  sf : StoreFacts B bmB "object.__setattr__" "object"
  ov : excOver K C bmB = true
  mkC : excInitIn K C bmB newId = true
  hd : hasDictIn K C = true
  sa : findIn K (.ref C) "__setattr__" = some (some (.builtin "object.__setattr__"))
  exC : subIn K (.ref C) (.type "BaseException") = some true
  tyC : typeIn K (.ref C) = some (.type "type")
  kC : keepIn K (.ref C) = true
section
open Builtin Builtin.ObjectAttr
variable {prog : Program} {w : World} {A : Around} {R : Result → Shared → Prop} {hp : Heap} {g : Array GenState} {d : Drawn} {t : Nat} {os : OsState} {K : Fg} {C x : Addr} {B newId initId : String} {bmB : List Value} {name : Str} {tk : Tok} {v : Value} {fv : Array Value}
theorem taker_none (h : findIn K (.ref C) name = some none) : takerIn K C name = some none := by
  unfold takerIn
  rw [h]
  rfl
theorem has_dict (h : hasDictIn K C = true) : ∃ cd, clsIn K C = some cd ∧ cd.hasDict = true := by
  unfold hasDictIn at h
  cases e : clsIn K C with
  | none => rw [e] at h; cases h
  | some cd => rw [e] at h; exact ⟨cd, rfl, h⟩
/-- the first field of an exception that has no dict yet -/
theorem osa_first (T : OxC K C B newId initId bmB) (X : K.In hp) (hx : hp.get? x = some { cls := .ref C, data := .fields fv }) (ha : findIn K (.ref C) name = some none)
    (hq : ∀ h' tk' dx, (∀ b o, b ≠ x → hp.get? b = some o → h'.get? b = some o) → hp.objs.size ≤ dx → dx ≠ x →
      h'.get? x = some { cls := .ref C, dict := some dx, data := .fields fv } → h'.Ns1 dx (fun y => if y = name then some v else none) → R (.ok (.ret .none)) ⟨h', g, d, tk', os⟩) :
    codeAny (model prog w) A (.call (.builtin "object.__setattr__") ⟨[.ref x, .str name tk, v], []⟩) R ⟨hp, g, d, t, os⟩ := qt_of (by simp (disch := with_unfolding_all
  have I : InstAt hp x { cls := .ref C, data := .fields fv } C none := ⟨hx, rfl, rfl, trivial⟩
  have hxs : x ≠ hp.objs.size := Nat.ne_of_lt (Heap.lt_size hx)
  obtain ⟨cd, hcd, hh⟩ := has_dict T.hd
  have hcls : Looks (model prog w) hp (classData C) cd := looks_clsIn X hcd
  refine osa_openX (s := ⟨hp, g, d, t, os⟩) T.sf X I T.ov (taker_none ha) fun b => ?_
  obtain ⟨nm, bs, mro, ns, qn, hdv, sn, sb, ab, col, del⟩ := cd
  dsimp only at hh
  subst hh
  show wpAny _ _ (storeInOwnDict (.ref x) (.ref C) (.str name tk) name v b) _ _ _
  unfold storeInOwnDict ownDictForStores
  cases b <;>
  repeat (first | with_reducible refine HandSPX.store_in_new ?_ ?_ | with_reducible refine wpAny_loadPart_at hx ?_ | with_reducible refine hcls.at ?_ | wp_step)
  case' false.h.h.h.hq.refine_1 => skip
  all_goals first
    | exact ⟨_, #[], _, (Heap.get?_update_ne _ _ _ _ hxs.symm).trans (Heap.get?_push_at rfl rfl), rfl, (fun e he => absurd he (by simp)), (fun _ => rfl)⟩
    | (intro h2 tk2 hn2 hs2
       have hx1 : (hp.push { cls := .type "dict", data := .dict #[] }).get? x = some ⟨.ref C, none, .fields fv, #[]⟩ := Heap.get?_push_of_some _ hx
       refine hq h2 tk2 hp.objs.size (fun b o hb ho => ?_) (Nat.le_refl _) hxs.symm ?_ hn2
       · have e1 := hs2.2 b (Nat.ne_of_lt (Heap.lt_size ho))
         exact e1.trans ((Heap.get?_update_ne _ _ _ _ hb).trans (Heap.get?_push_of_some _ ho))
       · have e1 := hs2.2 x hxs
         exact e1.trans (Heap.get?_update_self _ hx1 rfl))
  ) only [↓qt_eq])
/-- a further field -/
theorem osa_more {dx : Addr} {m0 : Str → Option Value} {nl : List Str} (T : OxC K C B newId initId bmB) (X : K.In hp) (hx : hp.get? x = some { cls := .ref C, dict := some dx, data := .fields fv }) (ha : findIn K (.ref C) name = some none)
    (hns : hp.Ns1 dx m0) (hw : Within m0 nl) (hz : nl.length ≤ 1000)
    (hq : ∀ h' tk', (∀ b o, b ≠ dx → hp.get? b = some o → h'.get? b = some o) → h'.Ns1 dx (fun y => if y = name then some v else m0 y) →
      R (.ok (.ret .none)) ⟨h', g, d, tk', os⟩) :
    codeAny (model prog w) A (.call (.builtin "object.__setattr__") ⟨[.ref x, .str name tk, v], []⟩) R ⟨hp, g, d, t, os⟩ := qt_of (by simp (disch := with_unfolding_all
  obtain ⟨oD, esD, epD, hoD, hdD, _⟩ := hns.count hw
  have I : InstAt hp x { cls := .ref C, dict := some dx, data := .fields fv } C (some oD) := ⟨hx, rfl, rfl, hoD⟩
  obtain ⟨cd, hcd, hh⟩ := has_dict T.hd
  have hcls : Looks (model prog w) hp (classData C) cd := looks_clsIn X hcd
  refine osa_openX (s := ⟨hp, g, d, t, os⟩) T.sf X I T.ov (taker_none ha) fun b => ?_
  obtain ⟨nm, bs, mro, ns, qn, hdv, sn, sb, ab, col, del⟩ := cd
  dsimp only at hh
  subst hh
  show wpAny _ _ (storeInOwnDict (.ref x) (.ref C) (.str name tk) name v b) _ _ _
  unfold storeInOwnDict ownDictForStores
  cases b <;>
  repeat (first | with_reducible refine OEX.store_in_old hns hw hz ?_ | with_reducible refine wpAny_loadPart_at hx ?_ | with_reducible refine hcls.at ?_ | wp_step)
  all_goals
    intro h2 tk2 hn2 hs2
    exact hq h2 tk2 (fun b o hb ho => (hs2.2 b hb).trans ho) hn2
  ) only [↓qt_eq])
end
section
variable {X : Cx} {pins : List (Addr × Obj)} {σ : St} {H : Hp} {s : Shared} {a C dx : Addr} {f : Str} {y : V} {u : Value} {fs : List (Str × V)} {Q : Unit → Shared → Prop} {E : Value → Shared → Prop} {A : Around} {B newId initId : String} {bmB : List Value}
theorem ox_new (T : OxC X.K C B newId initId bmB) (I : Inv X pins σ H s) (e : H a = some (exo a C none)) (hno : findIn X.K (.ref C) f = some none) (ry : RelV y u)
    (h : ∀ dx s', H dx = none → dx ≠ a → Inv X pins σ (upd (upd H dx (exd dx [(f, y)])) a (exo a C (some dx))) s' → Q () s') :
    wpAny (model X.prog X.w) A (setAttr (.ref a) f u) Q E s := qt_of (by simp (disch := with_unfolding_all
  obtain ⟨t1, ho⟩ := exo_at I.hok e
  obtain ⟨hp, g, d, t, os⟩ := s
  refine set_plain I.kIn (od := none) ⟨ho, rfl, rfl, trivial⟩ T.sa ?_
  refine osa_first T I.kIn ho hno fun h2 tk2 dx k dn dne hx hn => ?_
  have hnd : H dx = none := I.hok.fresh dn
  have nd : ∀ {b : Addr} {o : Obj}, hp.get? b = some o → b ≠ dx := fun {b o} q =>
    Nat.ne_of_lt (Nat.lt_of_lt_of_le (Heap.lt_size q) dn)
  have na : ∀ {b : Addr}, H b = none → b ≠ a := fun {b} n z => by
    subst z
    rw [e] at n
    cases n
  have un : Un X.fs [] H (upd (upd H dx (exd dx [(f, y)])) a (exo a C (some dx))) hp h2 := by
    refine ⟨fun b o q n _ _ => k b o (na n) q, fun b o q n _ _ => ⟨o.slots, k b o (na n) q⟩, fun b o q n _ => ?_, fun b o q _ => ?_, fun b xs q => ?_, fun b o v q => ?_, fun b ps q => ⟨#[], ?_⟩⟩
    · rw [upd_ne (na n), upd_ne (nd q)]
      exact n
    · by_cases hb : b = a
      · subst hb
        exact ⟨_, hx⟩
      · exact ⟨o, k b o hb q⟩
    · rw [upd_ne (at_ne e q exo_tup), upd_ne (ne_of_none q hnd)]
      exact q
    · rw [upd_ne (at_ne e q exo_frz), upd_ne (ne_of_none q hnd)]
      exact q
    · rw [upd_ne (at_ne e q exo_tbl), upd_ne (ne_of_none q hnd), q]
      simp
  refine h dx _ hnd dne (I.un (t' := tk2) un fun b o q => ?_)
  by_cases hb : b = a
  · subst hb
    rw [upd_same] at q
    cases q
    exact exo_ok hx
  rw [upd_ne hb] at q
  by_cases hd : b = dx
  · subst hd
    rw [upd_same] at q
    cases q
    exact exd_ok hn (relO_put (fs := []) ry fun _ => True.intro)
  rw [upd_ne hd] at q
  refine (I.hok b o q).stay (fun c v hc z => k c v ?_ z) (fun c hc => ?_) (fun c xs hc => ?_)
  · rcases hc with rfl | hc
    · exact hb
    · exact at_ne e hc exo_own
  · rw [upd_ne (at_ne e hc exo_own), upd_ne (ne_of_none hc hnd)]
    exact hc
  · rw [upd_ne (at_ne e hc exo_tup), upd_ne (ne_of_none hc hnd)]
    exact hc
  ) only [↓qt_eq])
theorem ox_old (T : OxC X.K C B newId initId bmB) (I : Inv X pins σ H s) (e : H a = some (exo a C (some dx))) (ed : H dx = some (exd dx fs)) (hl : fs.length ≤ 900) (hno : findIn X.K (.ref C) f = some none) (ry : RelV y u)
    (h : ∀ s', Inv X pins σ (upd H dx (exd dx ((f, y) :: fs))) s' → Q () s') :
    wpAny (model X.prog X.w) A (setAttr (.ref a) f u) Q E s := qt_of (by simp (disch := with_unfolding_all
  obtain ⟨t1, ho⟩ := exo_at I.hok e
  obtain ⟨mA, hns, rel⟩ := exd_at I.hok ed
  have hw := within_of rel
  obtain ⟨hp, g, d, t, os⟩ := s
  obtain ⟨oD, _, _, hoD, _, _⟩ := hns.count hw
  refine set_plain I.kIn (od := some oD) ⟨ho, rfl, rfl, hoD⟩ T.sa ?_
  refine osa_more T I.kIn ho hno hns hw (by rw [List.length_map]; omega) fun h2 tk2 k hn => ?_
  have hd : ∃ o, h2.get? dx = some o := by
    obtain ⟨o, _, _, e2, _⟩ := hn
    exact ⟨o, e2⟩
  exact h _ (I.write (t' := tk2) (x := dx) (e := dx) (by rw [ed]; exact True.intro) (.inl rfl) k hd (exd_ok hn (relO_put ry rel)))
  ) only [↓qt_eq])
/-- what is promised by an own exception's class -/
structure OxK (K : Fg) (C : Addr) : Prop where
  ex : ∃ B newId initId bmB, OxC K C B newId initId bmB
/-- self.f = e, upon an exception that is being made -/
noncomputable def tOx (K : Fg) (f : Str) (to te : TE) : TS := fun D σ H => te σ H fun y H1 => to σ H1 fun x H2 => ∃ a C : Addr, x = .ref a ∧ OxK K C ∧ findIn K (.ref C) f = some none ∧
  ((H2 a = some (exo a C none) ∧ ∀ dx, H2 dx = none → dx ≠ a → D.nx σ (upd (upd H2 dx (exd dx [(f, y)])) a (exo a C (some dx)))) ∨
    ∃ (dx : Addr) (fs : List (Str × V)), H2 a = some (exo a C (some dx)) ∧ H2 dx = some (exd dx fs) ∧ fs.length ≤ 900 ∧ D.nx σ (upd H2 dx (exd dx ((f, y) :: fs))))
/-- C(e, ..), C's own __init__ keeping sp -/
noncomputable def tMkX (C : Addr) (sp : Sp) (dvs : List V) (ta : TA) : St → Hp → XK → Prop := fun σ H Q => ta σ H fun vs H1 => vs.length ≤ 1000 ∧ ∀ a, H1 a = none →
  sp (.ref a :: (vs ++ dvs)) (upd H1 a (exo a C none)) (fun v H2 => v = .non ∧ ∃ (d : Addr) (fs : List (Str × V)), H2 a = some (exo a C (some d)) ∧ H2 d = some (exd d fs) ∧ H1 d = none ∧
    Q (.ref C) (some d) (upd (del H2 a) d (.xd fs))) (fun _ _ _ => False)
end
section
variable {X : Cx} {o e : Expr} {es : List Expr} {to te : TE} {ta : TA} {f : Str} {p p' p1 p2 pos : Pos}
theorem ps_ox (ho : PE X o to) (he : PE X e te) (hs : swapsWith e (some (.Attribute o f p')) pos.line X.env = pure false := by rfl) :
    PS X (.Assign [.Attribute o f p'] e pos) (tOx X.K f to te) := by
  refine ⟨fun pins s σ H D I h => ?_⟩
  refine plainObj_wpAny_Assign_Attribute (thn (he.run pins s σ H _ I h) fun v s1 hh => ?_) hs
  obtain ⟨y, H1, I1, r1, q1⟩ := hh
  refine thn (ho.run pins s1 σ H1 _ I1 q1) fun u s2 hh => ?_
  obtain ⟨x, H2, I2, r2, a, C, ex, T, hno, q⟩ := hh
  subst ex
  obtain rfl : u = Value.ref a := r2
  obtain ⟨B, n1, n2, bm, T⟩ := T.ex
  rcases q with ⟨ea, q⟩ | ⟨dx, fs, ea, ed, hl, q⟩
  · exact ox_new T I2 ea hno r1 fun dx s' n ne J => ⟨σ, _, J, q dx n ne⟩
  · exact ox_old T I2 ea ed hl hno r1 fun s' J => ⟨σ, _, J, q⟩
/-- the call of the class, once the arguments are there -/
theorem made_ox {CX : CXT} {C fI : Addr} {k : Nat} {fd : FuncData} {ps : List Str} {sp : Sp} {ds : List Value} {dvs vs : List V} {us : List Value} {pins : List (Addr × Obj)} {σ : St} {H : Hp} {s : Shared} {Q : XK} (T : OxK X.K C)
    (iC : findIn X.K (.ref C) "__init__" = some (some (.ref fI))) (tI : typeIn X.K (.ref fI) = some (.type "function")) (F1 : FnOk X.prog X.w X.K X.mg X.base CX k fI fd ps sp) (hr : Room (k + 1) X.A) (hb : Binds X.K fd ps ds) (hd : Vals dvs ds)
    (hx : Passes CX X (fun _ _ _ => False)) (I : Inv X pins σ H s) (r1 : Vals vs us) (hz : vs.length ≤ 1000)
    (h : ∀ a, H a = none → sp (.ref a :: (vs ++ dvs)) (upd H a (exo a C none)) (fun v H2 => v = .non ∧ ∃ (d : Addr) (fs : List (Str × V)), H2 a = some (exo a C (some d)) ∧ H2 d = some (exd d fs) ∧ H d = none ∧
      Q (.ref C) (some d) (upd (del H2 a) d (.xd fs))) (fun _ _ _ => False)) :
    wpAny (model X.prog X.w) X.A (call (.ref C) us) (MkP X pins σ Q) X.xe s := qt_of (by simp (disch := with_unfolding_all
  obtain ⟨B, n1, n2, bm, T⟩ := T.ex
  obtain ⟨hp, g, dr, tk, os⟩ := s
  obtain ⟨nm, N', qn, bs, bm', hdct, sn, sub, ab, col, dd, k0, k1, k2, k3, k5, hC, hT⟩ := excInit_of I.kIn T.mkC
  have hsz : hp.objs.size ≤ hp.objs.size + 1 := Nat.le_succ _
  have hn : H (hp.objs.size + 1) = none := I.hok.fresh hsz
  have hq := h (hp.objs.size + 1) hn
  have kk : ∀ b o, hp.get? b = some o → ((hp.push (kdv_tup us)).push (HandSPX.excO C hp.objs.size)).get? b = some o := fun b o e =>
    Heap.get?_push_of_some _ (Heap.get?_push_of_some _ e)
  have hget : ((hp.push (kdv_tup us)).push (HandSPX.excO C hp.objs.size)).get? (hp.objs.size + 1) = some (HandSPX.excO C hp.objs.size) := by heap_get
  have I2 := I.laid (t' := tk) (a := hp.objs.size + 1) (o := exo (hp.objs.size + 1) C none) (h' := (hp.push (kdv_tup us)).push (HandSPX.excO C hp.objs.size)) kk hsz (exo_ok hget)
  have r2 : Vals (V.ref (hp.objs.size + 1) :: (vs ++ dvs)) (Value.ref (hp.objs.size + 1) :: (us ++ ds)) := .cons rfl (r1.append hd)
  have hl : (Value.ref (hp.objs.size + 1) :: us ++ ds).length = ps.length := by
    rw [← F1.len _ _ _ _ hq]
    exact r2.length.symm
  have hus : us.length ≤ sizeLine := by
    rw [← Paired.length r1, sizeLine_eq]
    omega
  refine wpAny_call (HandSPX.call_own T.fb hT hC (looks_findIn I.kIn iC) (fun self => bind_fn I.kIn self tI) hus ?_)
  refine codeAny_mono (F1.run _ X.stack _ _ ⟨Value.ref (hp.objs.size + 1) :: us, []⟩ (Value.ref (hp.objs.size + 1) :: (us ++ ds)) _ _ (fun _ _ _ => False) (hr.make C us []) (I2.env0.make C us []) (hb _ _ I2.kIn hl) r2 hq) fun r s' hq' => ?_
  cases r with
  | error er => exact hx pins σ _ _ er s' I2 hq'
  | ok fl =>
    cases fl with
    | ret u =>
      obtain ⟨v, H2, os2, bare2, un2, hok2, rv, ev, d, fs, ea, ed, hd1, q2⟩ := hq'
      subst ev
      obtain ⟨h2, g2, d2, t2, os'⟩ := s'
      exact ⟨rv, mk_end (raises_own T.exC T.tyC) I hsz kk un2 hok2 os2 bare2 ea ed hd1 q2⟩
    | next => exact False.elim hq'
    | brk => exact False.elim hq'
    | cont => exact False.elim hq'
  ) only [↓qt_eq])
theorem pmk_ox {CX : CXT} {x : Str} {C fI : Addr} {k : Nat} {fd : FuncData} {ps : List Str} {sp : Sp} {ds : List Value} {dvs : List V} (T : OxK X.K C) (kC : keepIn X.K (.ref C) = true)
    (iC : findIn X.K (.ref C) "__init__" = some (some (.ref fI))) (tI : typeIn X.K (.ref fI) = some (.type "function")) (F1 : FnOk X.prog X.w X.K X.mg X.base CX k fI fd ps sp) (hr : Room (k + 1) X.A) (hb : Binds X.K fd ps ds) (hd : Vals dvs ds)
    (hx : Passes CX X (fun _ _ _ => False)) (hg : Gl X x) (hm : X.mg x = some (.ref C)) (ha : PA X (e :: es) ta) (hdb : (x == ("__debug__" : Str)) = false := by decide)
    (he : starEach (e :: es) X.env = (false, eval e X.env) :: starEach es X.env := by rfl) (hpl : (backTo pos (starEach es X.env)).any (·.1) = false := by rfl) :
    PMk X (.Call (.Name x p) (e :: es) [] pos) (tMkX C sp dvs ta) := by
  intro pins s σ H Q I h
  refine wpAny_Call_Name_kw (ld_glob I hg hm ?_ hdb)
  refine callWith_K (h₀ := X.base) I.ok.mod.kin kC (thn (ha.run pos pins s σ H _ I h) fun us s1 hh => ?_) he hpl
  obtain ⟨vs, H1, I1, r1, hz, q1⟩ := hh
  exact ⟨I1.kIn, made_ox T iC tI F1 hr hb hd hx I1 r1 hz q1⟩
end
end U

end
section
/-! Raising, over data: promises of defs that may raise, judgements of what raises, try .. except .. as. -/
namespace U
open PySem PyProof.Rows L2 Evl
/-- an exception: its class's name, its fields -/
structure Xw where
  cls : Str
  fs : List (Str × V)
noncomputable abbrev Cs := Str → Addr
section
variable {K : Fg} {cs : Cs} {W : WX} {G G' G1 G2 : Gam} {s s1 s2 s3 s' : Bag} {ta tb tc te : TE} {t u : TT} {x y z : PyData} {tu tw tz : TS} {o : Out} {e : Xw}
/-! ### raise C(..) -/
/-- what an own exception's __init__ promises: its fields by its arguments -/
noncomputable def spIn (K : Fg) (nm : List Str) (g : List V → Option (List (Str × V))) : Sp := fun vs H Q _ => ∃ (a C : Addr) (ws : List V) (fs : List (Str × V)), vs = .ref a :: ws ∧ H a = some (exo a C none) ∧ OxK K C ∧ (∀ n ∈ nm, PySem.W.findIn K (.ref C) n = some none) ∧ g ws = some fs ∧
  ∀ d H', H d = none → H' a = some (exo a C (some d)) → H' d = some (exd d fs) → (∀ b, b ≠ a → b ≠ d → H' b = H b) → Q .non H'
noncomputable def tRaiseX (C : Addr) (sp : Sp) (dvs : List V) (ta : TA) (W : WX) : TS := fun _ σ H => tMkX C sp dvs ta σ H fun cls d H' => W cls d σ H'
theorem mk_read {C : Addr} {nm : List Str} {g : List V → Option (List (Str × V))} {dvs : List V} {ta : TA} {σ : St} {H : Hp} {Q : XK} {fs : List (Str × V)} (ox : OxK K C) (hn : ∀ n ∈ nm, PySem.W.findIn K (.ref C) n = some none)
    (h : ta σ H fun vs H1 => vs.length ≤ 1000 ∧ g (vs ++ dvs) = some fs ∧ ∀ d, H1 d = none → Q (.ref C) (some d) (upd H1 d (.xd fs))) (mono : ∀ (Q1 Q2 : List V → Hp → Prop), (∀ vs H1, Q1 vs H1 → Q2 vs H1) → ta σ H Q1 → ta σ H Q2) : tMkX C (spIn K nm g) dvs ta σ H Q := by
  refine mono _ _ (fun vs H1 hq => ?_) h
  obtain ⟨hl, hg, q⟩ := hq
  refine ⟨hl, fun a ha => ⟨a, C, vs ++ dvs, fs, rfl, upd_same, ox, hn, hg, fun d H2 hd h1 h2 h3 => ?_⟩⟩
  have hda : d ≠ a := fun z => by rw [z, upd_same] at hd; cases hd
  rw [upd_ne hda] at hd
  refine ⟨rfl, d, fs, h1, h2, hd, ?_⟩
  have e : upd (del H2 a) d (.xd fs) = upd H1 d (.xd fs) := by
    funext b
    by_cases hb : b = d
    · rw [hb, upd_same, upd_same]
    · rw [upd_ne hb, upd_ne hb]
      by_cases ha2 : b = a
      · rw [ha2, del_same, ha]
      · rw [del_ne ha2, h3 b ha2 hb, upd_ne ha2]
  rw [e]
  exact q d hd
end
section
variable {Pg : Program} {w : World} {K : Fg} {mg : Str → Option Value} {base : Heap} {cs : Cs}
/-- a def's own wish -/
noncomputable abbrev WD (E : XK) : WX := fun cls d _ H => E cls d H
end
/-! ### try .. except C as why -/
section
variable {K : Fg} {cs : Cs} {G G' G1 : Gam} {s s1 s' : Bag} {x : PyData} {e : Xw}
noncomputable def tTryAs (K : Fg) (c : Value) (i : Nat) (tb : WX → TS) (ts : Addr → Value → Option Addr → TS) : TS := fun D σ H => tb (wAs K c i ts (fun _ _ _ _ => False) D) D σ H
end
end U

end
section
/-! Defs with defaults and keyword-only parameters; the refusals' own __init__. -/
namespace U
open PySem PyProof.Rows L2 Evl
section
variable {Pg : Program} {w : World} {K : Fg} {mg : Str → Option Value} {base : Heap} {cs : Cs}
/-- all given though there are defaults -/
theorem binds_all {x qual : Str} {params : Arguments} {body : List Stmt} {scope : Scope} {dvs : List V} {kws : List (Str × V)} {f : Addr} {fd : FuncData} {ps : List Str} (F : FunD K x qual params body scope dvs kws f fd) (hd : dvs ≠ [])
    (h : ∀ (T : Addr) (kV doc pm : Value) (an : Option Addr) (cdv ct : Value) (us its : List Value), us.length = ps.length → its.length = dvs.length →
      ∃ k, bindArgs (PySem.W.fnOf x qual params body scope (.ref T) kV doc pm an cdv ct) ⟨us, []⟩ = seqItems? (.ref T) >>= k ∧ k (some its.toArray) = pure (ps.zip us)) : Binds K fd ps [] := qt_of (by simp (disch := with_unfolding_all
  obtain ⟨ds, r, b⟩ := F.binds1 (ps := ps) ps.length dvs.length hd (by omega) (fun T kV doc pm an cdv ct us its l1 l2 => by
    obtain ⟨k, e1, e2⟩ := h T kV doc pm an cdv ct us its l1 l2
    refine ⟨k, e1, ?_⟩
    rw [e2, List.drop_eq_nil_of_le (by omega), List.append_nil])
  rw [List.drop_eq_nil_of_le (Nat.le_refl _)] at r
  cases r
  exact b
  ) only [↓qt_eq])
/-- keyword-only parameters, all given by name; the others by place -/
theorem kbinds_all {x qual : Str} {params : Arguments} {body : List Stmt} {scope : Scope} {kws : List (Str × V)} {f : Addr} {fd : FuncData} {ps ks : List Str} {n : Nat} (F : FunD K x qual params body scope [] kws f fd)
    (h : ∀ (kV doc pm : Value) (an : Option Addr) (cdv ct : Value) (us ws : List Value), us.length = n → ws.length = ks.length → bindArgs (PySem.W.fnOf x qual params body scope .none kV doc pm an cdv ct) ⟨us, ks.zip ws⟩ = pure (ps.zip (us ++ ws))) :
    KBn K fd ps n ks (fun us ws => us ++ ws) (fun vs zs => vs ++ zs) := qt_of (by simp (disch := with_unfolding_all
  obtain ⟨oc, od, dV, kV, doc, pm, an, cdv, ct, osl, rfl, lk, hcd, hD, hK⟩ := F.ex
  rcases hD with ⟨_, rfl⟩ | ⟨e, _⟩
  · exact ⟨fun s us ws X l1 l2 => .of_eq (h kV doc pm an cdv ct us ws l1 l2), fun r1 r2 => r1.append r2⟩
  · exact absurd rfl e
  ) only [↓qt_eq])
end
section
variable {K : Fg} {cs : Cs} {W : WX} {G G' G1 G2 : Gam} {s s1 s2 s3 s' : Bag} {ta tb tc te : TE} {t u : TT} {x y z : PyData}
end
/-! ### Flat -/
noncomputable abbrev W0 : WX := fun _ _ _ _ => False
end U

end
section
namespace U
open PySem PyProof.Rows L2 Evl
/-- what is told of an own exception class by its name -/
structure ClsF (K : Fg) (cs : Cs) (c : Str) (nm : List Str) : Prop where
  ox : OxK K (cs c)
  no : ∀ n ∈ nm, PySem.W.findIn K (.ref (cs c)) n = some none
section
variable {K : Fg}
theorem fund_mk {x qual : Str} {st : Stmt} {f T : Addr} {oc ot : Value} {od odt an : Option Addr} {osl osT : Array (Option Value)} {kV doc pm cdv ct : Value} {its : List Value} {n : Nat} {dvs : List V}
    (l : K.lookup f = some ⟨oc, od, .func (PySem.W.fnOf x qual (defArgs st) (defBody st) (defScope st) (.ref T) kV doc pm an cdv ct), osl⟩)
    (c : PySem.W.codeIn K cdv qual = true) (k : PySem.W.keepIn K (.ref f) = true) (t : K.lookup T = some ⟨ot, odt, .seq its.toArray n, osT⟩) (r : Vals dvs its) (hd : dvs ≠ []) :
    FunD K x qual (defArgs st) (defBody st) (defScope st) dvs [] f (PySem.W.fnOf x qual (defArgs st) (defBody st) (defScope st) (.ref T) kV doc pm an cdv ct) :=
  ⟨⟨oc, od, _, kV, doc, pm, an, cdv, ct, osl, rfl, l, c, .inr ⟨hd, T, _, its, n, rfl, t, rfl, r⟩, .inl rfl⟩, k⟩
theorem fundk_mk {x qual : Str} {st : Stmt} {f D : Addr} {oc : Value} {od an : Option Addr} {osl : Array (Option Value)} {doc pm cdv ct : Value} {kws : List (Str × V)}
    (l : K.lookup f = some ⟨oc, od, .func (PySem.W.fnOf x qual (defArgs st) (defBody st) (defScope st) .none (.ref D) doc pm an cdv ct), osl⟩)
    (c : PySem.W.codeIn K cdv qual = true) (k : PySem.W.keepIn K (.ref f) = true) (h : ∀ q ∈ kws, ∃ u, PySem.W.nsIn K D q.1 = some (some u) ∧ RelV q.2 u) :
    FunD K x qual (defArgs st) (defBody st) (defScope st) [] kws f (PySem.W.fnOf x qual (defArgs st) (defBody st) (defScope st) .none (.ref D) doc pm an cdv ct) :=
  ⟨⟨oc, od, _, _, doc, pm, an, cdv, ct, osl, rfl, l, c, .inl ⟨rfl, rfl⟩, .inr ⟨D, rfl, h⟩⟩, k⟩
/-- exmOne of own classes -/
theorem em_of {C : Addr} {cls : Value} {b : Bool} (h1 : PySem.W.subIn K (.ref C) (.type "BaseException") = some true) (hdct : PySem.W.hasDictIn K C = true) (ht : PySem.W.typeIn K (.ref C) = some (.type "type")) (h4 : PySem.W.subIn K cls (.ref C) = some b) : PySem.W.exmOne K cls (.ref C) = some b := PySem.W.exm_ref h1 hdct ht h4
end
end U

end
section
/-! Own exceptions whose __init__ calls the base class's own. -/
namespace U
open PySem PySem.W PyProof.Rows L2 Evl
/-- C.m(e, ..), C an own class, m a plain def of it -/
theorem pe_up {X : Cx} {CX : CXT} {k : Nat} {x m : Str} {C g : Addr} {mc : Value} {fd : FuncData} {ps : List Str} {sp : Sp} {E : XK} {ds : List Value} {dvs : List V} {e : Expr} {es : List Expr} {t : TA} {p pos apos : Pos} {pl : Sem Bool}
    (hg : Gl X x) (hm : X.mg x = some (.ref C)) (rd : readsIn X.K C mc = true) (ga : specialIn X.K (.ref C) "__getattribute__" = some (some (.builtin "type.__getattribute__"))) (fa : findCls X.K (.ref C) mc m = some (.val (.ref g)))
    (hk : keepIn X.K (.ref g) = true) (F : FnOk X.prog X.w X.K X.mg X.base CX k g fd ps sp) (hr : Room k X.A) (hb : Binds X.K fd ps ds) (hd : Vals dvs ds) (hx : Passes CX X E) (ha : PA X (e :: es) t) (hdb : (x == ("__debug__" : Str)) = false := by decide)
    (ht : eval (.Call (.Attribute (.Name x p) m apos) (e :: es) [] pos) X.env = (do
      let ov ← eval (.Name x p) X.env
      standAt apos.atName
      let (f, first) ← holding [ov] (getMethod ov m pl)
      callWith pos f first (backTo pos (starEach (e :: es) X.env)) (backToKw pos (keywordEach [] X.env))) := by rfl)
    (he : starEach (e :: es) X.env = (false, eval e X.env) :: starEach es X.env := by rfl) (hpl : (backTo pos (starEach es X.env)).any (·.1) = false := by rfl) :
    PE X (.Call (.Attribute (.Name x p) m apos) (e :: es) [] pos) (tCall sp dvs E t) := by
  refine ⟨fun pins s σ H Q I h => ?_⟩
  refine methodCall_KW (pl := pl) (ld_glob I hg hm ?_ hdb) ht
  refine method_cls I.kIn ga (cls_value I.kIn rd fa rfl ?_)
  show wpAny _ _ (callWith pos (.ref g) [] (backTo pos (starEach (e :: es) X.env)) []) _ _ _
  refine callWith_K (h₀ := X.base) I.ok.mod.kin hk (thn (ha.run pos pins _ σ H _ (I.tok _) h) fun us s1 hh => ?_) he hpl
  obtain ⟨vs, H1, I1, r, q⟩ := hh
  exact ⟨I1.kIn, run_fn F hr hb hd hx I1 r q⟩
/-- self.word = word -/
noncomputable abbrev gWd : List V → Option (List (Str × V)) := fun ws => match ws with
  | [v] => some [("word", v)]
  | _ => none
noncomputable def t_Wd (K : Fg) : TS := tOx K "word" (tVar 0) (tVar 1)
section
variable {Pg : Program} {w : World} {K : Fg} {mg : Str → Option Value} {base : Heap} {cs : Cs}
theorem okWd {st : Stmt} {qual : Str} {dvs : List V} {f : Addr} {fd : FuncData} {k : Nat} (F : FunD K "__init__" qual (defArgs st) (defBody st) (defScope st) dvs [] f fd) (S : FnScope ["self", "word"] ["self", "word"] (defScope st))
    (hb : ∀ (cdv : Value) (A : Around) (outer : List Env) (sh : Shared) (H : Hp) (E : XK), PSs (cxOf CX0 Pg w K mg base ["self", "word"] qual (defScope st) f cdv A outer sh H E) (defBody st) (t_Wd K)) : FnOk Pg w K mg base CX0 (k + 1) f fd ["self", "word"] (spIn K ["word"] gWd) := qt_of (by simp (disch := with_unfolding_all
  refine F.ok S (fun vs H Q E h => ?_) (fun cdv A outer sh H vs Q E hr h => ?_)
  · obtain ⟨a, C, ws, fs, rfl, _, _, _, hg, _⟩ := h
    match ws, hg with
    | [v], _ => rfl
  · obtain ⟨a, C, ws, fs, rfl, ha, ox, hn, hg, q⟩ := h
    match ws, hg with
    | [v], hg =>
      cases hg
      refine ⟨_, hb cdv A outer sh H E, ?_⟩
      refine ⟨v, rfl, .ref a, rfl, a, C, rfl, ox, hn _ (List.mem_singleton.mpr rfl), .inl ⟨ha, fun d hd hda => ?_⟩⟩
      exact q d _ hd upd_same (by rw [upd_ne hda, upd_same]) fun b h1 h2 => by rw [upd_ne h1, upd_ne h2]
  ) only [↓qt_eq])
end
end U

end
section
namespace U
open PySem PyProof.Rows L2 Evl
/-- the values of a module's constants -/
noncomputable abbrev Gs := Str → V
section
variable {K : Fg} {cs : Cs} {W : WX} {G G' G1 : Gam} {s s1 s2 s' : Bag} {ta tb te : TE} {x y : PyData} {e : Xw}
end
end U

end
section
namespace U
open PySem PySem.W PyProof.Rows L2 Evl
section
variable {prog : Program} {w : World} {A : Around} {E : Value → Shared → Prop} {s : Shared}
end
end U

end
section
/-! zip of two things, each a list or a tuple, strict or not. -/
namespace U
open PySem PySem.W PyProof.Rows L2 Evl
section
variable {prog : Program} {w : World} {A : Around} {E : Value → Shared → Prop} {s : Shared}
end
end U

end
section
/-! zip(a, b, strict=True) and zip(a, b): the end, the making. -/
namespace U
open PySem PySem.W PyProof.Rows L2 Evl
section
variable {prog : Program} {w : World} {A : Around} {E : Value → Shared → Prop} {s : Shared}
/-! ### the making -/
end
section
variable {prog : Program} {w : World} {A : Around} {E : Value → Shared → Prop} {s : Shared}
end
end U

end
section
namespace U
open PySem PySem.W PyProof.Rows L2 Evl
section
variable {prog : Program} {w : World} {A : Around} {E : Value → Shared → Prop} {s : Shared}
end
end U

end
section
namespace U
open PySem PySem.W PyProof.Rows L2 Evl
section
variable {prog : Program} {w : World} {A : Around} {E : Value → Shared → Prop} {s : Shared}
end
section
variable {M : Model} {A : Around} {E : Value → Shared → Prop} {s : Shared}
end
section
variable {X : Cx} {e e2 : Expr} {ta : TA} {p pos tpos kpos cpos : Pos} {elts : List Expr} {kk cn : Nat}
end
end U

end
section
/-! try with several clauses, each with a name -/
namespace U
open PySem PySem.Spec PyProof.Rows L2
noncomputable abbrev Hd := Value × Nat × (Addr → Value → Option Addr → TS)
section
variable {X : Cx} {body : List Stmt} {h₀ : ExceptHandler} {hds : List ExceptHandler} {l : List Hd} {pos : Pos} {tb : WX → TS} {Wout : WX}
end
end U

end
section
/-! enumerate of a list or a tuple. -/
namespace U
open PySem PySem.W PyProof.Rows L2 Evl
theorem meets_en1 {v : Value} {o : Obj} {H : Heap → Prop} (B : Begins v o H) :
    Meets (Builtin.«enumerate.__new__» ⟨[.type "enumerate", v], []⟩) (fun _ R s => H s.heap ∧
      R (.ok (.ret (.ref (s.heap.push o).objs.size))) { s with heap := (s.heap.push o).push { cls := .type "enumerate", data := .fields #[.none, .bool false, .ref s.heap.objs.size, rawInt 0, .none, .none] } }) :=
  .of_wp fun prog w A R s h => by
    obtain ⟨hp, g, d, tk, os⟩ := s; obtain ⟨h1, h⟩ := h
    have hsub := sub_enumerate
    have q1 : ∀ {A' : Around} {E : Value → Shared → Prop} {Q : Value → Shared → Prop}, Q (.ref hp.objs.size) ⟨hp.push o, g, d, tk, os⟩ → wpAny (model prog w) A' (pyIter v) Q E ⟨hp, g, d, tk, os⟩ :=
      fun q => B.iter prog w _ _ ⟨hp, g, d, tk, os⟩ _ h1 q
    wp_walk using q1
    refine wpAny_stack_any fun st => wpAny_pure ?_
    split
    · rename_i c _ _ _ _ _
      cases (c == Value.type "enumerate")
      · wp_walk using q1
        exact ⟨_, rfl, h⟩
      · wp_walk using q1
        exact ⟨_, rfl, h⟩
    · wp_walk using q1
      exact ⟨_, rfl, h⟩
section
variable {prog : Program} {w : World} {A : Around} {E : Value → Shared → Prop} {s : Shared}
theorem call_en1 {v : Value} {o : Obj} {H : Heap → Prop} {Q : Value → Shared → Prop} (B : Begins v o H) (h1 : H s.heap)
    (h : ∀ h', IsEnum h' (s.heap.objs.size + 1) s.heap.objs.size 0 .none → h'.get? s.heap.objs.size = some o → h'.objs.size = s.heap.objs.size + 2 →
      (∀ b o, s.heap.get? b = some o → h'.get? b = some o) → Q (.ref (s.heap.objs.size + 1)) { s with heap := h' }) :
    wpAny (model prog w) A (call (.type "enumerate") [v]) Q E s := qt_of (by simp (disch := with_unfolding_all
  refine callType_new F.called_enumerate (by decide) (F.typeCall_enumerate_1 _) (F.newCall_enumerate_1 _) (fun obj => F.args_object_init_2 obj _) F.entry_enumerate_new
    (meets_en1 B) ⟨h1, ?_⟩
  have hz : (s.heap.push o).objs.size = s.heap.objs.size + 1 := Heap.size_push ..
  show _ ∧ _
  rw [hz]
  have he : IsEnum ((s.heap.push o).push { cls := .type "enumerate", data := .fields #[.none, .bool false, .ref s.heap.objs.size, rawInt 0, .none, .none] }) (s.heap.objs.size + 1) s.heap.objs.size 0 .none := by
    have := Heap.get?_push_size (s.heap.push o) (o := { cls := .type "enumerate", data := .fields #[.none, .bool false, .ref s.heap.objs.size, rawInt 0, .none, .none] }) rfl
    rw [hz] at this; exact this
  refine ⟨⟨_, he, rfl⟩, h _ he (Heap.get?_push_of_some _ (Heap.get?_push_size _ B.free)) (by rw [Heap.size_push, hz]) fun b o x => Heap.get?_push_of_some _ (Heap.get?_push_of_some _ x)⟩
  ) only [↓qt_eq])
end
end U

end
section
/-! list comprehensions of two and three clauses. -/
namespace U
open PySem PySem.Spec PyProof.Rows L2
/-- what a clause's rest does to the list at D -/
noncomputable abbrev TCl := Addr → St → Hp → (Hp → Prop) → Prop
section
variable {X : Cx} {own : List Nat} {D : Addr}
end
section
variable {X : Cx}
end
/-! ### the clauses' own loops -/
section
variable {prog : Program} {w : World} {A : Around} {env : Env} {D : Addr} {c elt t0 i0 i1 : Expr} {i : Nat} {ifs0 : List Expr}
end
section
variable {elt t0 i0 t1 i1 t2 i2 : Expr} {ifs0 ifs1 ifs2 : List Expr} {scope : Scope} {pos : Pos}
variable {prog : Program} {w : World} {A : Around} {env : Env} {D : Addr}
end
/-! ### the rules for use -/
section
variable {X : Cx} {elt tg iter tg1 iter1 tg2 iter2 : Expr} {ifs ifs1 ifs2 : List Expr} {scope : Scope} {own : List (Str × Nat)} {pos : Pos} {wi wi1 wi2 : TI} {g g1 g2 : TG} {tt tt1 tt2 : TT} {te : TE} {vs1 vs2 : List Nat}
end
end U

end
section
/-! first, *rest = a list or a tuple. -/
namespace U
open PySem PySem.W PyProof.Rows L2 Evl
section
variable {prog : Program} {w : World} {A : Around} {E : Value → Shared → Prop} {s : Shared}
end
/-! ### a call with keywords that may raise -/
section
variable {X : Cx} {CX : CXT} {k n : Nat} {f : Addr} {fd : FuncData} {ps ks : List Str} {sp : Sp} {E : St → XK} {x : Str} {p pos : Pos} {e : Expr} {es : List Expr} {kws : List Keyword} {t tk : TA} {g : List Value → List Value → List Value} {gV : List V → List V → List V}
end
end U

end
section
namespace U
open PySem PyProof.Rows L2 Evl
section
variable {X : Cx}
end
end U

end
section
namespace U
open PySem PyProof.Rows L2 Evl
section
variable {X : Cx}
end
end U

end
section
namespace U
open PySem PyProof.Rows L2 Evl
section
variable {X : Cx} {pos : Pos}
end
end U

end
section
/-! A lambda with parameters, handed to a def as its last argument: g(e, lambda y: body), what it captures stays while g runs. -/
namespace U
open PySem PySem.Spec PyProof.Rows L2 Evl LamX
section
variable {X : Cx} {pins : List (Addr × Obj)} {σ : L2.St} {H : Hp} {s : Shared}
end
/-! ### the body's names -/
section
variable {X : Cx} {pins : List (Addr × Obj)} {σ : L2.St} {H HZ : Hp} {s s1 : Shared} {ps : List Str} {sc : Scope}
end
section
variable {X : Cx} {pins : List (Addr × Obj)} {σ : L2.St} {H : Hp} {s : Shared} {ps : List Str} {sc : Scope}
end
section
variable {X : Cx}
end
end U

end
section
/-! The second data layer: what is wanted of a reading, and what suffices for it. Slots hold data, things of one's own, or the bag. -/
namespace U.N
open PySem L2 Evl
/-- what a frame may change beside its own: the bag, and tables of code objects (each with the name that these bear) -/
structure Bt where
  bag : Option (Addr × Addr)
  T : List (Addr × Str)
noncomputable abbrev noB : Bt := ⟨none, []⟩
noncomputable abbrev bgB (b c : Addr) : Bt := ⟨some (b, c), []⟩
noncomputable def InB (B : Bt) (a : Addr) : Prop := U.InB B.bag a ∨ ∃ p ∈ B.T, a = p.1
/-- all but that stays -/
noncomputable def Xb (B : Bt) (H H2 : Hp) : Prop := ∀ a o, H a = some o → ¬ InB B a → H2 a = some o
theorem Xb.refl {B : Bt} {H : Hp} : Xb B H H := fun _ _ h _ => h
theorem Xb.trans {B : Bt} {H H1 H2 : Hp} (a : Xb B H H1) (b : Xb B H1 H2) : Xb B H H2 := fun p o h n => b p o (a p o h n) n
theorem Xb.of {B : Bt} {H H2 : Hp} (e : Ex H H2) : Xb B H H2 := fun p o h _ => e p o h
/-- a thing of one's own: what it holds, and how it stands in the heap -/
structure Own where
  flat : List PyData
  obj : Addr → List V → HO
/-- a list of one's own -/
noncomputable def ol (xs : List PyData) : Own := ⟨xs, fun _ vs => .lst vs⟩
inductive En where
  | un
  | d (x : PyData)
  | ow (c : Own)
  | bag
  /-- a caught exception: itself, its dict, its fields -/
  | xc (a d : Addr) (fs : List (Str × V))
  /-- a thing that stays as it is -/
  | fz (c : Own)
  /-- any value, known as it is -/
  | vl (v : V)
  /-- a lambda, its code object and that one's name; what it captured -/
  | fn (f d : Addr) (q : Str) (us : List V) (ds : List PyData)
  /-- a mark: these tables may grow -/
  | tb (T : List (Addr × Str))
  /-- a value of which something is known, and stays so -/
  | rv (ρ : V → Hp → Prop)
noncomputable abbrev Gam := List En
noncomputable def Zs (W : Addr → Prop) (B : Bt) (ad : Nat → Addr) (G : Gam) : Addr → Prop := fun a => W a ∨ (∃ i c, G[i]? = some (.ow c) ∧ a = ad i) ∨ InB B a
noncomputable def Slot (K : Fg) (B : Bt) (ad : Nat → Addr) (H : Hp) (Z : Addr → Prop) (i : Nat) (o : Option V) : En → Prop
  | .un => True
  | .d x => ∃ v, o = some v ∧ Dp K (less H Z) v x
  | .ow c => o = some (.ref (ad i)) ∧ ∃ vs, H (ad i) = some (c.obj (ad i) vs) ∧ DpAll K (less H Z) vs c.flat
  | .bag => ∃ b c, B.bag = some (b, c) ∧ o = some (.ref b)
  | .xc a d fs => o = some (.ref a) ∧ less H Z d = some (.xd fs)
  | .fz c => ∃ a vs, o = some (.ref a) ∧ less H Z a = some (c.obj a vs) ∧ DpAll K (less H Z) vs c.flat
  | .vl v => o = some v
  | .fn f d q us ds => o = some (.ref f) ∧ less H Z d = some (LamX.CodeO d q) ∧ DpAll K (less H Z) us ds
  | .tb T => B.T = T
  | .rv ρ => ∃ v, o = some v ∧ ∀ M, Ex (less H Z) M → ρ v M
noncomputable def BagOk (H : Hp) (B : Bt) : Prop := (∃ s : Bag, s.ok ∧ BagAt H B.bag s) ∧ ∀ p ∈ B.T, ∃ o, H p.1 = some o
theorem BagOk.xb {H H2 : Hp} {B : Bt} (h : BagOk H B) (e : ∀ a, InB B a → H2 a = H a) : BagOk H2 B := qt_of (by simp (disch := with_unfolding_all
  obtain ⟨⟨s, ok, h⟩, t⟩ := h
  refine ⟨⟨s, ok, ?_⟩, fun p hp => by rw [e _ (.inr ⟨p, hp, rfl⟩)]; exact t p hp⟩
  obtain ⟨bg, T⟩ := B
  rcases bg with _ | ⟨b, c⟩
  · trivial
  · have h : H b = _ ∧ _ := h
    exact ⟨(e b (.inl ⟨b, c, rfl, .inl rfl⟩)).trans h.1, (e c (.inl ⟨b, c, rfl, .inr rfl⟩)).trans h.2.1, h.2.2⟩
  ) only [↓qt_eq])
theorem BagOk.there {H : Hp} {B : Bt} (h : BagOk H B) {a : Addr} (z : InB B a) : ∃ o, H a = some o := by
  obtain ⟨⟨s, ok, h⟩, t⟩ := h
  rcases z with z | ⟨p, hp, rfl⟩
  · exact bag_there h z
  · exact t p hp
theorem BagOk.ext {H H2 : Hp} {B : Bt} (h : BagOk H B) (e : Ex H H2) : BagOk H2 B := h.xb fun a z => by
  obtain ⟨o, q⟩ := h.there z
  rw [q, e _ _ q]
theorem BagOk.upd {H : Hp} {B : Bt} (h : BagOk H B) {p : Addr} {o : HO} (n : ¬ InB B p) : BagOk (upd H p o) B := h.xb fun a z => upd_ne fun e => n (e ▸ z)
/-- a table of code objects: those that it tells bear the name -/
noncomputable def TabZ (H : Hp) (Z : Addr → Prop) (p : Addr × Str) : Prop := ∃ ps : Array Value, H p.1 = some (.tbl ps) ∧ TriplesOk ps.toList ∧ ∀ (l : Pos) (cv : Value), codeAmong l ps.toList = some cv → ∃ c, cv = .ref c ∧ less H Z c = some (LamX.CodeO c p.2)
theorem TabZ.mono {H H2 : Hp} {Z Z' : Addr → Prop} {p : Addr × Str} (h : TabZ H Z p) (x : Ex (less H Z) (less H2 Z')) (y : H2 p.1 = H p.1) : TabZ H2 Z' p := by
  obtain ⟨ps, h1, h2, h3⟩ := h
  exact ⟨ps, y.trans h1, h2, fun l cv hc => by
    obtain ⟨c, e, g⟩ := h3 l cv hc
    exact ⟨c, e, x _ _ g⟩⟩
theorem TabZ.there {H : Hp} {Z : Addr → Prop} {p : Addr × Str} (h : TabZ H Z p) : ∃ o, H p.1 = some o := let ⟨_, h1, _⟩ := h; ⟨_, h1⟩
/-- the state of a def's frame: slots, heap, bag, against the heap H0 at its entry -/
structure Sta (K : Fg) (W : Addr → Prop) (B : Bt) (ad : Nat → Addr) (H0 H : Hp) (σ : St) (G : Gam) : Prop where
  len : σ.length = G.length
  at_ : ∀ i e, G[i]? = some e → ∃ o, σ[i]? = some o ∧ Slot K B ad H (Zs W B ad G) i o e
  inj : ∀ i j c c', G[i]? = some (.ow c) → G[j]? = some (.ow c') → ad i = ad j → i = j
  sep : ∀ i c, G[i]? = some (.ow c) → H0 (ad i) = none ∧ ¬ InB B (ad i) ∧ ¬ W (ad i)
  base : ∀ a o, H0 a = some o → ¬ InB B a → H a = some o
  bag : BagOk H B
  wd : ∀ a, W a → ∃ o, H a = some o
  tab : ∀ p ∈ B.T, TabZ H (Zs W B ad G) p
section
variable {K : Fg} {W : Addr → Prop} {B : Bt} {ad : Nat → Addr} {H0 H H2 : Hp} {σ : St} {G G' : Gam}
theorem Slot.mono {Z Z' : Addr → Prop} {i : Nat} {o : Option V} {e : En} (h : Slot K B ad H Z i o e) (x : Ex (less H Z) (less H2 Z')) (y : ∀ c u, e = .ow c → H (ad i) = some u → H2 (ad i) = some u) : Slot K B ad H2 Z' i o e := qt_of (by simp (disch := with_unfolding_all
  cases e with
  | un => trivial
  | d d => obtain ⟨v, e, h⟩ := h; exact ⟨v, e, dp_mono x h⟩
  | ow c => obtain ⟨e, vs, h1, h2⟩ := h; exact ⟨e, vs, y c _ rfl h1, dpa_mono x h2⟩
  | bag => exact h
  | xc a d fs => exact ⟨h.1, x _ _ h.2⟩
  | fz c => obtain ⟨a, vs, e, h1, h2⟩ := h; exact ⟨a, vs, e, x _ _ h1, dpa_mono x h2⟩
  | vl v => exact h
  | fn f d q us ds => exact ⟨h.1, x _ _ h.2.1, dpa_mono x h.2.2⟩
  | tb T => exact h
  | rv ρ => obtain ⟨v, e, h⟩ := h; exact ⟨v, e, fun M m => h M fun a o q => m a o (x a o q)⟩
  ) only [↓qt_eq])
theorem InB.tab {p : Addr × Str} (hp : p ∈ B.T) : InB B p.1 := .inr ⟨p, hp, rfl⟩
theorem Sta.there (S : Sta K W B ad H0 H σ G) (a : Addr) (z : Zs W B ad G a) : ∃ o, H a = some o := by
  rcases z with z | ⟨i, c, g, rfl⟩ | z
  · exact S.wd _ z
  · obtain ⟨_, _, _, vs, h1, _⟩ := S.at_ i _ g
    exact ⟨_, h1⟩
  · exact S.bag.there z
/-- everything stays -/
theorem Sta.ext (S : Sta K W B ad H0 H σ G) (e : Ex H H2) : Sta K W B ad H0 H2 σ G where
  len := S.len
  at_ := fun i en h => by
    obtain ⟨o, h1, h2⟩ := S.at_ i en h
    exact ⟨o, h1, h2.mono (less_mono e) fun _ _ _ q => e _ _ q⟩
  inj := S.inj
  sep := S.sep
  base := fun a o h n => e _ _ (S.base a o h n)
  bag := S.bag.ext e
  wd := fun a z => by
    obtain ⟨o, h⟩ := S.wd a z
    exact ⟨o, e _ _ h⟩
  tab := fun p hp => (S.tab p hp).mono (less_mono e) (by
    obtain ⟨ps, h, _⟩ := S.tab p hp
    rw [h]; exact e _ _ h)
/-- all but the bag stays -/
theorem Sta.drawn (S : Sta K W B ad H0 H σ G) (e : Xb B H H2) (b : BagOk H2 B) (t : ∀ p ∈ B.T, TabZ H2 (Zs W B ad G) p) : Sta K W B ad H0 H2 σ G where
  len := S.len
  at_ := fun i en h => by
    obtain ⟨o, h1, h2⟩ := S.at_ i en h
    refine ⟨o, h1, h2.mono (less_but fun a o q z => e a o q fun y => z (.inr (.inr y))) fun c vs q q2 => ?_⟩
    subst q
    exact e _ _ q2 (S.sep i c h).2.1
  inj := S.inj
  sep := S.sep
  base := fun a o h n => e a o (S.base a o h n) n
  bag := b
  wd := fun a z => by
    by_cases hb : InB B a
    · exact b.there hb
    · obtain ⟨o, h⟩ := S.wd a z
      exact ⟨o, e _ _ h hb⟩
  tab := t
theorem Xb.lz {H H2 : Hp} (a : Xb B H H2) : Ex (less H (Zs W B ad G)) (less H2 (Zs W B ad G)) := less_but fun p o h n => a p o h fun z => n (.inr (.inr z))
/-- a bag's call leaves the tables -/
theorem Sta.tabB {b c : Addr} (S : Sta K W B ad H0 H σ G) (hb : B.bag = some (b, c)) (e : Xb (bgB b c) H H2) (k : BagOk H2 (bgB b c)) : Xb B H H2 ∧ BagOk H2 B ∧ ∀ p ∈ B.T, TabZ H2 (Zs W B ad G) p := qt_of (by simp (disch := with_unfolding_all
  have x : Xb B H H2 := fun a o h n => e a o h fun z => n (by
    rcases z with z | ⟨p, hp, _⟩
    · exact .inl (by rw [hb]; exact z)
    · cases hp)
  have st : ∀ p ∈ B.T, H2 p.1 = H p.1 := fun p hp => by
    obtain ⟨ps, h, _⟩ := S.tab p hp
    rw [h]
    refine e _ _ h fun z => ?_
    rcases z with ⟨b', c', z, y⟩ | ⟨p, hp, _⟩
    · cases z
      obtain ⟨⟨s, _, k⟩, _⟩ := S.bag
      rw [hb] at k
      rcases y with y | y
      · rw [y, k.1] at h; cases h
      · rw [y, k.2.1] at h; cases h
    · cases hp
  refine ⟨x, ⟨by rw [hb]; exact k.1, fun p hp => ?_⟩, fun p hp => (S.tab p hp).mono (less_but fun a o q z => x a o q fun y => z (.inr (.inr y))) (st p hp)⟩
  rw [st p hp]
  exact (S.tab p hp).there
  ) only [↓qt_eq])
theorem Zs.set_of {i : Nat} {e : En} (he : ∀ c, e ≠ .ow c) {a : Addr} (h : Zs W B ad (G.set i e) a) : Zs W B ad G a := by
  rcases h with h | ⟨j, c, h, r⟩ | h
  · exact .inl h
  · rcases get_set h with ⟨rfl, _, e'⟩ | ⟨_, h⟩
    · exact absurd e' (he c)
    · exact .inr (.inl ⟨j, c, h, r⟩)
  · exact .inr (.inr h)
/-- a slot gets a thing that is not of one's own -/
theorem Sta.set (S : Sta K W B ad H0 H σ G) {i : Nat} {e : En} {o : Option V} (he : ∀ c, e ≠ .ow c) (h : Slot K B ad H (Zs W B ad G) i o e) : Sta K W B ad H0 H (σ.set i o) (G.set i e) where
  len := by rw [List.length_set, List.length_set]; exact S.len
  at_ := fun j en g => by
    rcases get_set g with ⟨rfl, l, rfl⟩ | ⟨z, g⟩
    · refine ⟨o, List.getElem?_set_self (by rw [S.len]; exact l), h.mono (less_sub fun a q => Zs.set_of he q) fun _ _ _ q => q⟩
    · obtain ⟨o', h1, h2⟩ := S.at_ j en g
      exact ⟨o', by rw [List.getElem?_set_ne z]; exact h1, h2.mono (less_sub fun a q => Zs.set_of he q) fun _ _ _ q => q⟩
  inj := fun j k c c' g g' q => by
    rcases get_set g with ⟨rfl, l, e⟩ | ⟨z, g⟩
    · exact absurd e (he c)
    · rcases get_set g' with ⟨rfl, l, e⟩ | ⟨z', g'⟩
      · exact absurd e (he c')
      · exact S.inj j k c c' g g' q
  sep := fun j c g => by
    rcases get_set g with ⟨rfl, l, e⟩ | ⟨z, g⟩
    · exact absurd e (he c)
    · exact S.sep j c g
  base := S.base
  bag := S.bag
  wd := S.wd
  tab := fun p hp => (S.tab p hp).mono (less_sub fun a q => Zs.set_of he q) rfl
theorem Sta.setD (S : Sta K W B ad H0 H σ G) {i : Nat} {v : V} {x : PyData} (h : Dp K (less H (Zs W B ad G)) v x) : Sta K W B ad H0 H (σ.set i (some v)) (G.set i (.d x)) :=
  S.set (fun _ z => by cases z) ⟨v, rfl, h⟩
theorem Sta.setU (S : Sta K W B ad H0 H σ G) {i : Nat} {o : Option V} : Sta K W B ad H0 H (σ.set i o) (G.set i .un) :=
  S.set (fun _ z => by cases z) trivial
theorem Sta.fresh (S : Sta K W B ad H0 H σ G) {p : Addr} (h : H p = none) : H0 p = none ∧ ¬ InB B p ∧ ¬ Zs W B ad G p := qt_of (by simp (disch := with_unfolding_all
  have hZ : ¬ Zs W B ad G p := fun z => by
    obtain ⟨o, q⟩ := S.there p z
    rw [h] at q; cases q
  have hB : ¬ InB B p := fun z => hZ (.inr (.inr z))
  refine ⟨?_, hB, hZ⟩
  cases e : H0 p with
  | none => rfl
  | some o => rw [S.base p o e hB] at h; cases h
  ) only [↓qt_eq])
theorem own_ex {i : Nat} {p : Addr} {u : HO} {c : Own} (hp : H p = none) : Ex (less H (Zs W B ad G)) (less (upd H p u) (Zs W B (swp ad i p) (G.set i (.ow c)))) := fun a o q => by
  obtain ⟨q1, q2⟩ := less_some q
  have na : a ≠ p := ne_of_none q2 hp
  refine less_of (fun z => ?_) (by rw [upd_ne na]; exact q2)
  rcases z with z | ⟨j, c, g, r⟩ | z
  · exact q1 (.inl z)
  · rcases get_set g with ⟨rfl, l, e⟩ | ⟨z, g⟩
    · rw [swp_same] at r; exact na r
    · rw [swp_ne z] at r
      exact q1 (.inr (.inl ⟨j, c, g, r⟩))
  · exact q1 (.inr (.inr z))
/-- a new thing of one's own -/
theorem Sta.setOwn (S : Sta K W B ad H0 H σ G) {i : Nat} {p : Addr} {vs : List V} {c : Own} (hp : H p = none) (h : DpAll K (less H (Zs W B ad G)) vs c.flat) :
    Sta K W B (swp ad i p) H0 (upd H p (c.obj p vs)) (σ.set i (some (.ref p))) (G.set i (.ow c)) := qt_of (by simp (disch := with_unfolding_all
  obtain ⟨h0, hB, hZ⟩ := S.fresh hp
  have ex : Ex (less H (Zs W B ad G)) (less (upd H p (c.obj p vs)) (Zs W B (swp ad i p) (G.set i (.ow c)))) := own_ex hp
  have hne : ∀ j c', G[j]? = some (.ow c') → ad j ≠ p := fun j c' g z => hZ (.inr (.inl ⟨j, c', g, z.symm⟩))
  refine ⟨by rw [List.length_set, List.length_set]; exact S.len, fun j en g => ?_, fun j k ys zs g g' q => ?_, fun j ys g => ?_, fun a o q n => ?_, S.bag.upd hB, fun a z => (S.wd a z).elim fun o q => upd_there q, fun p' hp' => (S.tab p' hp').mono ex (upd_ne fun z => hB (z ▸ InB.tab hp'))⟩
  · rcases get_set g with ⟨rfl, l, rfl⟩ | ⟨z, g⟩
    · exact ⟨_, List.getElem?_set_self (by rw [S.len]; exact l), by rw [swp_same], vs, by rw [swp_same]; exact upd_same, dpa_mono ex h⟩
    · obtain ⟨o', h1, h2⟩ := S.at_ j en g
      refine ⟨o', by rw [List.getElem?_set_ne z]; exact h1, ?_⟩
      cases en with
      | un => trivial
      | d d => obtain ⟨v, e, h⟩ := h2; exact ⟨v, e, dp_mono ex h⟩
      | ow ys =>
        obtain ⟨e, us, h3, h4⟩ := h2
        have hj : swp ad i p j = ad j := swp_ne z
        exact ⟨by rw [hj]; exact e, us, by rw [hj, upd_ne (hne j ys g)]; exact h3, dpa_mono ex h4⟩
      | bag => exact h2
      | xc a d fs => exact ⟨h2.1, ex _ _ h2.2⟩
      | fz c => obtain ⟨a, vs, e, h1, h2⟩ := h2; exact ⟨a, vs, e, ex _ _ h1, dpa_mono ex h2⟩
      | vl v => exact h2
      | fn f d q us ds => exact ⟨h2.1, ex _ _ h2.2.1, dpa_mono ex h2.2.2⟩
      | tb T => exact h2
      | rv ρ => obtain ⟨v, e, h⟩ := h2; exact ⟨v, e, fun M m => h M fun a o q => m a o (ex a o q)⟩
  · rcases get_set g with ⟨rfl, l, e⟩ | ⟨z, g⟩
    · rcases get_set g' with ⟨rfl, l', e'⟩ | ⟨z', g'⟩
      · rfl
      · rw [swp_same, swp_ne z'] at q
        exact absurd q.symm (hne k zs g')
    · rcases get_set g' with ⟨rfl, l', e'⟩ | ⟨z', g'⟩
      · rw [swp_same, swp_ne z] at q
        exact absurd q (hne j ys g)
      · rw [swp_ne z, swp_ne z'] at q
        exact S.inj j k ys zs g g' q
  · rcases get_set g with ⟨rfl, l, e⟩ | ⟨z, g⟩
    · rw [swp_same]
      refine ⟨h0, hB, fun z => hZ (.inl z)⟩
    · rw [swp_ne z]; exact S.sep j ys g
  · rw [upd_ne (fun z => by rw [z, h0] at q; cases q)]
    exact S.base a o q n
  ) only [↓qt_eq])
theorem chg_zz {i : Nat} {c c' : Own} (hi : G[i]? = some (.ow c)) (a : Addr) : Zs W B ad (G.set i (.ow c')) a ↔ Zs W B ad G a := qt_of (by simp (disch := with_unfolding_all
  have il : i < G.length := (List.getElem?_eq_some_iff.mp hi).1
  constructor
  · rintro (h | ⟨j, zs, g, r⟩ | h)
    · exact .inl h
    · rcases get_set g with ⟨rfl, l, e⟩ | ⟨z, g⟩
      · exact .inr (.inl ⟨i, c, hi, r⟩)
      · exact .inr (.inl ⟨j, zs, g, r⟩)
    · exact .inr (.inr h)
  · rintro (h | ⟨j, zs, g, r⟩ | h)
    · exact .inl h
    · by_cases z : i = j
      · subst z
        exact .inr (.inl ⟨i, c', List.getElem?_set_self il, r⟩)
      · exact .inr (.inl ⟨j, zs, by rw [List.getElem?_set_ne z]; exact g, r⟩)
    · exact .inr (.inr h)
  ) only [↓qt_eq])
theorem chg_ex {i : Nat} {c c' : Own} {u : HO} (hi : G[i]? = some (.ow c)) : Ex (less H (Zs W B ad G)) (less (upd H (ad i) u) (Zs W B ad (G.set i (.ow c')))) := fun a o q => by
  obtain ⟨q1, q2⟩ := less_some q
  refine less_of (fun z => q1 ((chg_zz hi a).mp z)) ?_
  rw [upd_ne (fun z => q1 (.inr (.inl ⟨i, c, hi, z⟩)))]; exact q2
/-- a thing of one's own is changed -/
theorem Sta.chg (S : Sta K W B ad H0 H σ G) {i : Nat} {c c' : Own} {vs : List V} (hi : G[i]? = some (.ow c)) (h : DpAll K (less H (Zs W B ad G)) vs c'.flat) : Sta K W B ad H0 (upd H (ad i) (c'.obj (ad i) vs)) σ (G.set i (.ow c')) := qt_of (by simp (disch := with_unfolding_all
  have ex : Ex (less H (Zs W B ad G)) (less (upd H (ad i) (c'.obj (ad i) vs)) (Zs W B ad (G.set i (.ow c')))) := chg_ex hi
  obtain ⟨s0, sB, sW⟩ := S.sep i c hi
  refine ⟨by rw [List.length_set]; exact S.len, fun j en g => ?_, fun j k ys' zs g g' q => ?_, fun j zs g => ?_, fun a o q n => ?_, S.bag.upd sB, fun a z => (S.wd a z).elim fun o q => upd_there q, fun p hp => (S.tab p hp).mono ex (upd_ne fun z => sB (z ▸ InB.tab hp))⟩
  · rcases get_set g with ⟨rfl, l, rfl⟩ | ⟨z, g⟩
    · obtain ⟨o', h1, h2, _⟩ := S.at_ i _ hi
      exact ⟨o', h1, h2, vs, upd_same, dpa_mono ex h⟩
    · obtain ⟨o', h1, h2⟩ := S.at_ j en g
      refine ⟨o', h1, ?_⟩
      cases en with
      | un => trivial
      | d d => obtain ⟨v, e, h⟩ := h2; exact ⟨v, e, dp_mono ex h⟩
      | ow zs =>
        obtain ⟨e, us, h3, h4⟩ := h2
        exact ⟨e, us, by rw [upd_ne (fun w => z (S.inj i j c zs hi g w.symm))]; exact h3, dpa_mono ex h4⟩
      | bag => exact h2
      | xc a d fs => exact ⟨h2.1, ex _ _ h2.2⟩
      | fz c => obtain ⟨a, vs, e, h1, h2⟩ := h2; exact ⟨a, vs, e, ex _ _ h1, dpa_mono ex h2⟩
      | vl v => exact h2
      | fn f d q us ds => exact ⟨h2.1, ex _ _ h2.2.1, dpa_mono ex h2.2.2⟩
      | tb T => exact h2
      | rv ρ => obtain ⟨v, e, h⟩ := h2; exact ⟨v, e, fun M m => h M fun a o q => m a o (ex a o q)⟩
  · rcases get_set g with ⟨rfl, l, e⟩ | ⟨z, g⟩
    · rcases get_set g' with ⟨rfl, l', e'⟩ | ⟨z', g'⟩
      · rfl
      · exact S.inj i k c zs hi g' q
    · rcases get_set g' with ⟨rfl, l', e'⟩ | ⟨z', g'⟩
      · exact S.inj j i ys' c g hi q
      · exact S.inj j k ys' zs g g' q
  · rcases get_set g with ⟨rfl, l, e⟩ | ⟨z, g⟩
    · exact S.sep i c hi
    · exact S.sep j zs g
  · rw [upd_ne (fun z => by rw [z, s0] at q; cases q)]
    exact S.base a o q n
  ) only [↓qt_eq])
/-- a list of one's own is from now on data -/
theorem Sta.freeze (S : Sta K W B ad H0 H σ G) {i : Nat} {xs : List PyData} (hi : G[i]? = some (.ow (ol xs))) : Sta K W B ad H0 H σ (G.set i (.d (.list xs))) := qt_of (by simp (disch := with_unfolding_all
  have ex : Ex (less H (Zs W B ad G)) (less H (Zs W B ad (G.set i (.d (.list xs))))) := less_sub fun a q => Zs.set_of (fun _ z => by cases z) q
  refine ⟨by rw [List.length_set]; exact S.len, fun j en g => ?_, fun j k ys' zs g g' q => ?_, fun j zs g => ?_, S.base, S.bag, S.wd, fun p hp => (S.tab p hp).mono ex rfl⟩
  · rcases get_set g with ⟨rfl, l, rfl⟩ | ⟨z, g⟩
    · obtain ⟨o', h1, h2, vs, h3, h4⟩ := S.at_ i _ hi
      refine ⟨o', h1, _, h2, .lst (sq_of (less_of ?_ h3)) (dpa_mono ex h4)⟩
      rintro (z | ⟨j, zs, g, r⟩ | z)
      · exact (S.sep i _ hi).2.2 z
      · rcases get_set g with ⟨rfl, _, e⟩ | ⟨z, g⟩
        · cases e
        · exact z (S.inj i j _ zs hi g r)
      · exact (S.sep i _ hi).2.1 z
    · obtain ⟨o', h1, h2⟩ := S.at_ j en g
      exact ⟨o', h1, h2.mono ex fun _ _ _ q => q⟩
  · rcases get_set g with ⟨rfl, l, e⟩ | ⟨z, g⟩
    · cases e
    · rcases get_set g' with ⟨rfl, l', e'⟩ | ⟨z', g'⟩
      · cases e'
      · exact S.inj j k ys' zs g g' q
  · rcases get_set g with ⟨rfl, l, e⟩ | ⟨z, g⟩
    · cases e
    · exact S.sep j zs g
  ) only [↓qt_eq])
/-- a thing of another's, which is new to this def, is changed -/
theorem Sta.foreign (S : Sta K W B ad H0 H σ G) {p : Addr} {o : HO} (hw : W p) (h0 : H0 p = none) (hB : ¬ InB B p) : Sta K W B ad H0 (upd H p o) σ G ∧ less (upd H p o) (Zs W B ad G) = less H (Zs W B ad G) := qt_of (by simp (disch := with_unfolding_all
  have el : less (upd H p o) (Zs W B ad G) = less H (Zs W B ad G) := by
    funext a
    by_cases z : Zs W B ad G a
    · rw [less_yes z, less_yes z]
    · rw [less_no z, less_no z, upd_ne (fun e => z (.inl (by rw [e]; exact hw)))]
  refine ⟨⟨S.len, fun i e h => ?_, S.inj, S.sep, fun a u q n => ?_, S.bag.upd hB, fun a z => (S.wd a z).elim fun o q => upd_there q, fun p' hp' => (S.tab p' hp').mono (by rw [el]; exact Ex.refl _) (upd_ne fun z => hB (z ▸ InB.tab hp'))⟩, el⟩
  · obtain ⟨u, g1, g2⟩ := S.at_ i e h
    refine ⟨u, g1, g2.mono (by rw [el]; exact Ex.refl _) fun c vs q q2 => ?_⟩
    subst q
    rw [upd_ne (fun z => (S.sep i c h).2.2 (by rw [z]; exact hw))]; exact q2
  · rw [upd_ne (fun z => by rw [z, h0] at q; cases q)]; exact S.base a u q n
  ) only [↓qt_eq])
/-- a new thing is for a while another's -/
theorem Sta.lend (S : Sta K W B ad H0 H σ G) {p : Addr} {o : HO} (hp : H p = none) : Sta K (fun a => W a ∨ a = p) B ad H0 (upd H p o) σ G ∧ less (upd H p o) (Zs (fun a => W a ∨ a = p) B ad G) = less H (Zs W B ad G) := qt_of (by simp (disch := with_unfolding_all
  obtain ⟨_, _, np⟩ := S.fresh hp
  have zz : ∀ a, Zs (fun a => W a ∨ a = p) B ad G a ↔ Zs W B ad G a ∨ a = p := fun a => by
    constructor
    · rintro ((z | z) | z | z)
      · exact .inl (.inl z)
      · exact .inr z
      · exact .inl (.inr (.inl z))
      · exact .inl (.inr (.inr z))
    · rintro ((z | z | z) | z)
      · exact .inl (.inl z)
      · exact .inr (.inl z)
      · exact .inr (.inr z)
      · exact .inl (.inr z)
  have el : less (upd H p o) (Zs (fun a => W a ∨ a = p) B ad G) = less H (Zs W B ad G) := by
    funext a
    by_cases e : a = p
    · rw [less_yes ((zz a).mpr (.inr e)), e, less_no np, hp]
    · by_cases z : Zs W B ad G a
      · rw [less_yes z, less_yes ((zz a).mpr (.inl z))]
      · rw [less_no z, less_no (fun y => ((zz a).mp y).elim z e), upd_ne e]
  have ex : Ex H (upd H p o) := Ex.new hp
  have S' := S.ext ex
  refine ⟨⟨S.len, fun i e h => ?_, S.inj, fun i c h => ⟨(S.sep i c h).1, (S.sep i c h).2.1, fun z => z.elim (S.sep i c h).2.2 fun z => np (by rw [← z]; exact .inr (.inl ⟨i, c, h, rfl⟩))⟩, S'.base, S'.bag, fun a z => z.elim (fun z => S'.wd a z) fun z => ⟨o, by rw [z]; exact upd_same⟩, fun p' hp' => (S.tab p' hp').mono (by rw [el]; exact Ex.refl _) (upd_ne fun z => np (z ▸ .inr (.inr (InB.tab hp'))))⟩, el⟩
  obtain ⟨u, g1, g2⟩ := S.at_ i e h
  exact ⟨u, g1, g2.mono (by rw [el]; exact Ex.refl _) fun c vs q q2 => ex _ _ q2⟩
  ) only [↓qt_eq])
/-- .. and is given back -/
theorem Sta.back {p : Addr} (S : Sta K (fun a => W a ∨ a = p) B ad H0 H σ G) : Sta K W B ad H0 H σ G ∧ Ex (less H (Zs (fun a => W a ∨ a = p) B ad G)) (less H (Zs W B ad G)) := qt_of (by simp (disch := with_unfolding_all
  have ex : Ex (less H (Zs (fun a => W a ∨ a = p) B ad G)) (less H (Zs W B ad G)) := less_sub fun a z => z.elim (fun z => .inl (.inl z)) .inr
  refine ⟨⟨S.len, fun i e h => ?_, S.inj, fun i c h => ⟨(S.sep i c h).1, (S.sep i c h).2.1, fun z => (S.sep i c h).2.2 (.inl z)⟩, S.base, S.bag, fun a z => S.wd a (.inl z), fun p hp => (S.tab p hp).mono ex rfl⟩, ex⟩
  obtain ⟨u, g1, g2⟩ := S.at_ i e h
  exact ⟨u, g1, g2.mono ex fun _ _ _ q => q⟩
  ) only [↓qt_eq])
theorem new_ex (S : Sta K W B ad H0 H σ G) {p : Addr} {o : HO} (h : H p = none) :
    Sta K W B ad H0 (upd H p o) σ G ∧ Xb B H (upd H p o) ∧ less (upd H p o) (Zs W B ad G) p = some o := by
  have e : Ex H (upd H p o) := Ex.new h
  exact ⟨S.ext e, .of e, less_of (S.fresh h).2.2 upd_same⟩
end
end U.N

end
section
namespace U.N
open PySem PyProof.Rows L2 Evl
/-! ### relations by name -/
@[irreducible] def rAddI : R2 := rI0 fun i j => .int (i + j)
@[irreducible] def rSubI : R2 := rI0 fun i j => .int (i - j)
@[irreducible] def rMulI : R2 := rI CMulW fun i j => .int (i * j)
@[irreducible] def rModI : R2 := rI CNz fun i j => .int (i.fmod j)
@[irreducible] def rPowI : R2 := rI CPow fun i j => .int (i ^ j.toNat)
@[irreducible] def rLtI : R2 := rI0 fun i j => .bl (decide (i < j))
@[irreducible] def rLeI : R2 := rI0 fun i j => .bl (decide (i ≤ j))
@[irreducible] def rGtI : R2 := rI0 fun i j => .bl (decide (j < i))
@[irreducible] def rNegI : V → Hp → VK → Prop := rU fun i => .int (-i)
section
variable {X : Cx}
theorem op_addI : OpR X (binaryOp .Add) rAddI := by unfold rAddI; exact op_add
theorem op_subI : OpR X (binaryOp .Sub) rSubI := by unfold rSubI; exact op_sub
theorem op_mulI : OpR X (binaryOp .Mult) rMulI := by unfold rMulI; exact op_mulW
theorem op_modI : OpR X (binaryOp .Mod) rModI := by unfold rModI; exact op_modX
theorem op_powI : OpR X (binaryOp .Pow) rPowI := by unfold rPowI; exact op_pow
theorem op_ltI : OpR X (compareOp .Lt) rLtI := by unfold rLtI; exact op_lt
theorem op_leI : OpR X (compareOp .LtE) rLeI := by unfold rLeI; exact op_le
theorem op_gtI : OpR X (compareOp .Gt) rGtI := by unfold rGtI; exact op_gt
theorem un_negI : UnR X (unaryOp .USub) rNegI := by unfold rNegI; exact un_neg
end
/-! ### what is wanted -/
section
variable (K : Fg) (cs : Cs) (W : WX)
/-- what may leave by raising -/
noncomputable def XP (Wd : Addr → Prop) (B : Bt) (ad : Nat → Addr) (H0 H : Hp) (σ : St) (G : Gam) (ε : Xw → Prop) : Prop :=
  ∀ e, ε e → ∀ d H2, Sta K Wd B ad H0 H2 σ G → Xb B H H2 → H0 d = none → less H2 (Zs Wd B ad G) d = some (.xd e.fs) → W (.ref (cs e.cls)) (some d) σ H2
noncomputable def EW (te : TE) (G : Gam) (φ : PyData → Prop) (ε : Xw → Prop) : Prop :=
  ∀ Wd B ad H0 H σ, Sta K Wd B ad H0 H σ G → ∀ Q : VK, (∀ x, φ x → ∀ v H2, Sta K Wd B ad H0 H2 σ G → Xb B H H2 → Dp K (less H2 (Zs Wd B ad G)) v x → Q v H2) → XP K cs W Wd B ad H0 H σ G ε → te σ H Q
/-- a new thing of one's own -/
noncomputable def EF (te : TE) (G : Gam) (ψ : Own → Prop) (ε : Xw → Prop) : Prop :=
  ∀ Wd B ad H0 H σ, Sta K Wd B ad H0 H σ G → ∀ Q : VK, (∀ c, ψ c → ∀ a vs H2, Sta K Wd B ad H0 H2 σ G → Xb B H H2 → H2 a = none → DpAll K (less H2 (Zs Wd B ad G)) vs c.flat → Q (.ref a) (upd H2 a (c.obj a vs))) → XP K cs W Wd B ad H0 H σ G ε → te σ H Q
noncomputable def TW (tt : TT) (G : Gam) (ψ : Bool → Prop) (ε : Xw → Prop) : Prop :=
  ∀ Wd B ad H0 H σ, Sta K Wd B ad H0 H σ G → ∀ Q : Bool → Hp → Prop, (∀ b, ψ b → ∀ H2, Sta K Wd B ad H0 H2 σ G → Xb B H H2 → Q b H2) → XP K cs W Wd B ad H0 H σ G ε → tt σ H Q
noncomputable def AW (ta : TA) (G : Gam) (α : List PyData → Prop) (ε : Xw → Prop) : Prop :=
  ∀ Wd B ad H0 H σ, Sta K Wd B ad H0 H σ G → ∀ Q : List V → Hp → Prop, (∀ xs, α xs → ∀ vs H2, Sta K Wd B ad H0 H2 σ G → Xb B H H2 → DpAll K (less H2 (Zs Wd B ad G)) vs xs → Q vs H2) → XP K cs W Wd B ad H0 H σ G ε → ta σ H Q
noncomputable def IW (wi : TI) (G : Gam) (ι : List PyData → Prop) (ε : Xw → Prop) : Prop :=
  ∀ Wd B ad H0 H σ, Sta K Wd B ad H0 H σ G → ∀ R : It → Hp → Prop, (∀ ds, ι ds → ∀ J H1, Sta K Wd B ad H0 H1 σ G → Xb B H H1 → ItOk K J ds (less H1 (Zs Wd B ad G)) → R J H1) → XP K cs W Wd B ad H0 H σ G ε → wi σ H R
noncomputable def OW (to : TO) (G : Gam) (ψ : Option Int → Prop) (ε : Xw → Prop) : Prop :=
  ∀ Wd B ad H0 H σ, Sta K Wd B ad H0 H σ G → ∀ Q : Option Int → Hp → Prop, (∀ o, ψ o → ∀ H2, Sta K Wd B ad H0 H2 σ G → Xb B H H2 → Q o H2) → XP K cs W Wd B ad H0 H σ G ε → to σ H Q
inductive Out where
  | nx (G : Gam)
  | rt (x : PyData)
  | rl (c : Own)
  | bk (G : Gam)
  | ct (G : Gam)
  | ex (e : Xw) (G : Gam)
noncomputable def PostO (Wd : Addr → Prop) (B : Bt) (H0 M : Hp) (D : Ends) : Out → Prop
  | .nx G => ∀ ad H σ, Sta K Wd B ad H0 H σ G → Ex M (less H (Zs Wd B ad G)) → D.nx σ H
  | .rt x => ∀ v H, Xb B H0 H → BagOk H B → (∀ p ∈ B.T, TabZ H (fun a => Wd a ∨ InB B a) p) → Dp K (less H fun a => Wd a ∨ InB B a) v x → D.rt v H
  | .rl c => ∀ a vs H, Xb B H0 H → BagOk H B → (∀ p ∈ B.T, TabZ H (fun b => (Wd b ∨ InB B b) ∨ b = a) p) → H0 a = none → H a = some (c.obj a vs) → DpAll K (less H fun b => (Wd b ∨ InB B b) ∨ b = a) vs c.flat → D.rt (.ref a) H
  | .bk G => ∀ ad H σ, Sta K Wd B ad H0 H σ G → Ex M (less H (Zs Wd B ad G)) → D.bk σ H
  | .ct G => ∀ ad H σ, Sta K Wd B ad H0 H σ G → Ex M (less H (Zs Wd B ad G)) → D.ct σ H
  | .ex e G => ∀ d ad H σ, Sta K Wd B ad H0 H σ G → Ex M (less H (Zs Wd B ad G)) → H0 d = none → less H (Zs Wd B ad G) d = some (.xd e.fs) → W (.ref (cs e.cls)) (some d) σ H
noncomputable def SW (ts : TS) (G : Gam) (Φ : Out → Prop) : Prop :=
  ∀ Wd B ad H0 H σ (D : Ends), Sta K Wd B ad H0 H σ G → (∀ o, Φ o → PostO K cs W Wd B H0 (less H (Zs Wd B ad G)) D o) → ts D σ H
end
noncomputable def Cnd (b : Bool) (P Q : Prop) : Prop := (b = true → P) ∧ (b = false → Q)
section
variable {P Q : Prop} {b : Bool}
theorem cnd_t (p : P) : Cnd true P Q := ⟨fun _ => p, (nomatch ·)⟩
theorem cnd_f (q : Q) : Cnd false P Q := ⟨(nomatch ·), fun _ => q⟩
theorem cnd_nt (q : Q) : Cnd (!true) P Q := cnd_f q
theorem cnd_nf (p : P) : Cnd (!false) P Q := cnd_t p
theorem cnd_T (h : b = true) (p : P) : Cnd b P Q := ⟨fun _ => p, fun h' => by rw [h] at h'; cases h'⟩
theorem cnd_F (h : b = false) (q : Q) : Cnd b P Q := ⟨fun h' => (by rw [h] at h'; cases h'), fun _ => q⟩
theorem cnd_b (p : b = true → P) (q : b = false → Q) : Cnd b P Q := ⟨p, q⟩
theorem cnd_yes {p : Prop} [Decidable p] (h : p) (x : P) : Cnd (decide p) P Q := cnd_T (decide_eq_true h) x
theorem cnd_no {p : Prop} [Decidable p] (h : ¬ p) (x : Q) : Cnd (decide p) P Q := cnd_F (decide_eq_false h) x
theorem cnd_d {p : Prop} [Decidable p] (x : p → P) (y : ¬ p → Q) : Cnd (decide p) P Q := ⟨fun h => x (of_decide_eq_true h), fun h => y (of_decide_eq_false h)⟩
theorem cnd_nd {p : Prop} [Decidable p] (x : ¬ p → P) (y : p → Q) : Cnd (!decide p) P Q := ⟨fun h => x (fun z => by rw [decide_eq_true z] at h; cases h), fun h => y (Classical.byContradiction fun z => by rw [decide_eq_false z] at h; cases h)⟩
end
section
variable {K : Fg} {cs : Cs} {W : WX} {G G' G1 G2 : Gam} {ta tb tc te : TE} {t u : TT} {φ : PyData → Prop} {ε : Xw → Prop} {ψ : Bool → Prop} {α : List PyData → Prop} {ι : List PyData → Prop} {χ : Own → Prop} {ω : Option Int → Prop}
variable {Wd : Addr → Prop} {B : Bt} {ad : Nat → Addr} {H0 H H1 H2 : Hp} {σ : St}
theorem XP.go (h : XP K cs W Wd B ad H0 H σ G ε) (x : Xb B H H1) : XP K cs W Wd B ad H0 H1 σ G ε := fun e he d H2 S y hd hx => h e he d H2 S (x.trans y) hd hx
theorem ew_mono {φ' : PyData → Prop} (h : EW K cs W te G φ ε) (m : ∀ x, φ x → φ' x) : EW K cs W te G φ' ε := fun Wd B ad H0 H σ S Q q x => h Wd B ad H0 H σ S Q (fun y hy => q y (m y hy)) x
theorem aw_mono {α' : List PyData → Prop} {ta : TA} (h : AW K cs W ta G α ε) (m : ∀ x, α x → α' x) : AW K cs W ta G α' ε := fun Wd B ad H0 H σ S Q q x => h Wd B ad H0 H σ S Q (fun y hy => q y (m y hy)) x
theorem tw_mono {ψ' : Bool → Prop} (h : TW K cs W t G ψ ε) (m : ∀ x, ψ x → ψ' x) : TW K cs W t G ψ' ε := fun Wd B ad H0 H σ S Q q x => h Wd B ad H0 H σ S Q (fun y hy => q y (m y hy)) x
/-! ### values -/
theorem ew_var {i : Nat} {x : PyData} (h : G[i]? = some (.d x)) (p : φ x) : EW K cs W (tVar i) G φ ε := fun Wd B ad H0 H σ S Q q _ => by
  obtain ⟨o, h1, v, rfl, h2⟩ := S.at_ i _ h
  exact ⟨v, h1, q x p v H S Xb.refl h2⟩
theorem ew_glob {v : V} {x : PyData} (h : ∀ H, Dp K H v x) (p : φ x) : EW K cs W (tC v) G φ ε := fun Wd B ad H0 H σ S Q q _ => q x p _ H S Xb.refl (h _)
theorem ew_int {i : Int} (p : φ (.int i)) : EW K cs W (tC (.int i)) G φ ε := ew_glob (fun _ => .int i) p
theorem ew_bl {b : Bool} (p : φ (.bool b)) : EW K cs W (tC (.bl b)) G φ ε := ew_glob (fun _ => .bl b) p
theorem ew_str {b : Str} (p : φ (.str b)) : EW K cs W (tC (.str b)) G φ ε := ew_glob (fun _ => .str b) p
theorem ew_non (p : φ .none) : EW K cs W (tC .non) G φ ε := ew_glob (fun _ => .non) p
/-! ### arguments, displays -/
theorem aw_nil (p : α []) : AW K cs W tNil G α ε := fun Wd B ad H0 H σ S Q q _ => q _ p _ H S Xb.refl .nil
theorem aw_cons {tr : TA} (h : EW K cs W ta G (fun x => AW K cs W tr G (fun xs => α (x :: xs)) ε) ε) : AW K cs W (tCons ta tr) G α ε := fun Wd B ad H0 H σ S Q q x =>
  h Wd B ad H0 H σ S _ (fun x1 p1 v H1 S1 e1 d1 => p1 Wd B ad H0 H1 σ S1 _ (fun xs p2 vs H2 S2 e2 d2 => q _ p2 _ H2 S2 (e1.trans e2) (.cons (dp_mono (Xb.lz e2) d1) d2)) (x.go e1)) x
theorem ew_ef (h : EF K cs W te G (fun c => ∃ xs, c = ol xs ∧ φ (.list xs)) ε) : EW K cs W te G φ ε := fun Wd B ad H0 H σ S Q q x =>
  h Wd B ad H0 H σ S _ (fun c p a vs H2 S2 e2 hn d => by
    obtain ⟨xs, rfl, p⟩ := p
    obtain ⟨S3, e3, g⟩ := new_ex (o := .lst vs) S2 hn
    exact q _ p _ _ S3 (e2.trans e3) (.lst (sq_of g) (dpa_mono (Xb.lz e3) d))) x
theorem ew_tup {ta : TA} (h : AW K cs W ta G (fun xs => xs.length ≤ 16000000 ∧ φ (.tuple xs)) ε) : EW K cs W (tTup ta) G φ ε := fun Wd B ad H0 H σ S Q q x =>
  h Wd B ad H0 H σ S _ (fun xs p vs H1 S1 e1 d1 => ⟨by rw [dpa_len d1]; exact sz_line p.1, fun a ha => by
    obtain ⟨S2, e2, g⟩ := new_ex (o := .tup vs) S1 ha
    exact q _ p.2 _ _ S2 (e1.trans e2) (.tup (st_of g) (dpa_mono (Xb.lz e2) d1))⟩) x
theorem ef_lst {ta : TA} (h : AW K cs W ta G (fun xs => xs.length ≤ 16000000 ∧ χ (ol xs)) ε) : EF K cs W (tLst ta) G χ ε := fun Wd B ad H0 H σ S Q q x =>
  h Wd B ad H0 H σ S _ (fun xs p vs H1 S1 e1 d1 => ⟨by rw [dpa_len d1]; exact sz_line p.1, fun a ha => q _ p.2 a vs H1 S1 e1 ha d1⟩) x
theorem ew_lst {ta : TA} (h : AW K cs W ta G (fun xs => xs.length ≤ 16000000 ∧ φ (.list xs)) ε) : EW K cs W (tLst ta) G φ ε := ew_ef (ef_lst (aw_mono h fun xs p => ⟨p.1, xs, rfl, p.2⟩))
/-! ### operators -/
theorem ew_op {r : R2} (h : EW K cs W ta G (fun x => EW K cs W tb G (fun y => ∀ Wd B ad H0 H σ v w, Sta K Wd B ad H0 H σ G → Dp K (less H (Zs Wd B ad G)) v x → Dp K (less H (Zs Wd B ad G)) w y → ∀ Q : VK, (∀ z, φ z → ∀ v H2, Sta K Wd B ad H0 H2 σ G → Xb B H H2 → Dp K (less H2 (Zs Wd B ad G)) v z → Q v H2) → r v w H Q) ε) ε) : EW K cs W (tOp r ta tb) G φ ε := fun Wd B ad H0 H σ S Q q x =>
  h Wd B ad H0 H σ S _ (fun x1 p1 v H1 S1 e1 d1 => p1 Wd B ad H0 H1 σ S1 _ (fun y p2 w H2 S2 e2 d2 => p2 Wd B ad H0 H2 σ v w S2 (dp_mono (Xb.lz e2) d1) d2 Q fun z p v H3 S3 e3 d3 => q z p v H3 S3 ((e1.trans e2).trans e3) d3) (x.go e1)) x
theorem ew_I0 {g : Int → Int → V} {f : Int → Int → PyData} (hg : ∀ i j H, Dp K H (g i j) (f i j)) (h : EW K cs W ta G (fun x => ∃ i, x = .int i ∧ EW K cs W tb G (fun y => ∃ j, y = .int j ∧ φ (f i j)) ε) ε) : EW K cs W (tOp (rI0 g) ta tb) G φ ε :=
  ew_op (ew_mono h fun x ⟨i, e, h⟩ => ew_mono h fun y ⟨j, e2, p⟩ => fun Wd B ad H0 H σ v w S d1 d2 Q q => by
    subst e; subst e2
    cases d1; cases d2
    exact ⟨i, j, rfl, rfl, q _ p _ H S Xb.refl (hg i j _)⟩)
theorem ew_I {C : Int → Int → Prop} {g : Int → Int → V} {f : Int → Int → PyData} (hg : ∀ i j H, Dp K H (g i j) (f i j)) (h : EW K cs W ta G (fun x => ∃ i, x = .int i ∧ EW K cs W tb G (fun y => ∃ j, y = .int j ∧ C i j ∧ φ (f i j)) ε) ε) : EW K cs W (tOp (rI C g) ta tb) G φ ε :=
  ew_op (ew_mono h fun x ⟨i, e, h⟩ => ew_mono h fun y ⟨j, e2, c, p⟩ => fun Wd B ad H0 H σ v w S d1 d2 Q q => by
    subst e; subst e2
    cases d1; cases d2
    exact ⟨i, j, rfl, rfl, c, q _ p _ H S Xb.refl (hg i j _)⟩)
theorem ew_add (h : EW K cs W ta G (fun x => ∃ i, x = .int i ∧ EW K cs W tb G (fun y => ∃ j, y = .int j ∧ φ (.int (i + j))) ε) ε) : EW K cs W (tOp rAddI ta tb) G φ ε := by unfold rAddI; exact ew_I0 (f := fun i j => .int (i + j)) (fun _ _ _ => .int _) h
theorem ew_sub (h : EW K cs W ta G (fun x => ∃ i, x = .int i ∧ EW K cs W tb G (fun y => ∃ j, y = .int j ∧ φ (.int (i - j))) ε) ε) : EW K cs W (tOp rSubI ta tb) G φ ε := by unfold rSubI; exact ew_I0 (f := fun i j => .int (i - j)) (fun _ _ _ => .int _) h
theorem ew_mul (h : EW K cs W ta G (fun x => ∃ i, x = .int i ∧ EW K cs W tb G (fun y => ∃ j, y = .int j ∧ CMulW i j ∧ φ (.int (i * j))) ε) ε) : EW K cs W (tOp rMulI ta tb) G φ ε := by unfold rMulI; exact ew_I (f := fun i j => .int (i * j)) (fun _ _ _ => .int _) h
theorem ew_mod (h : EW K cs W ta G (fun x => ∃ i, x = .int i ∧ EW K cs W tb G (fun y => ∃ j, y = .int j ∧ CNz i j ∧ φ (.int (i.fmod j))) ε) ε) : EW K cs W (tOp rModI ta tb) G φ ε := by unfold rModI; exact ew_I (f := fun i j => .int (i.fmod j)) (fun _ _ _ => .int _) h
theorem ew_pow (h : EW K cs W ta G (fun x => ∃ i, x = .int i ∧ EW K cs W tb G (fun y => ∃ j, y = .int j ∧ CPow i j ∧ φ (.int (i ^ j.toNat))) ε) ε) : EW K cs W (tOp rPowI ta tb) G φ ε := by unfold rPowI; exact ew_I (f := fun i j => .int (i ^ j.toNat)) (fun _ _ _ => .int _) h
theorem ew_lt (h : EW K cs W ta G (fun x => ∃ i, x = .int i ∧ EW K cs W tb G (fun y => ∃ j, y = .int j ∧ φ (.bool (decide (i < j)))) ε) ε) : EW K cs W (tOp rLtI ta tb) G φ ε := by unfold rLtI; exact ew_I0 (f := fun i j => .bool (decide (i < j))) (fun _ _ _ => .bl _) h
theorem ew_gt (h : EW K cs W ta G (fun x => ∃ i, x = .int i ∧ EW K cs W tb G (fun y => ∃ j, y = .int j ∧ φ (.bool (decide (j < i)))) ε) ε) : EW K cs W (tOp rGtI ta tb) G φ ε := by unfold rGtI; exact ew_I0 (f := fun i j => .bool (decide (j < i))) (fun _ _ _ => .bl _) h
theorem ew_neg (h : EW K cs W ta G (fun x => ∃ i, x = .int i ∧ φ (.int (-i))) ε) : EW K cs W (tUn rNegI ta) G φ ε := by
 unfold rNegI
 exact fun Wd B ad H0 H σ S Q q x => h Wd B ad H0 H σ S _ (fun y ⟨i, e, p⟩ v H1 S1 e1 d1 => by
    subst e
    cases d1
    exact ⟨i, rfl, q _ p _ H1 S1 e1 (.int _)⟩) x
/-- == of scalars -/
noncomputable def scEq : PyData → PyData → Option Bool
  | .int i, .int j => some (decide (i = j))
  | .str i, .str j => some (decide (i = j))
  | .bool i, .bool j => some (decide (i = j))
  | .none, .none => some true
  | _, _ => none
theorem sc_eq {H : Hp} {v w : V} {x y : PyData} {b : Bool} (d1 : Dp K H v x) (d2 : Dp K H w y) (h : scEq x y = some b) : scal v w = true ∧ decide (v = w) = b := by
  cases d1 <;> cases d2 <;> first | (cases h; done) | skip
  · cases h; exact ⟨rfl, rfl⟩
  · cases h; exact ⟨rfl, by simp⟩
  · cases h; exact ⟨rfl, by simp⟩
  · cases h; exact ⟨rfl, by simp⟩
theorem ew_eq (h : EW K cs W ta G (fun x => EW K cs W tb G (fun y => ∃ b, scEq x y = some b ∧ φ (.bool b)) ε) ε) : EW K cs W (tOp rEq ta tb) G φ ε :=
  ew_op (ew_mono h fun x h => ew_mono h fun y ⟨b, e, p⟩ => fun Wd B ad H0 H σ v w S d1 d2 Q q => by
    obtain ⟨h1, h2⟩ := sc_eq d1 d2 e
    exact ⟨h1, by rw [h2]; exact q _ p _ H S Xb.refl (.bl _)⟩)
theorem ew_ne (h : EW K cs W ta G (fun x => EW K cs W tb G (fun y => ∃ b, scEq x y = some b ∧ φ (.bool (!b))) ε) ε) : EW K cs W (tOp rNe ta tb) G φ ε :=
  ew_op (ew_mono h fun x h => ew_mono h fun y ⟨b, e, p⟩ => fun Wd B ad H0 H σ v w S d1 d2 Q q => by
    obtain ⟨h1, h2⟩ := sc_eq d1 d2 e
    exact ⟨h1, by rw [h2]; exact q _ p _ H S Xb.refl (.bl _)⟩)
theorem ew_isNo (h : EW K cs W ta G (fun x => φ (.bool (isNoneD x))) ε) : EW K cs W (tOp rIsNo ta (tC .non)) G φ ε :=
  ew_op (ew_mono h fun x p => ew_non fun Wd B ad H0 H σ v w S d1 d2 Q q => by
    cases d2
    exact ⟨rfl, by rw [dp_none d1]; exact q _ p _ H S Xb.refl (.bl _)⟩)
theorem ew_noNo (h : EW K cs W ta G (fun x => φ (.bool (!isNoneD x))) ε) : EW K cs W (tOp rNoNo ta (tC .non)) G φ ε :=
  ew_op (ew_mono h fun x p => ew_non fun Wd B ad H0 H σ v w S d1 d2 Q q => by
    cases d2
    exact ⟨rfl, by rw [dp_none d1]; exact q _ p _ H S Xb.refl (.bl _)⟩)
theorem ew_chain {r r' : R2} {f f' : Int → Int → Bool} (hr : ∀ i j H Q, Q (V.bl (f i j)) H → r (.int i) (.int j) H Q) (hr' : ∀ i j H Q, Q (V.bl (f' i j)) H → r' (.int i) (.int j) H Q)
    (h : EW K cs W ta G (fun x => ∃ i, x = .int i ∧ EW K cs W tb G (fun y => ∃ j, y = .int j ∧ Cnd (f i j) (EW K cs W tc G (fun z => ∃ k, z = .int k ∧ φ (.bool (f' j k))) ε) (φ (.bool false))) ε) ε) : EW K cs W (tChain r r' ta tb tc) G φ ε := fun Wd B ad H0 H σ S Q q x =>
  h Wd B ad H0 H σ S _ (fun x1 ⟨i, ei, p1⟩ v H1 S1 e1 d1 => p1 Wd B ad H0 H1 σ S1 _ (fun y ⟨j, ej, p2⟩ w H2 S2 e2 d2 => by
    subst ei; subst ej
    cases d1; cases d2
    refine hr i j H2 _ ⟨f i j, rfl, ?_⟩
    cases hf : f i j with
    | false => exact q _ (p2.2 hf) _ H2 S2 (e1.trans e2) (.bl _)
    | true =>
      refine p2.1 hf Wd B ad H0 H2 σ S2 _ (fun z ⟨k, ek, p3⟩ u H3 S3 e3 d3 => ?_) ((x.go e1).go e2)
      subst ek
      cases d3
      exact hr' j k H3 _ (q _ p3 _ H3 S3 ((e1.trans e2).trans e3) (.bl _))) (x.go e1)) x
theorem ew_leLe (h : EW K cs W ta G (fun x => ∃ i, x = .int i ∧ EW K cs W tb G (fun y => ∃ j, y = .int j ∧ Cnd (decide (i ≤ j)) (EW K cs W tc G (fun z => ∃ k, z = .int k ∧ φ (.bool (decide (j ≤ k)))) ε) (φ (.bool false))) ε) ε) : EW K cs W (tChain rLeI rLeI ta tb tc) G φ ε :=
  ew_chain (fun i j H Q q => by unfold rLeI; exact ⟨i, j, rfl, rfl, q⟩) (fun i j H Q q => by unfold rLeI; exact ⟨i, j, rfl, rfl, q⟩) h
end
end U.N

end
section
/-! Dicts whose keys are tuples, nested ones too: by what they hold. -/
namespace U
open PySem PySem.Spec PyProof.Rows L2 Evl
noncomputable abbrev NK := NestedKey
mutual
/-- data as keys -/
noncomputable def toK : PyData → Option NK
  | .none => some .none
  | .int i => some (.num i)
  | .str x => some (.text x)
  | .tuple xs => (toKs xs).map .tup
  | _ => none
noncomputable def toKs : List PyData → Option (List NK)
  | [] => some []
  | x :: xs => (toK x).bind fun k => (toKs xs).map (k :: ·)
end
section
variable {X : Cx} {pins : List (Addr × Obj)} {σ : L2.St} {H : Hp} {s : Shared}
mutual
theorem nk_is (I : Inv X pins σ H s) : ∀ {x : PyData} {v : V} {u : Value} {k : NK}, Dp X.K H v x → RelV v u → toK x = some k → NestedIs s.heap k u
  | _, _, _, _, .non, r, e => by cases e; cases r; exact .none
  | _, _, _, _, .bl b, r, e => by cases e
  | _, _, _, _, .int i, r, e => by
    cases e
    obtain ⟨t, rfl⟩ := r
    exact .int i t
  | _, _, _, _, .str x, r, e => by
    cases e
    obtain ⟨t, rfl⟩ := r
    exact .text x t
  | _, _, _, _, .lst h t, r, e => by cases e
  | .tuple xs, _, _, _, .tup h t, r, e => by
    have e : (toKs xs).map NestedKey.tup = some _ := e
    obtain ⟨ks, hks, rfl⟩ := Option.map_eq_some_iff.mp e
    cases r
    obtain ⟨its, rv, ⟨o, h1, h2, n, h3⟩, _⟩ := I.tuple h
    exact .tup h1 h2 h3 (by rw [List.toList_toArray]; exact nk_all I t rv hks)
theorem nk_all (I : Inv X pins σ H s) : ∀ {xs : List PyData} {vs : List V} {us : List Value} {ks : List NK}, DpAll X.K H vs xs → Vals vs us → toKs xs = some ks → NestedAll s.heap ks us
  | _, _, _, _, .nil, r, e => by cases e; cases r; exact .nil
  | x :: xs, _, _, _, .cons h t, r, e => by
    have e : ((toK x).bind fun k => (toKs xs).map (k :: ·)) = some _ := e
    obtain ⟨k, hk, e⟩ := Option.bind_eq_some_iff.mp e
    obtain ⟨ks, hks, rfl⟩ := Option.map_eq_some_iff.mp e
    cases r with
    | cons a b => exact .cons (nk_is I h a hk) (nk_all I t b hks)
end
end
noncomputable abbrev Ent := NK × Addr × V
section
variable {X : Cx} {pins : List (Addr × Obj)} {σ : L2.St} {H : Hp} {s : Shared} {a b : Addr} {ep : Nat} {es : List Ent} {k : NK}
/-! ### {}, d[k], d[k] = v, d.get(k, x) -/
end
end U

end
section
/-! Dicts with tuple keys: walked, and made by a comprehension. -/
namespace U
open PySem PySem.Spec PyProof.Rows L2 Evl
section
variable {P : Program} {w : World} {K : Fg} {tg : Expr} {d : Addr} {ep : Nat} {es : List Ent}
end
section
variable {X : Cx} {tg e : Expr} {td : TE}
end
section
variable {X : Cx} {pins : List (Addr × Obj)} {σ : L2.St} {H : Hp} {s : Shared}
end
section
variable {X : Cx}
end
end U

end
section
/-! sorted(xs) of data that compare, sorted(d) of a dict with such keys. -/
namespace U
open PySem PySem.Spec PyProof.Rows L2 Evl
section
variable {X : Cx} {pins : List (Addr × Obj)} {σ : L2.St} {H : Hp} {s : Shared}
end
end U

end
section
/-! x in a list or a tuple of data of any depth. -/
namespace U
open PySem PySem.Spec PyProof.Rows L2 Evl
theorem u65 {k : Nat} {A : Around} (r : L2.Room k A) : A.units + 65 < cLine := by have := r.un; omega
section
variable {X : Cx}
noncomputable def rInS (K : Fg) (neg : Bool) : R2 := fun x y H Q => ∃ d c ds, Dp K H x d ∧ Dp K H y c ∧ (c = .list ds ∨ c = .tuple ds) ∧ SeqAt.shaped d = true ∧ SeqAt.shaped (.list ds) = true ∧ Q (.bl (if neg then !ds.any (fun z => PyData.eqv z d) else ds.any fun z => PyData.eqv z d)) H
theorem op_inS (hu : X.A.units + 65 < cLine) : OpR X (compareOp .In) (rInS X.K false) := by
  intro pins s σ H x y v u Q I rx ry h
  obtain ⟨d, c, ds, hd, he, ec, sd, se, q⟩ := h
  obtain ⟨as, r1⟩ := Dp.reads I d x v hd rx
  obtain ⟨bs, r2⟩ := Dp.reads I c y u he ry
  rcases ec with rfl | rfl
  · exact SeqAt.in_list_reads r2 r1 (SeqAt.canLay_of_shaped se) (SeqAt.canLay_of_shaped sd) (room_in_shaped sd hu) ⟨.bl _, H, I, rfl, q⟩
  · exact SeqAt.in_tuple_reads r2 r1 (SeqAt.canLay_of_shaped se) (SeqAt.canLay_of_shaped sd) (room_in_shaped sd hu) ⟨.bl _, H, I, rfl, q⟩
end
end U

end
section
/-! isinstance of a caught exception of an own class that has a dict. -/
namespace U
open PySem PyProof.Rows L2 Evl
/-- what the class says of its instances' class -/
structure IsX (K : Fg) (C : Addr) : Prop where
  ha : PySem.W.findIn K (.ref C) "__class__" = some (some (.builtin "object.__class__"))
  hn : PySem.W.specialIn K (.builtin "object.__class__") "__get__" = some (some (.builtin "getset_descriptor.__get__"))
  ht : PySem.W.takesIn K (.builtin "object.__class__") = some true
  hm : PySem.W.mroIn K C (.type "object") = some true
noncomputable def rIsD (K : Fg) (a : Addr) (cls : Value) (d : Option Addr) (C : Addr) : List V → Hp → VK → Prop := fun xs H Q => ∃ (c dd : Addr) (fs : List (Str × V)) (b : Bool), xs = [.ref a, .ref c] ∧ cls = .ref C ∧ d = some dd ∧ H dd = some (.xd fs) ∧ PySem.W.kitOne K (.ref C) (.ref c) = some b ∧ Q (.bl b) H
theorem call_isD {X : Cx} {a C : Addr} {oe : Obj} {cls : Value} {d : Option Addr} {pn : List (Addr × Obj)} (T : XfC X.K C) (S : IsX X.K C) (hz : Zc cls d oe) (hf : ∃ vs, oe.data = .fields vs) : CallR (X.suite a ((a, oe) :: pn)) (.builtin "isinstance") (rIsD X.K a cls d C) := by
  intro pins s σ H xs us Q I r h
  obtain ⟨c, dd, fs, b, rfl, ec, ed, eH, ek, q⟩ := h
  subst ec
  subst ed
  cases r with
  | cons rx rr =>
    cases rr with
    | cons rt rr =>
      cases rr
      cases rx
      cases rt
      have at0 := (I.pin (a, oe) (List.mem_append_left _ List.mem_cons_self)).1
      obtain ⟨vs, hd⟩ := hf
      have hx : ObjOk X.prog X.w H s.heap dd (.xd fs) := I.hok dd _ eH
      obtain ⟨mA, hns, _⟩ := hx
      obtain ⟨od, ho, _⟩ := lookIn_ns hns
      have J : PySem.W.InstAt s.heap a oe C (some od) := ⟨at0, hz.1, by unfold PySem.W.notCls; rw [hd] <;> rfl, by rw [hz.2]; exact ho⟩
      have hcl : (PySem.W.clsIn X.K C).isSome = true := by
        obtain ⟨cd, hc, _⟩ := PySem.W.any_some T.hdC
        rw [hc]
        rfl
      exact PySem.W.kia_one (PySem.W.kitx_exc hcl T.ga T.gg T.exC S.ha S.hn S.ht S.hm) I.kIn J ek (fun z => nomatch z) fun tk => ⟨.bl b, H, I.kept (t' := tk) fun _ _ z => z, rfl, q⟩
end U

end
section
/-! Own exceptions as values: C(..) where it is not raised. -/
namespace U
open PySem PySem.W PyProof.Rows L2 Evl
section
variable {X : Cx} {e : Expr} {es : List Expr} {ta : TA} {p pos : Pos}
end
section
variable {X : Cx} {e : Expr} {te : TE} {pos : Pos} {n : Str} {pins : List (Addr × Obj)} {σ : St} {H : Hp} {s : Shared}
end
end U

end
section
/-! list comprehensions whose item may raise. -/
namespace U
open PySem PySem.Spec PyProof.Rows L2
section
variable {M : Model} {A : Around} {E : Value → Shared → Prop} {s : Shared} {env : Env}
end
section
variable {X : Cx} {pins : List (Addr × Obj)} {σ : St} {H : Hp} {sI s s' : Shared} {B : Heap} {W : WX} {E : XK}
end
section
variable {X : Cx} {pins : List (Addr × Obj)} {σ : St} {H3 : Hp} {s3 s' : Shared} {W : WX}
end
section
variable {X : Cx}
end
end U

end
section
/-! Methods that may raise, told by where one stands. -/
namespace U
open PySem PyProof.Rows L2 Evl
noncomputable def tMethX (C : Addr) (m : Str) (sp : Sp) (dvs : List V) (E : St → XK) (ta : TE) (t : TA) : TE := fun σ H Q =>
  ta σ H fun x H1 => ∃ a dx fs, x = .ref a ∧ H1 a = some (.ins C dx fs) ∧ fs.lookup m = none ∧ t σ H1 fun vs H2 => sp (x :: (vs ++ dvs)) H2 Q (E σ)
section
variable {X : Cx} {CX : CXT} {k : Nat} {f C : Addr} {fd : FuncData} {ps : List Str} {sp : Sp} {dvs : List V} {ds : List Value} {E : St → XK} {m : Str} {pos apos : Pos} {e o : Expr} {es : List Expr} {ta : TE} {t : TA} {pl : Sem Bool}
theorem run_fnDX {pins : List (Addr × Obj)} {σ : St} {H : Hp} {s : Shared} {Q : VK} {us : List Value} {vs : List V} (F : FnOk X.prog X.w X.K X.mg X.base CX k f fd ps sp) (hr : Room k X.A) (hb : Binds X.K fd ps ds) (hd : Vals dvs ds) (hx : PassesAt CX X σ (E σ))
    (I : Inv X pins σ H s) (r : Vals vs us) (h : sp (vs ++ dvs) H Q (E σ)) : wpAny (model X.prog X.w) X.A (call (.ref f) us) (EP X pins σ Q) X.xe s := qt_of (by simp (disch := with_unfolding_all
  have all := Vals.append r hd
  have n1 := F.len _ _ _ _ h
  refine wpAny_call (codeAny_mono (F.run X.A X.stack s H ⟨us, []⟩ (us ++ ds) (vs ++ dvs) Q (E σ) hr I.env0 (hb s us I.kIn (by rw [← all.length, n1])) all h) fun r s' hq => ?_)
  rcases r with e | fl
  · exact hx pins H s e s' I hq
  · rcases fl with _ | u | _ | _
    all_goals first | exact I.after hq | exact False.elim hq
  ) only [↓qt_eq])
/-- o.m(e, ..) where m may raise -/
theorem pe_methX {pl : Sem Bool} (he : PE X o ta) (cl : Cls X.K C) (mt : Meth X.K C m f) (F : FnOk X.prog X.w X.K X.mg X.base CX k f fd ps sp) (room : Room k X.A) (hb : Binds X.K fd ps ds) (hd : Vals dvs ds) (hx : ∀ σ, PassesAt CX X σ (E σ)) (ha : PA X (e :: es) t)
    (h1 : starEach (e :: es) X.env = (false, eval e X.env) :: starEach es X.env := by rfl) (h2 : (backTo pos (starEach es X.env)).any (·.1) = false := by rfl)
    (h3 : eval (.Call (.Attribute o m apos) (e :: es) [] pos) X.env = (do let ov ← eval o X.env; standAt apos.atName; let (f, first) ← holding [ov] (getMethod ov m pl); callWith pos f first (backTo pos (starEach (e :: es) X.env)) (backToKw pos (keywordEach [] X.env))) := by rfl) :
    PE X (.Call (.Attribute o m apos) (e :: es) [] pos) (tMethX C m sp dvs E ta t) := ⟨fun pins s σ H Q I h => PySem.W.methodCall_KW (pl := pl) (thn (he.run pins s σ H _ I h) fun u s1 ⟨x, H1, I1, rx, a, dx, fs, ex, ea, l, q⟩ => by
    subst ex
    have eu : u = Value.ref a := rx
    rw [eu]
    exact getmeth_ok I1 ea cl mt l (PySem.W.callWith_K (first := [.ref a]) (h₀ := X.base) I.ok.mod.kin mt.kp (thn (ha.run pos pins s1 σ H1 _ I1 q) fun us s2 ⟨vs, H2, I2, r, q2⟩ =>
      ⟨I2.kIn, run_fnDX (us := .ref a :: us) (vs := .ref a :: vs) F room hb hd (hx σ) I2 (.cons rfl r) q2⟩) h1 h2)) h3⟩
/-- .. without an argument -/
theorem pe_methX0 {pl : Sem Bool} (he : PE X o ta) (cl : Cls X.K C) (mt : Meth X.K C m f) (F : FnOk X.prog X.w X.K X.mg X.base CX k f fd ps sp) (room : Room k X.A) (hb : Binds X.K fd ps ds) (hd : Vals dvs ds) (hx : ∀ σ, PassesAt CX X σ (E σ))
    (h3 : eval (.Call (.Attribute o m apos) [] [] pos) X.env = (do let ov ← eval o X.env; standAt apos.atName; let (f, first) ← holding [ov] (getMethod ov m pl); callWith pos f first (backTo pos (starEach [] X.env)) (backToKw pos (keywordEach [] X.env))) := by rfl) :
    PE X (.Call (.Attribute o m apos) [] [] pos) (tMethX C m sp dvs E ta tNil) := ⟨fun pins s σ H Q I h => PySem.W.methodCall_KW (pl := pl) (thn (he.run pins s σ H _ I h) fun u s1 ⟨x, H1, I1, rx, a, dx, fs, ex, ea, l, q⟩ => by
    subst ex
    have eu : u = Value.ref a := rx
    rw [eu]
    exact getmeth_ok I1 ea cl mt l (PySem.W.callWith_K0 (first := [.ref a]) I1.kIn mt.kp (run_fnDX (us := [.ref a]) (vs := [.ref a]) F room hb hd (hx σ) I1 (.cons rfl .nil) q))) h3⟩
end
end U

end
section
/-! enumerate of a text; texts added in place. -/
namespace U
open PySem PySem.W PyProof.Rows L2 Evl
theorem drawsS {prog : Program} {w : World} {A : Around} (hh : A.handled = none) (it : Addr) (x : Str) (t : Tok) :
    Draws prog w A it [it] x.cps.size (fun i v => ∃ c u, x.cps[i]? = some c ∧ v = .str ⟨#[c]⟩ u) (fun i h => h.IsStrIter it (strIterType x) x t i) := by
  unfold strIterType
  split
  · exact Draws.strAscii hh it x t
  · exact Draws.strWide hh it x t
/-- the signs of a text with their places, in new pairs -/
noncomputable def IteS (z : Str) : It :=
  ⟨fun i _ => i < z.cps.size, fun i H v H' => ∃ T c, v = .ref T ∧ H T = none ∧ H' = upd H T (.tup [.int (i : Nat), .str ⟨#[c]⟩]) ∧ z.cps[i]? = some c, fun i _ => z.cps.size ≤ i⟩
theorem turn_enumS {P : Program} {w : World} {K : Fg} {elts : List Expr} {kk : Nat} {tpos : Pos} {z : Str} {t : Tok} (e it : Addr) :
    L2.Turn P w K (.Tuple elts kk tpos) (IteS z) [e, it] e (fun i h => (∃ old, IsEnum h e it ((i : Nat) : Int) old) ∧ h.IsStrIter it (strIterType z) z t i ∧ e ≠ it ∧ i ≤ z.cps.size) where
  mem := by simp
  obj := fun i h st b hb => by
    obtain ⟨⟨old, he⟩, ⟨o, ho, hc, _⟩, _⟩ := st
    have e' : b = e ∨ b = it := by simpa using hb
    rcases e' with z | z
    · rw [z]; exact ⟨_, he, fun v q => nomatch q⟩
    · rw [z]; rename_i hd; exact ⟨o, ho, fun v q => by rw [hd] at q; cases q⟩
  keep := fun i h h' st k => by
    obtain ⟨⟨old, he⟩, ⟨o, ho, r⟩, hne, hl⟩ := st
    exact ⟨⟨old, k e (by simp) _ he⟩, ⟨o, k it (by simp) _ ho, r⟩, hne, hl⟩
  item := by
    intro X hP hw hK hc i pins s σ H E I hf st hg
    subst hP hw hK
    obtain ⟨⟨old, he⟩, hit, hne, hlz⟩ := st
    have hel : e < s.heap.objs.size := Heap.lt_size he
    have hil : it < s.heap.objs.size := by obtain ⟨o, q, _⟩ := hit; exact Heap.lt_size q
    have hh : X.A.in1.handled = none := I.ok.hd hc
    refine wpAny_pyNext_enum_itemC (drawsS hh it z t) he hit hg hne (by simp; exact hne) fun y h' tk hy ho hst' hT hsz hk => ?_
    obtain ⟨c, u, hcz, rfl⟩ := hy
    refine ⟨_, rfl, wpAny_letOwnedTupleGo_enum (s := { s with heap := h', toks := tk + 1 }) ho fun h'' he' sb => ?_⟩
    have hT2 : h''.get? s.heap.objs.size = some { cls := .type "tuple", data := .seq #[.int i tk, .str ⟨#[c]⟩ u] } := (sb.2 _ (Nat.ne_of_gt hel)).trans hT
    have new : ObjOk X.prog X.w (upd H s.heap.objs.size (.tup [.int (i : Nat), .str ⟨#[c]⟩])) h'' s.heap.objs.size (.tup [.int (i : Nat), .str ⟨#[c]⟩]) :=
      ⟨by show 2 ≤ sizeLine; decide, [.int i tk, .str ⟨#[c]⟩ u], .cons ⟨_, rfl⟩ (.cons ⟨_, rfl⟩ .nil), ⟨_, hT2, rfl, _, rfl⟩⟩
    have I1 : Inv X pins σ (upd H s.heap.objs.size (.tup [.int (i : Nat), .str ⟨#[c]⟩])) { s with heap := h'', toks := tk + 1 } :=
      I.turnedNew (ch := [e, it]) (fun b ob hb q => (sb.2 b (fun z => hb (by simp [z]))).trans (hk b ob (fun z => hb (by simp [z])) (fun z => hb (by simp [z])) q)) hf (Nat.le_refl _) new
    refine ⟨.ref s.heap.objs.size, _, I1, rfl, ⟨_, c, rfl, I.hok.fresh (Nat.le_refl _), rfl, hcz⟩, ⟨⟨.str ⟨#[c]⟩ u, ?_⟩, ?_, hne, ?_⟩, fun b hb => ?_⟩
    · have e1 : ((i + 1 : Nat) : Int) = (i : Int) + 1 := by omega
      rw [e1]; exact he'
    · obtain ⟨o, ho, r⟩ := hst'
      exact ⟨o, (sb.2 it (Ne.symm hne)).trans ho, r⟩
    · exact hg
    · have hb' : b < s.heap.objs.size := by
        have e' : b = e ∨ b = it := by simpa using hb
        rcases e' with z | z
        · rw [z]; exact hel
        · rw [z]; exact hil
      rw [upd_ne (Nat.ne_of_lt hb')]
      exact (hf b hb).1
  done := by
    intro X hP hw hK hc i pins s σ H E I hf st hg
    subst hP hw hK
    obtain ⟨⟨old, he⟩, hit, hne, hlz⟩ := st
    have hi : i = z.cps.size := Nat.le_antisymm hlz hg
    subst hi
    obtain ⟨f0, f1, f2, f3, f4, f5⟩ := hf it (by simp)
    have hh : X.A.in1.handled = none := I.ok.hd hc
    exact wpAny_pyNext_enum_endD (A := X.A) (drawsS hh it z t) he hit fun h' eb => ⟨rfl, I.turned (t' := s.toks) (fun b o hb q => eb b o hb q) f0 f1 f3 f4 f5⟩
  self := fun A i s Q E st h => let ⟨⟨_, he⟩, _⟩ := st; wpAny_pyIter_enum he h
/-- for i, c in enumerate(text) -/
noncomputable def iEnumS (ta : TA) : TI := fun σ H R => ta σ H fun vs H1 => ∃ z : Str, vs = [.str z] ∧ R (IteS z) H1
theorem pi_enumS {X : Cx} {e : Expr} {ta : TA} {p pos tpos : Pos} {elts : List Expr} {kk : Nat} (hg : Gl X "enumerate") (hm : X.mg "enumerate" = none) (ha : PA X [e] ta) (hs : starEach [e] X.env = [(false, eval e X.env)] := by rfl) :
    PI X (.Tuple elts kk tpos) (.Call (.Name "enumerate" p) [e] [] pos) (iEnumS ta) := by
  refine ⟨fun pins s σ H R I h => ?_⟩
  refine Call_ (ld_blt I hg hm boot_enumerate (PyProof.Rows.callWith_type1 (thn (ha.run pos pins s σ H _ I h) fun us s1 ⟨vs, H1, I1, r1, z, ex, q⟩ => ?_) hs rfl))
  subst ex
  cases r1 with
  | cons r rr =>
    cases rr
    obtain ⟨t, rfl⟩ := r
    refine call_en1 (begins_text z t) trivial fun h' he hit hsz hk => wpAny_pyIter_enum he ?_
    have I2 : Inv X pins σ H1 { s1 with heap := h' } := I1.kept (t' := s1.toks) hk
    refine ⟨s1.heap.objs.size + 1, [s1.heap.objs.size + 1, s1.heap.objs.size], _, _, H1, rfl, I2, turn_enumS (z := z) (t := t) (s1.heap.objs.size + 1) s1.heap.objs.size, ⟨⟨.none, he⟩, ⟨_, hit, rfl, rfl⟩, Nat.succ_ne_self _, Nat.zero_le _⟩, fun b hb => ?_, q⟩
    have e' : b = s1.heap.objs.size + 1 ∨ b = s1.heap.objs.size := by simpa using hb
    have hle : s1.heap.objs.size ≤ b := by
      rcases e' with z | z
      · rw [z]; exact Nat.le_add_right _ _
      · rw [z]; exact Nat.le_refl _
    exact I1.fpOk hle (I1.hok.fresh hle)
end U

end
section
/-! Own exceptions of two fields: a name and a word; a word and a place. -/
namespace U
open PySem PySem.W PyProof.Rows L2 Evl
/-- a word that is always the same, and a place -/
noncomputable abbrev gAt (w : Str) : List V → Option (List (Str × V)) := fun ws => match ws with
  | [v] => some [("at", v), ("word", .str w)]
  | _ => none
noncomputable def t_At (K : Fg) (w : Str) : TS := tSeq (tDrop (tCall (spIn K ["word"] gWd) [] E0 (tCons (tVar 0) (tCons (tC (V.str w)) tNil)))) (tOx K "at" (tVar 0) (tVar 1))
section
variable {Pg : Program} {w : World} {K : Fg} {mg : Str → Option Value} {base : Heap} {cs : Cs}
theorem gone_len {ws : List V} {fs : List (Str × V)} {f : V → List (Str × V)} {g : List V → Option (List (Str × V))} (e : ∀ v, g [v] = some (f v)) (e0 : g [] = none) (e2 : ∀ a b r, g (a :: b :: r) = none) (h : g ws = some fs) : ∃ v, ws = [v] ∧ fs = f v := by
  rcases ws with _ | ⟨n, _ | ⟨v, r⟩⟩
  · rw [e0] at h; cases h
  · rw [e] at h; cases h; exact ⟨n, rfl, rfl⟩
  · rw [e2] at h; cases h
theorem okAt (wd : Str) {st : Stmt} {qual : Str} {f : Addr} {fd : FuncData} {k : Nat} (F : Fun K "__init__" qual st f fd) (S : FnScope ["self", "at"] ["self", "at"] (defScope st))
    (hb : ∀ (cdv : Value) (A : Around) (outer : List Env) (sh : Shared) (H : Hp) (E : XK), Room k (A.deeper (envOfC qual (defScope st) sh.heap.objs.size f cdv)) → PSs (cxOf CX0 Pg w K mg base ["self", "at"] qual (defScope st) f cdv A outer sh H E).nox (defBody st) (t_At K wd)) : FnOk Pg w K mg base CX0 (k + 1) f fd ["self", "at"] (spIn K ["word", "at"] (gAt wd)) := qt_of (by simp (disch := with_unfolding_all
  have key : ∀ {ws fs}, gAt wd ws = some fs → ∃ v, ws = [v] ∧ fs = [(("at" : Str), v), (("word" : Str), V.str wd)] := fun h => gone_len (fun v => rfl) rfl (fun _ _ _ => rfl) h
  refine F.ok S (fun vs H Q E h => ?_) (fun cdv A outer sh H vs Q E hr h => ?_)
  · obtain ⟨a, C, ws, fs, rfl, _, _, _, hg, _⟩ := h
    obtain ⟨v, rfl, rfl⟩ := key hg
    rfl
  · obtain ⟨a, C, ws, fs, rfl, ha, ox, hn, hg, q⟩ := h
    obtain ⟨v, rfl, rfl⟩ := key hg
    refine ⟨_, hb cdv A outer sh H E hr, ?_⟩
    refine ⟨.ref a, rfl, a, C, [.str wd], _, rfl, ha, ox, fun n m => hn n (by simp at m; simp [m]), rfl, fun d H' h1 h2 h3 h4 => ?_⟩
    have hda : d ≠ a := fun z => by rw [z, ha] at h1; cases h1
    refine ⟨v, rfl, .ref a, rfl, a, C, rfl, ox, hn _ (by simp), .inr ⟨d, _, h2, h3, by show 1 ≤ 900; decide, ?_⟩⟩
    exact q d _ h1 (by rw [upd_ne (Ne.symm hda)]; exact h2) upd_same fun b k1 k2 => by rw [upd_ne k2]; exact h4 b k1 k2
  ) only [↓qt_eq])
end
end U

end
section
/-! Steps of which one knows that a token has been given out (str.replace of written texts wants it). -/
namespace U
open PySem PySem.Spec PyProof.Rows L2
/-- a def's promise, kept where a token is out -/
structure FnOkT (P : Program) (w : World) (K : PySem.W.Frag) (mg : Str → Option Value) (base : Heap) (CX : CXT) (k : Nat) (f : Addr) (fd : FuncData) (ps : List Str) (sp : Sp) : Prop where
  len : ∀ vs H Q E, sp vs H Q E → vs.length = ps.length
  run : ∀ (A : Around) (outer : List Env) (s : Shared) (H : Hp) (args : Args) (us : List Value) (vs : List V) (Q : VK) (E : XK), 1 ≤ s.toks → Room k A → Env0 P w K mg base A outer s H → BindsTo s fd args (ps.zip us) → Vals vs us → sp vs H Q E →
    codeAny (model P w) A (.call (.ref f) args) (CR CX outer P w H s Q E) s
section
variable {P : Program} {w : World} {K : PySem.W.Frag} {mg : Str → Option Value} {base : Heap}
theorem fn_ofT {CX : CXT} {k : Nat} {f : Addr} {name qual : Str} {params : Arguments} {body : List Stmt} {scope : Scope} {dV kV doc pm cdv ct oc : Value} {an od : Option Addr}
    {osl : Array (Option Value)} {N ps : List Str} {sp : Sp} (lk : K.lookup f = some ⟨oc, od, .func (PySem.W.fnOf name qual params body scope dV kV doc pm an cdv ct), osl⟩) (hcd : PySem.W.codeIn K cdv qual = true) (S : FnScope N ps scope)
    (len : ∀ vs H Q E, sp vs H Q E → vs.length = ps.length)
    (hbody : ∀ (A : Around) (outer : List Env) (s : Shared) (H : Hp) (vs : List V) (Q : VK) (E : XK), Room k (A.deeper (envOfC qual scope s.heap.objs.size f cdv)) → sp vs H Q E →
      ∃ t, PSsT (cxOf CX P w K mg base N qual scope f cdv A outer s H E) body t ∧ t { nx := fun _ H' => Q .non H', rt := Q } (L2.start N vs) H) :
    FnOkT P w K mg base CX (k + 1) f (PySem.W.fnOf name qual params body scope dV kV doc pm an cdv ct) ps sp := qt_of (by simp (disch := with_unfolding_all
  refine ⟨len, fun A outer s H args us vs Q E h0 hr e0 hb r hsp => ?_⟩
  have hl := len _ _ _ _ hsp
  have KX : K.In s.heap := e0.mod.kin.keeps fun b o e => (e0.bs b o e).1
  have lim : s.heap.NoLimit := e0.mod.nolimit.keeps fun b o e => (e0.bs b o e).1
  have hkind : ∀ y ∈ ps.zip us, scope.names.lookup y.1 = some .local ∨ (scope.names.lookup y.1 = some .cell ∧ ((cellsFrom (s.heap.objs.size + 1) scope.names []).lookup y.1).isSome = true) := fun ⟨n, v⟩ hy => by
    rcases S.par n (List.of_mem_zip hy).1 with q | q
    · exact .inl q
    · exact .inr ⟨q, PySem.W.cellsFrom_some _ _ _ (.inl q)⟩
  refine codeAny_call_function hr.depth (KX _ _ lk) rfl S.co S.gen rfl (PySem.W.codeRec_of KX hcd) (hb _ _ _ _ ?_)
  refine wpAny_with_toks h0 (wpAny_newFunctionEnv_cells S.kind hkind fun env he s1 x ht1 => ?_)
  subst he
  refine ⟨lim.keeps x.toInCall.keep, codeAny_func ?_⟩
  obtain ⟨t, ht, hq⟩ := hbody A outer s H vs Q E (hr.deeper _) hsp
  have I : Inv (cxOf CX P w K mg base N qual scope f cdv A outer s H E) [] (L2.start N vs) H s1 := inv_start S hr.hd e0 hl r x
  refine wpAny_mono (ht [] s1 (L2.start N vs) H _ ht1 I hq) (fun fl s' hs => ?_) fun e s' hs => hs
  have fin : ∀ {σ' : St} {H' : Hp} {v : V} {u : Value}, Inv (cxOf CX P w K mg base N qual scope f cdv A outer s H E) [] σ' H' s' → RelV v u → Q v H' → CE outer P w H s Q u s' :=
    fun {σ' H' v u} J rv q => ⟨v, H', J.os, J.bare, J.base, J.hok, rv, q⟩
  cases fl with
  | ret u =>
    obtain ⟨v, σ', H', J, rv, q⟩ := hs
    exact fin J rv q
  | next =>
    obtain ⟨σ', H', J, q⟩ := hs
    exact fin (v := V.non) (u := Value.none) J rfl q
  | brk =>
    obtain ⟨_, _, _, q⟩ := hs
    exact False.elim q
  | cont =>
    obtain ⟨_, _, _, q⟩ := hs
    exact False.elim q
  ) only [↓qt_eq])
theorem PSsT.nox {X : Cx} {st : List Stmt} {t : TS} (h : PSsT X.nox st t) : PSsT X st t := fun pins s σ H D h0 I hw =>
  wpAny_mono (h pins s σ H D h0 (I.wish _) hw) (fun _ _ q => q.unwish) fun _ _ z => False.elim z
/-- a def by its body -/
theorem fun_okT {x qual : Str} {st : Stmt} {f : Addr} {fd : FuncData} {N ps : List Str} {k : Nat} {sp : Sp} (F : Fun K x qual st f fd) (S : FnScope N ps (defScope st)) (len : ∀ vs H Q E, sp vs H Q E → vs.length = ps.length)
    (hbody : ∀ (cdv : Value) (A : Around) (outer : List Env) (s : Shared) (H : Hp) (vs : List V) (Q : VK) (E : XK), Room k (A.deeper (envOfC qual (defScope st) s.heap.objs.size f cdv)) → sp vs H Q E →
      ∃ t, PSsT (cxOf CX0 P w K mg base N qual (defScope st) f cdv A outer s H E).nox (defBody st) t ∧ t { nx := fun _ H' => Q .non H', rt := Q } (L2.start N vs) H) : FnOkT P w K mg base CX0 (k + 1) f fd ps sp := qt_of (by simp (disch := with_unfolding_all
  obtain ⟨oc, od, kV, doc, pm, an, cdv, ct, osl, rfl, lk, hcd⟩ := F.ex
  refine fn_ofT lk hcd S len fun A outer s H vs Q E hr hsp => ?_
  obtain ⟨t, h, q⟩ := hbody cdv A outer s H vs Q E hr hsp
  exact ⟨t, PSsT.nox h, q⟩
  ) only [↓qt_eq])
end
section
variable {X : Cx} {CX : CXT} {k : Nat} {f : Addr} {fd : FuncData} {ps : List Str} {sp : Sp} {dvs : List V} {ds : List Value} {E : XK} {x : Str} {p pos pos' : Pos} {e o a b : Expr} {es : List Expr} {ta te tb to : TE} {t : TA}
theorem run_fnT {pins : List (Addr × Obj)} {σ : St} {H : Hp} {s : Shared} {Q : VK} {us : List Value} {vs : List V} (F : FnOkT X.prog X.w X.K X.mg X.base CX k f fd ps sp) (h0 : 1 ≤ s.toks) (hr : Room k X.A) (hb : Binds X.K fd ps ds) (hd : Vals dvs ds) (hx : Passes CX X E)
    (I : Inv X pins σ H s) (r : Vals vs us) (h : sp (vs ++ dvs) H Q E) : wpAny (model X.prog X.w) X.A (call (.ref f) us) (EP X pins σ Q) X.xe s := qt_of (by simp (disch := with_unfolding_all
  have r2 : Vals (vs ++ dvs) (us ++ ds) := r.append hd
  have hl : (us ++ ds).length = ps.length := by rw [← r2.length]; exact F.len _ _ _ _ h
  refine wpAny_call (codeAny_mono (F.run X.A X.stack s H ⟨us, []⟩ (us ++ ds) (vs ++ dvs) Q E h0 hr I.env0 (hb s us I.kIn hl) r2 h) fun r s' hq => ?_)
  cases r with
  | error e => exact hx pins σ H s e s' I hq
  | ok fl =>
    cases fl with
    | ret u => exact I.after hq
    | next => exact False.elim hq
    | brk => exact False.elim hq
    | cont => exact False.elim hq
  ) only [↓qt_eq])
/-- f(..): f wants a token out -/
theorem pet_callT (F : FnOkT X.prog X.w X.K X.mg X.base CX k f fd ps sp) (hr : Room k X.A) (hg : Gl X x) (hm : X.mg x = some (.ref f)) (hk : PySem.W.keepIn X.K (.ref f) = true) (hb : Binds X.K fd ps ds) (hd : Vals dvs ds) (hx : Passes CX X E)
    (ha : PA X (e :: es) t) (hdb : (x == ("__debug__" : Str)) = false := by decide) (he : starEach (e :: es) X.env = (false, eval e X.env) :: starEach es X.env := by rfl) (hpl : (backTo pos (starEach es X.env)).any (·.1) = false := by rfl) :
    PET X (.Call (.Name x p) (e :: es) [] pos) (tCall sp dvs E t) := by
  intro pins s σ H Q h0 I h
  refine wpAny_Call_Name_kw (ld_glob I hg hm ?_ hdb)
  refine PySem.W.callWith_K (h₀ := X.base) I.ok.mod.kin hk (wpAny_mono (wpAny_toks_of h0 (ha.run pos pins s σ H _ I h)) (fun us s1 ⟨h1, vs, H1, I1, r, q⟩ => ⟨I1.kIn, ?_⟩) fun _ _ z => z.2) he hpl
  exact run_fnT F h1 hr hb hd hx I1 r q
/-- x = e, a token out -/
theorem pst_set {i : Nat} (hN : X.N.Nodup) (hi : X.N[i]? = some x) (hx : Loc X.env.scope x) (he : PET X e te) (hs : swapsWith e (some (.Name x pos')) pos.line X.env = pure false := by rfl) (hf : X.fn x = true ∨ X.env.scope.names.lookup x = some .local := by first | exact .inl rfl | exact .inr rfl | assumption) :
    PST X (.Assign [.Name x pos'] e pos) (tAsg te (gName i)) := by
  intro pins s σ H D h0 I h
  refine wpAny_Assign_Name (thn (he pins s σ H _ h0 I h) fun v s1 ⟨y, H1, I1, r1, q1⟩ => ?_) hs
  exact store_ok I1 hN hi hx r1 (fun s2 I2 => ⟨_, H1, I2, q1⟩) hf
/-- a statement behind which a token is out -/
noncomputable def PSt (X : Cx) (st : Stmt) (t : TS) : Prop :=
  ∀ (pins : List (Addr × Obj)) (s : Shared) (σ : St) (H : Hp) (D : Ends), Inv X pins σ H s → t D σ H → wpAny (model X.prog X.w) X.A (exec st X.env) (fun f s1 => 1 ≤ s1.toks ∧ SP X pins D f s1) X.xe s
theorem pss_consT {st : Stmt} {rest : List Stmt} {t u : TS} (h1 : PSt X st t) (h2 : PSsT X rest u) : PSs X (st :: rest) (tSeq t u) := qt_of (by simp (disch := with_unfolding_all
  refine ⟨fun pins s σ H D I h => ?_⟩
  refine wpAny_execs_cons (thn (h1 pins s σ H { D with nx := u D } I h) fun f s1 q => ?_)
  obtain ⟨hk, q⟩ := q
  cases f with
  | next =>
    obtain ⟨σ', H', I', q⟩ := q
    exact h2 pins s1 σ' H' D hk I' q
  | ret v => exact q
  | brk => exact q
  | cont => exact q
  ) only [↓qt_eq])
/-- e.split(), a token out -/
theorem pet_words {apos pos : Pos} (ho : PET X o to) (hbase : attributeBase o "split" X.env (eval o X.env) = eval o X.env := by rfl) (hline : (apos.endLine == pos.line) = true := by rfl) :
    PET X (.Call (.Attribute o "split" apos) [] [] pos) (tM0 (fun x xs H Q => ∃ a, x = .str a ∧ xs = [] ∧ a.length + 2 ≤ sizeLine ∧ rNewStrs (Txt.words a) H Q) to) := by
  intro pins s σ H Q h0 I h
  refine PySem.Call_method0 hbase hline (thn (ho pins s σ H _ h0 I h) fun v s1 ⟨x, H1, I1, r1, q1⟩ => ?_)
  obtain ⟨⟨a, rfl⟩, q1⟩ := q1
  obtain ⟨t, rfl⟩ := _root_.id r1
  exact ⟨"str", _, F.plainAttrs_str, F.slot_str_split, F.type_str_split, typeIs_str _ _ _, (fun _ e => nomatch e), Calls.callWith_builtin rfl (PySem.evalArgs_none (mt_words pins s1 σ H1 _ [] _ [] Q I1 r1 .nil q1))⟩
/-- an expression that gives a token out -/
noncomputable def PEg (X : Cx) (e : Expr) (t : TE) : Prop :=
  ∀ (pins : List (Addr × Obj)) (s : Shared) (σ : St) (H : Hp) (Q : VK), Inv X pins σ H s → t σ H Q → wpAny (model X.prog X.w) X.A (eval e X.env) (fun v s1 => 1 ≤ s1.toks ∧ EP X pins σ Q v s1) X.xe s
noncomputable def PAg (X : Cx) (es : List Expr) (t : TA) : Prop :=
  ∀ (pos : Pos) (pins : List (Addr × Obj)) (s : Shared) (σ : St) (H : Hp) (Q : List V → Hp → Prop), Inv X pins σ H s → t σ H Q → wpAny (model X.prog X.w) X.A (spliced (backTo pos (starEach es X.env))) (fun us s1 => 1 ≤ s1.toks ∧ AP X pins σ Q us s1) X.xe s
theorem peg_int {i : Int} {j : Nat} : PEg X (.Constant (.int i) j pos) (tC (.int i)) := fun _ s _ H _ I h => wpAny_Constant_int ⟨by show 1 ≤ s.toks + 1; omega, .int i, H, I.tok _, ⟨_, rfl⟩, h⟩
theorem peg_opL {op : Operator} {r : R2} (ho : OpR X (binaryOp op) r) (ha : PEg X a ta) (hb : PE X b tb) : PEg X (.BinOp a op b pos) (tOp r ta tb) := by
  intro pins s σ H Q I h
  refine wpAny_BinOp (thn (ha pins s σ H _ I h) fun v s1 ⟨hk, x, H1, I1, r1, q1⟩ => ?_)
  refine wpAny_mono (wpAny_toks_of hk (hb.run pins s1 σ H1 _ I1 q1)) (fun u s2 ⟨hk2, y, H2, I2, r2, q2⟩ => ?_) fun _ _ z => z.2
  exact wpAny_mono (wpAny_toks_of hk2 (ho pins s2 σ H2 x y v u Q I2 r1 r2 q2)) (fun _ _ q => q) fun _ _ z => z.2
theorem pag_here (ha : PEg X e te) (hr : PA X es t) (hs : starEach (e :: es) X.env = (false, eval e X.env) :: starEach es X.env := by rfl) : PAg X (e :: es) (tCons te t) := by
  intro pos pins s σ H Q I h
  rw [hs]
  show wpAny _ _ (spliced ((false, eval e X.env) :: backTo pos (starEach es X.env))) _ _ s
  refine Calls.spliced_cons (thn (ha pins s σ H _ I h) fun v s1 ⟨hk, x, H1, I1, r1, q1⟩ => ?_)
  exact wpAny_mono (wpAny_toks_of hk (hr.run pos pins s1 σ H1 _ I1 q1)) (fun us s2 ⟨hk2, xs, H2, I2, r2, q2⟩ => ⟨hk2, x :: xs, H2, I2, .cons r1 r2, q2⟩) fun _ _ z => z.2
theorem pag_there (ha : PE X e te) (hr : PAg X es t) (hs : starEach (e :: es) X.env = (false, eval e X.env) :: starEach es X.env := by rfl) : PAg X (e :: es) (tCons te t) := by
  intro pos pins s σ H Q I h
  rw [hs]
  show wpAny _ _ (spliced ((false, eval e X.env) :: backTo pos (starEach es X.env))) _ _ s
  refine Calls.spliced_cons (thn (ha.run pins s σ H _ I h) fun v s1 ⟨x, H1, I1, r1, q1⟩ => ?_)
  exact thn (hr pos pins s1 σ H1 _ I1 q1) fun us s2 ⟨hk2, xs, H2, I2, r2, q2⟩ => ⟨hk2, x :: xs, H2, I2, .cons r1 r2, q2⟩
theorem peg_call (F : FnOk X.prog X.w X.K X.mg X.base CX k f fd ps sp) (hr : Room k X.A) (hg : Gl X x) (hm : X.mg x = some (.ref f)) (hk : PySem.W.keepIn X.K (.ref f) = true) (hb : Binds X.K fd ps ds) (hd : Vals dvs ds) (hx : Passes CX X E)
    (ha : PAg X (e :: es) t) (hdb : (x == ("__debug__" : Str)) = false := by decide) (he : starEach (e :: es) X.env = (false, eval e X.env) :: starEach es X.env := by rfl) (hpl : (backTo pos (starEach es X.env)).any (·.1) = false := by rfl) :
    PEg X (.Call (.Name x p) (e :: es) [] pos) (tCall sp dvs E t) := by
  intro pins s σ H Q I h
  refine wpAny_Call_Name_kw (ld_glob I hg hm ?_ hdb)
  refine PySem.W.callWith_K (h₀ := X.base) I.ok.mod.kin hk (thn (ha pos pins s σ H _ I h) fun us s1 ⟨ht, vs, H1, I1, r, q⟩ => ⟨I1.kIn, ?_⟩) he hpl
  exact wpAny_mono (wpAny_toks_of ht (run_fn F hr hb hd hx I1 r q)) (fun _ _ q => q) fun _ _ z => z.2
theorem pst_setg {i : Nat} (hN : X.N.Nodup) (hi : X.N[i]? = some x) (hx : Loc X.env.scope x) (he : PEg X e te) (hs : swapsWith e (some (.Name x pos')) pos.line X.env = pure false := by rfl) (hf : X.fn x = true ∨ X.env.scope.names.lookup x = some .local := by first | exact .inl rfl | exact .inr rfl | assumption) :
    PSt X (.Assign [.Name x pos'] e pos) (tAsg te (gName i)) := by
  intro pins s σ H D I h
  refine wpAny_Assign_Name (thn (he pins s σ H _ I h) fun v s1 ⟨ht, y, H1, I1, r1, q1⟩ => ?_) hs
  exact wpAny_mono (wpAny_toks_of ht (store_ok (Q := fun _ s2 => SP X pins D .next s2) I1 hN hi hx r1 (fun s2 I2 => ⟨_, H1, I2, q1⟩) hf)) (fun _ _ q => ⟨q.1, q.2⟩) fun _ _ z => z.2
end
end U

end
section
namespace U
open PySem PyProof.Rows L2 Evl
local macro_rules | `(tactic| walk_at "ev1") => `(tactic| first
  | exact ev_int | exact ev_bl | exact ev_str | exact ev_non | exact ev_var rfl | exact ea_nil | exact eo_none
  | with_reducible apply ev_ixDisp | with_reducible apply ev_fst | with_reducible apply ev_snd
  | with_reducible apply ev_add | with_reducible apply ev_sub | with_reducible apply ev_mul | with_reducible apply ev_fdiv | with_reducible apply ev_mod | with_reducible apply ev_pow
  | with_reducible apply ev_lt | with_reducible apply ev_le | with_reducible apply ev_gt | with_reducible apply ev_ge
  | with_reducible apply ev_eqI | with_reducible apply ev_neI
  | with_reducible apply ev_neg | with_reducible apply ev_subB | with_reducible apply ev_isNo | with_reducible apply ev_noNo
  | with_reducible apply ev_not | with_reducible apply et_test | with_reducible apply et_B | with_reducible apply et_not
  | with_reducible apply ev_abs | with_reducible apply ev_max | with_reducible apply ev_min | with_reducible apply ev_intB
  | with_reducible apply ev_gcd | with_reducible apply ev_frac | with_reducible apply ev_fadd | with_reducible apply ev_sign | with_reducible apply ev_cmpF
  | with_reducible apply ev_pull rfl
  | with_reducible apply ev_like
  | with_reducible apply ev_tup | with_reducible apply ev_lst | with_reducible apply ea_cons | with_reducible apply eo_some
  | with_reducible apply ev_order | exact ev_part rfl | exact ev_far rfl | exact ev_farPart rfl
  | (with_reducible show List.length _ ≤ 16000000; (simp; done)) | (with_reducible show (0 : Int) < _; decide) | (with_reducible show (_ : Int) < 1000000000000; decide) | (with_reducible show CPow _ _; (unfold CPow; decide)) | (with_reducible show CNz _ _; (unfold CNz; decide))
  | with_reducible apply sg_ret | with_reducible apply sg_asg | with_reducible apply sg_next)
local macro_rules | `(tactic| walk_at "ln") => `(tactic| first | walk_at "ev1" | with_reducible apply sg_seq)
section

/-! ### part -/
theorem fdiv_neg2 (a g : Int) : a.fdiv (-g) = (-a).fdiv g := by
  have h := Int.neg_fdiv_neg (-a) g
  rw [Int.neg_neg] at h
  exact h
theorem gI_one (a : Int) : gI a 1 = 1 := by
  unfold gI gN
  show ((max (Nat.gcd a.natAbs 1) 1 : Nat) : Int) = 1
  rw [Nat.gcd_one_right]
  rfl
section
variable {K : Fg} {cs : Cs} {W : WX} {G : Gam} {s s1 s2 s' : Bag} {ta tb te : TE} {x y : PyData} {E : St → XK}
end
section
variable {K : Fg} {cs : Cs}
-- slots of part: 0 above, 1 below, 2 divisor
-- slots of told01: 0 _law_above, 1 _law_below, 2 why
end

end
section

noncomputable def mulF (p q : Fr) : Fr := fracF (p.1 * q.1) (p.2 * q.2)
theorem fdiv_pos {c g : Int} (hg : 0 < g) (h : g ≤ c) : 0 < c.fdiv g := by
  rw [Int.fdiv_eq_ediv_of_nonneg _ (Int.le_of_lt hg)]
  have : 1 ≤ c / g := Int.le_ediv_of_mul_le hg (by omega)
  omega
theorem gI_le_right {a b : Int} (hb : b ≠ 0) : gI a b ≤ (b.natAbs : Int) := qt_of (by simp (disch := with_unfolding_all
  unfold gI gN
  have h1 : 0 < b.natAbs := Int.natAbs_pos.mpr hb
  have h2 := Nat.gcd_le_right (m := a.natAbs) (n := b.natAbs) h1
  have : max (Nat.gcd a.natAbs b.natAbs) 1 ≤ b.natAbs := Nat.max_le.mpr ⟨h2, h1⟩
  omega
  ) only [↓qt_eq])
theorem fracF_pos {a b : Int} (hb : b ≠ 0) : 0 < (fracF a b).2 := qt_of (by simp (disch := with_unfolding_all
  have hg := gI_pos a b
  have hl := gI_le_right (a := a) hb
  unfold fracF
  by_cases h : b < 0
  · show 0 < b.fdiv (if b < 0 then -gI a b else gI a b)
    rw [if_pos h, fdiv_neg2]
    exact fdiv_pos hg (by omega)
  · rw [if_neg h]
    exact fdiv_pos hg (by omega)
  ) only [↓qt_eq])
theorem partOf_pos (s : Bag) : 0 < (partOf s).2 := qt_of (by simp (disch := with_unfolding_all
  obtain ⟨y1, y2⟩ := pullV_range (pullS s 13) (n := 4) (by decide)
  have hm := menu_mem (l := [1, 1, 2, 3]) y1 y2
  refine fracF_pos ?_
  generalize menu _ _ = m at hm
  simp only [List.mem_cons, List.not_mem_nil, or_false] at hm
  omega
  ) only [↓qt_eq])
section
variable {K : Fg} {cs : Cs} {W : WX} {G : Gam} {s s1 s2 s' : Bag} {ta tb te : TE} {x y : PyData} {E : St → XK} {E' : XK} {p q : Fr}
-- slots of plus: 0 one, 1 other
-- slots of minus: 0 one, 1 other
-- slots of times: 0 one, 1 other
-- slots of over: 0 one, 1 other
-- slots of middle: 0 one, 1 other
-- slots of _law_sub: 0 _law_one, 1 _law_other
-- slots of _law_mul: 0 _law_one, 1 _law_other
-- slots of _law_div: 0 _law_one, 1 _law_other
-- slots of told03: 0 _law_one, 1 _law_other, 2 why
end

end
section

/-! ### fractions in lowest terms -/
theorem gI_dvd_left {a b : Int} (hb : b ≠ 0) : ∃ c, a = gI a b * c := qt_of (by simp (disch := with_unfolding_all
  have e : gI a b = (Nat.gcd a.natAbs b.natAbs : Nat) := by
    unfold gI gN
    have : 0 < Nat.gcd a.natAbs b.natAbs := Nat.gcd_pos_of_pos_right _ (Int.natAbs_pos.mpr hb)
    have : max (Nat.gcd a.natAbs b.natAbs) 1 = Nat.gcd a.natAbs b.natAbs := Nat.max_eq_left this
    omega
  rw [e]
  exact Int.ofNat_dvd_left.mpr (Nat.gcd_dvd_left _ _)
  ) only [↓qt_eq])
theorem gI_dvd_right {a b : Int} (hb : b ≠ 0) : ∃ c, b = gI a b * c := qt_of (by simp (disch := with_unfolding_all
  have e : gI a b = (Nat.gcd a.natAbs b.natAbs : Nat) := by
    unfold gI gN
    have : 0 < Nat.gcd a.natAbs b.natAbs := Nat.gcd_pos_of_pos_right _ (Int.natAbs_pos.mpr hb)
    have : max (Nat.gcd a.natAbs b.natAbs) 1 = Nat.gcd a.natAbs b.natAbs := Nat.max_eq_left this
    omega
  rw [e]
  exact Int.ofNat_dvd_left.mpr (Nat.gcd_dvd_right _ _)
  ) only [↓qt_eq])
/-- fracF by its factor -/
theorem fracF_spec {a b : Int} (hb : b ≠ 0) : ∃ k : Int, k ≠ 0 ∧ a = k * (fracF a b).1 ∧ b = k * (fracF a b).2 ∧ k.natAbs = Nat.gcd a.natAbs b.natAbs := qt_of (by simp (disch := with_unfolding_all
  have hg := gI_pos a b
  have hn : gI a b = (Nat.gcd a.natAbs b.natAbs : Nat) := by
    unfold gI gN
    have : 0 < Nat.gcd a.natAbs b.natAbs := Nat.gcd_pos_of_pos_right _ (Int.natAbs_pos.mpr hb)
    have : max (Nat.gcd a.natAbs b.natAbs) 1 = Nat.gcd a.natAbs b.natAbs := Nat.max_eq_left this
    omega
  obtain ⟨c, hc⟩ := gI_dvd_left (a := a) hb
  obtain ⟨d, hd⟩ := gI_dvd_right (a := a) hb
  have fd : ∀ (g x : Int), g ≠ 0 → (g * x).fdiv g = x := fun g x h => Int.mul_fdiv_cancel_left x h
  unfold fracF
  by_cases h : b < 0
  · rw [if_pos h]
    refine ⟨-gI a b, by omega, ?_, ?_, by rw [Int.natAbs_neg, hn, Int.natAbs_natCast]⟩
    · have : a = -gI a b * -c := by rw [Int.neg_mul_neg]; exact hc
      show a = -gI a b * a.fdiv (-gI a b)
      have e := fd (-gI a b) (-c) (by omega)
      rw [← this] at e
      rw [e]; exact this
    · have : b = -gI a b * -d := by rw [Int.neg_mul_neg]; exact hd
      show b = -gI a b * b.fdiv (-gI a b)
      have e := fd (-gI a b) (-d) (by omega)
      rw [← this] at e
      rw [e]; exact this
  · rw [if_neg h]
    refine ⟨gI a b, by omega, ?_, ?_, by rw [hn, Int.natAbs_natCast]⟩
    · show a = gI a b * a.fdiv (gI a b)
      have e := fd (gI a b) c (by omega)
      rw [← hc] at e
      rw [e]; exact hc
    · show b = gI a b * b.fdiv (gI a b)
      have e := fd (gI a b) d (by omega)
      rw [← hd] at e
      rw [e]; exact hd
  ) only [↓qt_eq])
theorem fracF_low {a b : Int} (hb : b ≠ 0) : gI (fracF a b).1 (fracF a b).2 = 1 := qt_of (by simp (disch := with_unfolding_all
  obtain ⟨k, hk, h1, h2, h3⟩ := fracF_spec (a := a) hb
  have hpos : 0 < k.natAbs := Int.natAbs_pos.mpr hk
  generalize (fracF a b).1 = x at *
  generalize (fracF a b).2 = y at *
  have : Nat.gcd (k * x).natAbs (k * y).natAbs = k.natAbs * Nat.gcd x.natAbs y.natAbs := by
    rw [Int.natAbs_mul, Int.natAbs_mul, Nat.gcd_mul_left]
  rw [← h1, ← h2, ← h3] at this
  have g1 : Nat.gcd x.natAbs y.natAbs = 1 := Nat.eq_of_mul_eq_mul_left hpos (by rw [← this, Nat.mul_one])
  unfold gI gN
  rw [g1]
  rfl
  ) only [↓qt_eq])
theorem fracF_isPart {a b : Int} (hb : b ≠ 0) : isPart (fr (fracF a b)) = true := by
  show (decide (0 < (fracF a b).2) && decide (gI (fracF a b).1 (fracF a b).2 = 1)) = true
  rw [decide_eq_true (fracF_pos hb), decide_eq_true (fracF_low hb)]
  rfl
theorem partOf_isPart (s : Bag) : isPart (fr (partOf s)) = true := qt_of (by simp (disch := with_unfolding_all
  obtain ⟨y1, y2⟩ := pullV_range (pullS s 13) (n := 4) (by decide)
  have hm := menu_mem (l := [1, 1, 2, 3]) y1 y2
  refine fracF_isPart ?_
  generalize menu _ _ = m at hm
  simp only [List.mem_cons, List.not_mem_nil, or_false] at hm
  omega
  ) only [↓qt_eq])
/-! ### spots -/
section
variable {K : Fg} {cs : Cs} {W : WX} {G : Gam} {s s1 s2 s' : Bag} {ta tb te : TE} {x y : PyData} {E : XK}
-- slots of is_spot: 0 thing, 1 room, 2 one
-- slots of _law_spot: 0 _law_bag_here, 1 _law_rank, 2 _law_at
end

end
end U
end
section
namespace U
open PySem PyProof.Rows L2 Evl
/-! ### fractions as rational numbers -/
noncomputable def val (p : Fr) : Rat := (p.1 : Rat) / (p.2 : Rat)
structure Gd (n : Nat) (p : Fr) : Prop where
  sz : Sz n p
  pos : 0 < p.2
  low : gI p.1 p.2 = 1
theorem Gd.mono {n m : Nat} {p : Fr} (h : Gd n p) (l : n ≤ m) : Gd m p := ⟨h.sz.mono l, h.pos, h.low⟩
theorem partOf_gd (s : Bag) : Gd 10 (partOf s) := qt_of (by simp (disch := with_unfolding_all
  refine ⟨partOf_sz s, partOf_pos s, ?_⟩
  have h := partOf_isPart s
  have h : (decide (0 < (partOf s).2) && decide (gI (partOf s).1 (partOf s).2 = 1)) = true := h
  exact of_decide_eq_true (Bool.and_eq_true_iff.mp h).2
  ) only [↓qt_eq])
/-! ### signs -/
end U

end
section
namespace U
open PySem PyProof.Rows L2 Evl
local macro_rules | `(tactic| walk_at "ev1") => `(tactic| first
  | exact ev_int | exact ev_bl | exact ev_str | exact ev_non | exact ev_var rfl | exact ea_nil | exact eo_none
  | with_reducible apply ev_ixDisp | with_reducible apply ev_fst | with_reducible apply ev_snd
  | with_reducible apply ev_add | with_reducible apply ev_sub | with_reducible apply ev_mul | with_reducible apply ev_fdiv | with_reducible apply ev_mod | with_reducible apply ev_pow
  | with_reducible apply ev_lt | with_reducible apply ev_le | with_reducible apply ev_gt | with_reducible apply ev_ge
  | with_reducible apply ev_eqI | with_reducible apply ev_neI
  | with_reducible apply ev_neg | with_reducible apply ev_subB | with_reducible apply ev_isNo | with_reducible apply ev_noNo
  | with_reducible apply ev_not | with_reducible apply et_test | with_reducible apply et_B | with_reducible apply et_not
  | with_reducible apply ev_abs | with_reducible apply ev_max | with_reducible apply ev_min | with_reducible apply ev_intB
  | with_reducible apply ev_gcd | with_reducible apply ev_frac | with_reducible apply ev_fadd | with_reducible apply ev_sign | with_reducible apply ev_cmpF
  | with_reducible apply ev_pull rfl
  | with_reducible apply ev_like
  | with_reducible apply ev_tup | with_reducible apply ev_lst | with_reducible apply ea_cons | with_reducible apply eo_some
  | with_reducible apply ev_order | exact ev_part rfl | exact ev_far rfl | exact ev_farPart rfl
  | (with_reducible show List.length _ ≤ 16000000; (simp; done)) | (with_reducible show (0 : Int) < _; decide) | (with_reducible show (_ : Int) < 1000000000000; decide) | (with_reducible show CPow _ _; (unfold CPow; decide)) | (with_reducible show CNz _ _; (unfold CNz; decide))
  | with_reducible apply sg_ret | with_reducible apply sg_asg | with_reducible apply sg_next)
local macro_rules | `(tactic| walk_at "ln") => `(tactic| first | walk_at "ev1" | with_reducible apply sg_seq)
section

/-! ### rows of fractions -/
noncomputable abbrev frs (ps : List Fr) : PyData := .tuple (ps.map fr)
noncomputable def Gds (n : Nat) (ps : List Fr) : Prop := ∀ p ∈ ps, Gd n p
section
variable {K : Fg} {cs : Cs} {W : WX} {G : Gam} {s s1 s2 s3 s' : Bag} {ta tb tc te : TE} {x y : PyData} {E : XK}
/-! step_from, across, side_of -/
-- slots of step_from: 0 one, 1 other, 2 first, 3 second
-- slots of across: 0 one, 1 other
-- slots of side_of: 0 start, 1 end, 2 spot
/-! ### the law's own -/
-- slots of _law_hom: 0 _law_spot_here
-- slots of _law_det: 0 _law_one, 1 _law_two, 2 _law_three, 3 _law_first, 4 _law_second
-- slots of _law_turn: 0 _law_one, 1 _law_two, 2 _law_three
-- slots of _law_along: 0 _law_one, 1 _law_two, 2 _law_share, 3 _law_steps, 4 _law_at
end

end
section

section
variable {K : Fg} {cs : Cs} {W : WX} {G : Gam} {s s1 s2 s3 s4 s' : Bag} {ta tb tc td te : TE} {x y : PyData} {E : XK} {E2 : St → XK}
-- slots of gone: 0 spot, 1 step, 2 many, 3 first, 4 second
/-! crossing -/
structure Sp2 where
  x : Fr
  y : Fr
  deriving DecidableEq
noncomputable abbrev Sp2.l (p : Sp2) : List Fr := [p.x, p.y]
noncomputable abbrev Sp2.g (n : Nat) (p : Sp2) : Prop := Gds n p.l
-- slots of crossing: 0 start, 1 end, 2 other_start, 3 other_end, 4 step, 5 other_step, 6 span, 7 many
-- slots of told09: 0 _law_one, 1 _law_two, 2 _law_three, 3 _law_four, 4 why
/-! the law's own -/
-- slots of _law_mid: 0 _law_one, 1 _law_two, 2 _law_at
-- slots of _law_lowest: 0 _law_one, 1 _law_number
-- slots of _law_right: 0 _law_found, 1 _law_one, 2 _law_two, 3 _law_three, 4 _law_four, 5 _law_first, 6 _law_second
end

end
section

/-! ### lists or tuples -/
noncomputable def itemsOf : PyData → Option (List PyData)
  | .list xs => some xs
  | .tuple xs => some xs
  | _ => none
theorem items_cases {x : PyData} {xs : List PyData} (h : itemsOf x = some xs) : x = .list xs ∨ x = .tuple xs := by
  cases x <;> first | cases h | skip
  · exact .inl rfl
  · exact .inr rfl
section
variable {K : Fg} {cs : Cs} {gs : Gs} {W : WX} {G : Gam} {s s1 s2 s3 s' : Bag} {ta tb tc te : TE} {x y : PyData} {E : XK} {xs : List PyData}
/-! ### maps -/
noncomputable abbrev mp (m : List (List Fr)) : PyData := .tuple (m.map frs)
-- slots of map_of: 0 rows, 1 row, 2 one
end

end
section

theorem cutD_to (xs : List PyData) (k : Nat) : cutD xs none (some (k : Int)) = xs.take k := qt_of (by simp (disch := with_unfolding_all
  unfold cutD
  rw [HT.sIx_none, HT.sIx_nat, List.drop_zero, Nat.sub_zero]
  by_cases h : k ≤ xs.length
  · rw [Nat.min_eq_left h]
  · rw [Nat.min_eq_right (by omega), List.take_length, List.take_of_length_le (by omega)]
  ) only [↓qt_eq])
theorem cutD_from (xs : List PyData) (k : Nat) : cutD xs (some (k : Int)) none = xs.drop k := qt_of (by simp (disch := with_unfolding_all
  unfold cutD
  rw [HT.sIx_none, HT.sIx_nat]
  by_cases h : k ≤ xs.length
  · rw [Nat.min_eq_left h, List.take_of_length_le (by rw [List.length_drop]; omega)]
  · rw [Nat.min_eq_right (by omega), Nat.sub_self, List.take_zero, List.drop_of_length_le (by omega)]
  ) only [↓qt_eq])
section
variable {K : Fg} {cs : Cs} {gs : Gs} {W : WX} {G : Gam} {s s1 s2 s3 s' : Bag} {ta tb tc te : TE} {x y : PyData} {E : XK} {xs : List PyData}
-- slots of still: 0 room
noncomputable def straightM (m : List (List Fr)) : List (List Fr) := m.map fun row => row.dropLast ++ [(0, 1)]
-- slots of straightened: 0 way, 1 row
/-! ### drawn maps -/
noncomputable def wholePartOf (s : Bag) : Fr := (pullV s 9 - 4, 1)
noncomputable def P_wholePart : Bag → List PyData → PyData → Bag → Prop := fun s ds r s' => ds = [] ∧ r = fr (wholePartOf s) ∧ s' = pullS s 9
noncomputable def t__law_whole_part (K : Fg) : TS := (tRet (tTup (tCons (tOp (rI0 fun i j => V.int (i - j)) (tCall (spB K P_pull) [] E0 (tCons (tVar 0) (tCons (tC (V.int 9)) tNil))) (tC (V.int 4))) (tCons (tC (V.int 1)) tNil))))
-- slots of _law_whole_part: 0 _law_bag_here
theorem ln__law_whole_part : ∀ s ds r s', P_wholePart s ds r s' → ds.length + 1 = 1 := fun s ds r s' h => by obtain ⟨rfl, _⟩ := h; rfl
theorem rd__law_whole_part {s ds r s'} (h : P_wholePart s ds r s') (ok : s.ok) : SG K (t__law_whole_part K) (.bag :: frame 0 ds) s (.rt r s') := by
  obtain ⟨rfl, rfl, rfl⟩ := h
  exact sg_ret (ev_tup (ea_cons (ev_sub (ev_pull rfl ev_int (by decide) (by decide)) ev_int) (ea_cons ev_int ea_nil)) (by show 2 ≤ 16000000; decide))
theorem wholePartOf_gd (s : Bag) : Gd 10 (wholePartOf s) := by
  have h := pullV_range s (n := 9) (by decide)
  refine ⟨⟨?_, ?_⟩, by show (0 : Int) < 1; decide, gI_one _⟩
  · show Bd 10 (pullV s 9 - 4)
    unfold Bd; omega
  · show Bd 10 1
    unfold Bd; decide
noncomputable def entryOf (s : Bag) : Fr := if pullV s 2 = 0 then partOf (pullS s 2) else wholePartOf (pullS s 2)
noncomputable def entryS (s : Bag) : Bag := if pullV s 2 = 0 then partS (pullS s 2) else pullS (pullS s 2) 9
noncomputable def P_entry : Bag → List PyData → PyData → Bag → Prop := fun s ds r s' => ds = [] ∧ r = fr (entryOf s) ∧ s' = entryS s
theorem entryOf_gd (s : Bag) : Gd 10 (entryOf s) := by
  unfold entryOf
  split
  · exact partOf_gd _
  · exact wholePartOf_gd _
theorem entryS_ok {s : Bag} (h : s.ok) : (entryS s).ok := by
  unfold entryS
  split
  · exact partS_ok (pullS_ok _ h)
  · exact pullS_ok _ (pullS_ok _ h)
noncomputable def t__law_entry (K : Fg) : TS := (tRet (tIf (tTest (tOp rEq (tCall (spB K P_pull) [] E0 (tCons (tVar 0) (tCons (tC (V.int 2)) tNil))) (tC (V.int 0)))) (tCall (spB K P_part) [] E0 (tCons (tVar 0) tNil)) (tCall (spB K P_wholePart) [] E0 (tCons (tVar 0) tNil))))
-- slots of _law_entry: 0 _law_bag_here
theorem ln__law_entry : ∀ s ds r s', P_entry s ds r s' → ds.length + 1 = 1 := fun s ds r s' h => by obtain ⟨rfl, _⟩ := h; rfl
theorem rd__law_entry {s ds r s'} (h : P_entry s ds r s') (ok : s.ok) : SG K (t__law_entry K) (.bag :: frame 0 ds) s (.rt r s') := qt_of (by simp (disch := with_unfolding_all
  obtain ⟨rfl, rfl, rfl⟩ := h
  unfold entryOf entryS
  by_cases h : pullV s 2 = 0
  · rw [if_pos h, if_pos h]
    exact sg_ret (ev_ifT (et_is (et_test (ev_eqI (ev_pull rfl ev_int (by decide) (by decide)) ev_int)) (decide_eq_true h)) (ev_part rfl))
  · rw [if_neg h, if_neg h]
    exact sg_ret (ev_ifF (et_is (et_test (ev_eqI (ev_pull rfl ev_int (by decide) (by decide)) ev_int)) (decide_eq_false h)) (ev_b0 rfl ⟨rfl, rfl, rfl⟩))
  ) only [↓qt_eq])
noncomputable def drawFr (F : Bag → Fr) (N : Bag → Bag) (n : Nat) (s : Bag) : List Fr := (List.range n).map fun i => F (itB N i s)
theorem drawn_fr (F : Bag → Fr) (N : Bag → Bag) (n : Nat) (s : Bag) : drawn (fun s => fr (F s)) N n s = (drawFr F N n s).map fr := by
  unfold drawn drawFr
  rw [List.map_map]
  rfl
theorem drawFr_gd {k : Nat} {F : Bag → Fr} {N : Bag → Bag} (h : ∀ s, Gd k (F s)) (n : Nat) (s : Bag) : Gds k (drawFr F N n s) := fun p hp => by
  unfold drawFr at hp
  obtain ⟨i, _, rfl⟩ := List.mem_map.mp hp
  exact h _
theorem drawFr_len (F : Bag → Fr) (N : Bag → Bag) (n : Nat) (s : Bag) : (drawFr F N n s).length = n := by simp [drawFr]
theorem itB_ok {N : Bag → Bag} (h : ∀ {s : Bag}, s.ok → (N s).ok) {s : Bag} (hs : s.ok) : ∀ n, (itB N n s).ok
  | 0 => hs
  | n + 1 => h (itB_ok h hs n)
noncomputable def rowOf (n : Nat) (s : Bag) : List Fr := drawFr entryOf entryS n s
noncomputable def rowS (n : Nat) (s : Bag) : Bag := itB entryS n s
noncomputable def mapOf (st gl : Nat) (s : Bag) : List (List Fr) := (List.range gl).map fun i => rowOf (st + 1) (itB (rowS (st + 1)) i s)
noncomputable def mapS (st gl : Nat) (s : Bag) : Bag := itB (rowS (st + 1)) gl s
/-- a map of n rows of m + 1 fractions -/
structure Mp (k n m : Nat) (a : List (List Fr)) : Prop where
  len : a.length = n
  row : ∀ r ∈ a, r.length = m + 1 ∧ Gds k r
theorem mapOf_mp (st gl : Nat) (s : Bag) : Mp 10 gl st (mapOf st gl s) := by
  refine ⟨by simp [mapOf], fun r hr => ?_⟩
  unfold mapOf at hr
  obtain ⟨i, _, rfl⟩ := List.mem_map.mp hr
  exact ⟨drawFr_len _ _ _ _, drawFr_gd entryOf_gd _ _⟩
theorem mapS_ok {s : Bag} (h : s.ok) (st gl : Nat) : (mapS st gl s).ok := itB_ok (fun h => itB_ok entryS_ok h _) h _
noncomputable def P_map : Bag → List PyData → PyData → Bag → Prop := fun s ds r s' => ∃ st gl : Nat, ds = [.int st, .int gl] ∧ st ≤ 1000 ∧ gl ≤ 1000 ∧ r = mp (mapOf st gl s) ∧ s' = mapS st gl s
noncomputable def t__law_map (K : Fg) : TS := (tRet (tCB (rTupQ K) (tCons (tLc (iRng1 (tCons (tVar 2) tNil)) (gName 3) tYes (tCB (rTupQ K) (tCons (tLc (iRng1 (tCons (tOp (rI0 fun i j => V.int (i + j)) (tVar 1) (tC (V.int 1))) tNil)) (gName 4) tYes (tCall (spB K P_entry) [] E0 (tCons (tVar 0) tNil)) [4]) tNil)) [3]) tNil)))
-- slots of _law_map: 0 _law_bag_here, 1 _law_start, 2 _law_goal, 3 _law_row, 4 _law_at
theorem ln__law_map : ∀ s ds r s', P_map s ds r s' → ds.length + 1 = 3 := fun s ds r s' h => by obtain ⟨_, _, rfl, _⟩ := h; rfl
theorem rd__law_map {s ds r s'} (h : P_map s ds r s') (ok : s.ok) : SG K (t__law_map K) (.bag :: frame 4 ds) s (.rt r s') := qt_of (by simp (disch := with_unfolding_all
  obtain ⟨st, gl, rfl, h1, h2, rfl, rfl⟩ := h
  have inner : ∀ (x : PyData) (s : Bag), EvG K (tCB (rTupQ K) (tCons (tLc (iRng1 (tCons (tOp (rI0 fun i j => V.int (i + j)) (tVar 1) (tC (V.int 1))) tNil)) (gName 4) tYes (tCall (spB K P_entry) [] E0 (tCons (tVar 0) tNil)) [4]) tNil)) [.bag, .d (.int st), .d (.int gl), .d x, .un] s (frs (rowOf (st + 1) s)) (rowS (st + 1) s) := fun x s => by
    have e := ev_lcDraw (K := K) (te := tCall (spB K P_entry) [] E0 (tCons (tVar 0) tNil)) (G := [.bag, .d (.int st), .d (.int gl), .d x, .un]) (src_rng1 (ta := tCons (tOp (rI0 fun i j => V.int (i + j)) (tVar 1) (tC (V.int 1))) tNil) (s := s) (ea_cons (ev_add (ev_var rfl) ev_int) ea_nil) ⟨by omega, by omega⟩) (g := gName 4) (vs := [4]) (fun s => fr (entryOf s)) entryS (un_at rfl) (by rw [rngD_len]; omega)
      (fun x s hx => ⟨_, tgt_name, ev_b0 rfl ⟨rfl, rfl, rfl⟩⟩)
    rw [rngD_len, show ((st : Int) + 1).toNat = st + 1 by omega, drawn_fr] at e
    exact ev_tupL e
  have e := ev_lcDraw (K := K) (G := .bag :: frame 4 [.int st, .int gl]) (src_rng1 (ta := tCons (tVar 2) tNil) (s := s) (ea_cons (ev_var rfl) ea_nil) ⟨by omega, by omega⟩) (g := gName 3) (vs := [3]) (fun s => frs (rowOf (st + 1) s)) (rowS (st + 1)) (un_at rfl) (by rw [rngD_len]; omega)
    (fun x s hx => ⟨_, tgt_name, inner x s⟩)
  rw [rngD_len, Int.toNat_natCast] at e
  refine sg_ret (ev_is (ev_tupL e) ?_)
  unfold mapOf drawn mp
  rw [List.map_map]
  rfl
  ) only [↓qt_eq])
-- slots of told15: 0 _law_rows, 1 why
end

end
end U
end
section
namespace U
open PySem PyProof.Rows L2 Evl
section
variable {K : Fg} {cs : Cs} {gs : Gs} {W : WX} {G GI G1 : Gam} {s s1 s2 s3 s' : Bag} {ta tb tc te : TE} {x y : PyData} {E : XK} {xs : List PyData}
end
end U


end
section
namespace U.N
open PySem PyProof.Rows L2 Evl
section
variable {K : Fg} {cs : Cs} {W : WX} {G G' G1 G2 : Gam} {ta tb tc te : TE} {t u : TT} {φ : PyData → Prop} {ε : Xw → Prop} {ψ : Bool → Prop} {α : List PyData → Prop} {ι : List PyData → Prop} {χ : Own → Prop} {ω : Option Int → Prop}
variable {Wd : Addr → Prop} {B : Bt} {ad : Nat → Addr} {H0 H H1 H2 : Hp} {σ : St}
/-! ### items -/
/-- an item of a list or a tuple -/
theorem ew_ix (h : EW K cs W ta G (fun x => ∃ xs, itemsOf x = some xs ∧ EW K cs W tb G (fun y => ∃ j, y = .int j ∧ ∃ z, atI xs j = some z ∧ φ z) ε) ε) : EW K cs W (tOp (rIx K) ta tb) G φ ε :=
  ew_op (ew_mono h fun x ⟨xs, e, h⟩ => ew_mono h fun y ⟨j, e2, z, hz, p⟩ => fun Wd B ad H0 H σ v w S d1 d2 Q q => by
    subst e2
    cases d2
    rcases items_cases e with rfl | rfl
    · cases d1 with
      | lst g t =>
        obtain ⟨v, g1, g2⟩ := dpa_atI t hz
        exact .inl ⟨_, _, j, v, rfl, rfl, ex_l less_ex g, g1, q _ p _ H S Xb.refl g2⟩
    · cases d1 with
      | tup g t =>
        obtain ⟨v, g1, g2⟩ := dpa_atI t hz
        exact .inr (.inl ⟨_, _, j, v, rfl, rfl, ex_t less_ex g, g1, q _ p _ H S Xb.refl g2⟩))
/-! ### tests -/
theorem tw_test (h : EW K cs W te G (fun x => ∃ b, x = .bool b ∧ ψ b) ε) : TW K cs W (tTest te) G ψ ε := fun Wd B ad H0 H σ S Q q x => h Wd B ad H0 H σ S _ (fun y ⟨b, e, p⟩ v H1 S1 e1 d1 => by
  subst e
  cases d1
  exact ⟨b, rfl, q b p H1 S1 e1⟩) x
theorem tw_B (h : EW K cs W te G (fun x => ∃ b, x = .bool b ∧ ψ b) ε) : TW K cs W (tB te) G ψ ε := tw_test h
theorem tw_yes (h : ψ true) : TW K cs W tYes G ψ ε := fun Wd B ad H0 H σ S Q q x => q true h H S Xb.refl
theorem tw_not (h : TW K cs W t G (fun b => ψ (!b)) ε) : TW K cs W (tNot t) G ψ ε := fun Wd B ad H0 H σ S Q q x => h Wd B ad H0 H σ S _ (fun b p => q (!b) p) x
theorem tw_and (h : TW K cs W t G (fun b => Cnd b (TW K cs W u G ψ ε) (ψ false)) ε) : TW K cs W (tAnd t u) G ψ ε := fun Wd B ad H0 H σ S Q q x => h Wd B ad H0 H σ S _ (fun b p H1 S1 e1 => by
  cases b with
  | true => exact iteT (p.1 rfl Wd B ad H0 H1 σ S1 _ (fun b p H2 S2 e2 => q b p H2 S2 (e1.trans e2)) (x.go e1))
  | false => exact iteF (q _ (p.2 rfl) H1 S1 e1)) x
theorem tw_or (h : TW K cs W t G (fun b => Cnd b (ψ true) (TW K cs W u G ψ ε)) ε) : TW K cs W (tOr t u) G ψ ε := fun Wd B ad H0 H σ S Q q x => h Wd B ad H0 H σ S _ (fun b p H1 S1 e1 => by
  cases b with
  | false => exact iteF (p.2 rfl Wd B ad H0 H1 σ S1 _ (fun b p H2 S2 e2 => q b p H2 S2 (e1.trans e2)) (x.go e1))
  | true => exact iteT (q _ (p.1 rfl) H1 S1 e1)) x
theorem ew_andV (h : EW K cs W ta G (fun x => ∃ b, x = .bool b ∧ Cnd b (EW K cs W tb G φ ε) (φ (.bool false))) ε) : EW K cs W (tAndV ta tb) G φ ε := fun Wd B ad H0 H σ S Q q x => h Wd B ad H0 H σ S _ (fun y ⟨b, e, p⟩ v H1 S1 e1 d1 => by
  subst e
  cases d1
  refine ⟨b, rfl, ?_⟩
  cases b with
  | true => exact iteT (p.1 rfl Wd B ad H0 H1 σ S1 _ (fun b p v H2 S2 e2 d2 => q b p v H2 S2 (e1.trans e2) d2) (x.go e1))
  | false => exact iteF (q _ (p.2 rfl) _ H1 S1 e1 (.bl _))) x
theorem ew_if (h : TW K cs W t G (fun b => Cnd b (EW K cs W ta G φ ε) (EW K cs W tb G φ ε)) ε) : EW K cs W (tIf t ta tb) G φ ε := fun Wd B ad H0 H σ S Q q x => h Wd B ad H0 H σ S _ (fun b p H1 S1 e1 => by
  cases b with
  | true => exact iteT (p.1 rfl Wd B ad H0 H1 σ S1 _ (fun b p v H2 S2 e2 d2 => q b p v H2 S2 (e1.trans e2) d2) (x.go e1))
  | false => exact iteF (p.2 rfl Wd B ad H0 H1 σ S1 _ (fun b p v H2 S2 e2 d2 => q b p v H2 S2 (e1.trans e2) d2) (x.go e1))) x
/-! ### promises -/
inductive Rs where
  | ok (x : PyData)
  | fl (c : Own)
  | er (e : Xw)
noncomputable abbrev Pr := List PyData → (Rs → Prop) → Prop
noncomputable def okRs (H : Hp) (K : Fg) (Wd : Addr → Prop) (Q : VK) (A : Rs → Prop) : Prop :=
  (∀ x, A (.ok x) → ∀ v H', Ex H H' → Dp K (less H' Wd) v x → Q v H') ∧
  (∀ c, A (.fl c) → ∀ a vs H', Ex H H' → H a = none → H' a = some (c.obj a vs) → DpAll K (less H' fun b => Wd b ∨ b = a) vs c.flat → Q (.ref a) H')
/-- a def that never raises -/
noncomputable def spW0 (K : Fg) (P : Pr) : Sp := fun vs H Q _ => ∃ (Wd : Addr → Prop) (ds : List PyData) (A : Rs → Prop), (∀ a, Wd a → ∃ o, H a = some o) ∧ DpAll K (less H Wd) vs ds ∧ P ds A ∧ okRs H K Wd Q A
/-- a def that may raise -/
noncomputable def spW (K : Fg) (cs : Cs) (P : Pr) : Sp := fun vs H Q E => ∃ (Wd : Addr → Prop) (ds : List PyData) (A : Rs → Prop), (∀ a, Wd a → ∃ o, H a = some o) ∧ DpAll K (less H Wd) vs ds ∧ P ds A ∧ okRs H K Wd Q A ∧
  ∀ e, A (.er e) → ∀ d H', Ex H H' → H d = none → H' d = some (.xd e.fs) → E (.ref (cs e.cls)) (some d) H'
/-- a def that draws, the bag its first argument -/
noncomputable def spWB (K : Fg) (P : Pr) : Sp := fun vs H Q _ => ∃ (Wd : Addr → Prop) (b c : Addr) (us : List V) (ds : List PyData) (A : Rs → Prop), (∀ a, Wd a → ∃ o, H a = some o) ∧ vs = .ref b :: us ∧ BagOk H (bgB b c) ∧
  DpAll K (less H fun a => Wd a ∨ InB (bgB b c) a) us ds ∧ P ds A ∧
  (∀ x, A (.ok x) → ∀ v H', Xb (bgB b c) H H' → BagOk H' (bgB b c) → Dp K (less H' fun a => Wd a ∨ InB (bgB b c) a) v x → Q v H') ∧
  (∀ l, A (.fl l) → ∀ a vs H', Xb (bgB b c) H H' → BagOk H' (bgB b c) → H a = none → H' a = some (l.obj a vs) → DpAll K (less H' fun b' => (Wd b' ∨ InB (bgB b c) b') ∨ b' = a) vs l.flat → Q (.ref a) H')
/-- what is wanted of a call's answer -/
noncomputable def rE (φ : PyData → Prop) (ε : Xw → Prop) : Rs → Prop
  | .ok x => φ x
  | .fl c => ∃ xs, c = ol xs ∧ φ (.list xs)
  | .er e => ε e
theorem fl_upd {a : Addr} {o : HO} (h : H a = some o) : upd (less H fun b => b = a) a o = H := by
  funext b
  by_cases e : b = a
  · rw [e, upd_same, h]
  · rw [upd_ne e]; exact less_no (Z := fun b => b = a) e
theorem less_less {Z Z' : Addr → Prop} : less (less H Z) Z' = less H fun b => Z b ∨ Z' b := qt_of (by simp (disch := with_unfolding_all
  funext b
  by_cases z' : Z' b
  · rw [less_yes z', less_yes (.inr z')]
  · rw [less_no z']
    by_cases z : Z b
    · rw [less_yes z, less_yes (.inl z)]
    · rw [less_no z, less_no (fun h => h.elim z z')]
  ) only [↓qt_eq])
/-- the answer of a call, a new thing: what stood before stands without it -/
theorem fl_go {a : Addr} {o : HO} (S : Sta K Wd B ad H0 H σ G) (e : Xb B H H2) (b : BagOk H2 B) (t : ∀ p ∈ B.T, TabZ H2 (fun b => Zs Wd B ad G b ∨ b = a) p) (hn : H a = none) (ho : H2 a = some o) : Sta K Wd B ad H0 (less H2 fun b => b = a) σ G ∧ Xb B H (less H2 fun b => b = a) ∧ (less H2 fun b => b = a) a = none ∧ (less (less H2 fun b => b = a) (Zs Wd B ad G)) = less H2 (fun b => Zs Wd B ad G b ∨ b = a) := qt_of (by simp (disch := with_unfolding_all
  have x : Xb B H (less H2 fun b => b = a) := fun p u h n => less_of (fun z => by rw [z, hn] at h; cases h) (e p u h n)
  have nb : ¬ InB B a := (S.fresh hn).2.1
  refine ⟨S.drawn x (b.xb fun p z => less_no fun e => nb (e ▸ z)) fun p hp => (t p hp).mono (by
    rw [less_less]
    exact less_sub fun b z => z.elim .inr .inl) (less_no fun z => nb (z ▸ InB.tab hp)), x, less_yes rfl, ?_⟩
  rw [less_less]
  exact congrArg (less H2) (funext fun b => propext Or.comm)
  ) only [↓qt_eq])
theorem ew_callP {P : List PyData → PyData → Prop} {ta : TA} {dvs : List V} {des : List PyData} {E : XK} (hd : ∀ H, DpAll K H dvs des) (h : AW K cs W ta G (fun ds => ∃ r, P (ds ++ des) r ∧ φ r) ε) : EW K cs W (tCall (spP K P) dvs E ta) G φ ε := fun Wd B ad H0 H σ S Q q x =>
  h Wd B ad H0 H σ S _ (fun ds ⟨r, hp, p⟩ vs H1 S1 e1 d1 => ⟨Zs Wd B ad G, ds ++ des, r, S1.there, dpa_app d1 (hd _), hp, fun v H' e d => q r p v H' (S1.ext e) (e1.trans (.of e)) d⟩) x
theorem bag_zl {b c : Addr} (hb : B.bag = some (b, c)) (H : Hp) : (less H fun a => (Wd a ∨ (∃ i c, G[i]? = some (En.ow c) ∧ a = ad i) ∨ ∃ p ∈ B.T, a = p.1) ∨ InB (bgB b c) a) = less H (Zs Wd B ad G) := congrArg (less H) (funext fun a => propext (by
  have e : InB B a ↔ (U.InB (some (b, c)) a ∨ ∃ p ∈ B.T, a = p.1) := by rw [← hb]; exact Iff.rfl
  have e2 : InB (bgB b c) a ↔ U.InB (some (b, c)) a := ⟨fun z => z.elim id fun ⟨p, hp, _⟩ => (by cases hp), .inl⟩
  show _ ↔ Wd a ∨ _ ∨ InB B a
  rw [e, e2]
  constructor
  · rintro ((z | z | z) | z)
    · exact .inl z
    · exact .inr (.inl z)
    · exact .inr (.inr (.inr z))
    · exact .inr (.inr (.inl z))
  · rintro (z | z | z | z)
    · exact .inl (.inl z)
    · exact .inl (.inr (.inl z))
    · exact .inr z
    · exact .inl (.inr (.inr z))))
theorem wd_bag {b c : Addr} (S : Sta K Wd B ad H0 H σ G) (a : Addr) (z : Wd a ∨ (∃ i c, G[i]? = some (En.ow c) ∧ a = ad i) ∨ ∃ p ∈ B.T, a = p.1) : ∃ o, H a = some o := S.there a (by
  rcases z with z | z | z
  · exact .inl z
  · exact .inr (.inl z)
  · exact .inr (.inr (.inr z)))
theorem bagok_cut {b c : Addr} (hb : B.bag = some (b, c)) (k : BagOk H B) : BagOk H (bgB b c) := ⟨by show ∃ s : Bag, s.ok ∧ BagAt H (some (b, c)) s; rw [← hb]; exact k.1, fun p hp => by cases hp⟩
theorem ew_callB {P : Bag → List PyData → PyData → Bag → Prop} {tr : TA} {i : Nat} {E : XK} (hi : G[i]? = some .bag) (h : AW K cs W tr G (fun ds => ∀ s : Bag, s.ok → ∃ r s', P s ds r s' ∧ s'.ok ∧ φ r) ε) : EW K cs W (tCall (spB K P) [] E (tCons (tVar i) tr)) G φ ε := fun Wd B ad H0 H σ S Q q x => by
  obtain ⟨o, g1, b, c, eb, rfl⟩ := S.at_ i _ hi
  refine ⟨_, g1, h Wd _ ad H0 H σ S _ (fun ds hp vs H1 S1 e1 d1 => ?_) x⟩
  obtain ⟨⟨s, ok, hb⟩, _⟩ := S1.bag
  obtain ⟨r, s', hp, ok', p⟩ := hp s ok
  have zl : ∀ H : Hp, (less H fun a => (Wd a ∨ (∃ i c, G[i]? = some (En.ow c) ∧ a = ad i) ∨ ∃ p ∈ B.T, a = p.1) ∨ U.InB (some (b, c)) a) = less H (Zs Wd B ad G) := fun H => by
    rw [← bag_zl eb]
    exact congrArg (less H) (funext fun a => propext ⟨fun z => z.elim .inl fun z => .inr (.inl z), fun z => z.elim .inl fun z => .inr (z.elim id fun ⟨p, hp, _⟩ => (by cases hp))⟩)
  refine ⟨fun a => Wd a ∨ (∃ i c, G[i]? = some (En.ow c) ∧ a = ad i) ∨ ∃ p ∈ B.T, a = p.1, b, c, vs, s, ds, r, s', fun a z => wd_bag (b := b) (c := c) S1 a z, ?_, by rw [← eb]; exact hb, ?_, hp, fun v H' e hb d => ?_⟩
  · rw [List.append_nil]
  · rw [zl]; exact d1
  · rw [zl] at d
    obtain ⟨t1, t2, t3⟩ := S1.tabB eb (fun a o h n => e a o h fun z => n (.inl z)) ⟨⟨s', ok', hb⟩, fun p hp => by cases hp⟩
    exact q r p v H' (S1.drawn t1 t2 t3) (e1.trans t1) d
section
variable {P : Pr} {ta : TA} {dvs : List V} {des : List PyData} {E : XK}
theorem ew_call0 (hd : ∀ H, DpAll K H dvs des) (h : AW K cs W ta G (fun ds => P (ds ++ des) (rE φ fun _ => False)) ε) : EW K cs W (tCall (spW0 K P) dvs E ta) G φ ε := fun Wd B ad H0 H σ S Q q x =>
  h Wd B ad H0 H σ S _ (fun ds hp vs H1 S1 e1 d1 => ⟨Zs Wd B ad G, ds ++ des, _, S1.there, dpa_app d1 (hd _), hp, fun y p v H' e d => q y p v H' (S1.ext e) (e1.trans (.of e)) d, fun c p a us H' e hn ho d => by
    obtain ⟨xs, rfl, p⟩ := p
    have S2 := S1.ext e
    refine q _ p _ H' S2 (e1.trans (.of e)) (.lst (sq_of (less_of (S1.fresh hn).2.2 ho)) (dpa_mono (less_sub fun b z => .inl z) d))⟩) x
theorem ew_callW (hd : ∀ H, DpAll K H dvs des) (h : AW K cs W ta G (fun ds => P (ds ++ des) (rE φ ε)) ε) : EW K cs W (tCallSD (spW K cs P) dvs (WE W) ta) G φ ε := fun Wd B ad H0 H σ S Q q x =>
  h Wd B ad H0 H σ S _ (fun ds hp vs H1 S1 e1 d1 => ⟨Zs Wd B ad G, ds ++ des, _, S1.there, dpa_app d1 (hd _), hp, ⟨fun y p v H' e d => q y p v H' (S1.ext e) (e1.trans (.of e)) d, fun c p a us H' e hn ho d => by
    obtain ⟨xs, rfl, p⟩ := p
    have S2 := S1.ext e
    refine q _ p _ H' S2 (e1.trans (.of e)) (.lst (sq_of (less_of (S1.fresh hn).2.2 ho)) (dpa_mono (less_sub fun b z => .inl z) d))⟩, fun e p d H' e2 hn hx => x e p d H' (S1.ext e2) (e1.trans (.of e2)) (S1.fresh hn).1 (less_of (S1.fresh hn).2.2 hx)⟩) x
theorem ew_callWB {i : Nat} {tr : TA} (hi : G[i]? = some .bag) (h : AW K cs W tr G (fun ds => P ds (rE φ fun _ => False)) ε) : EW K cs W (tCall (spWB K P) [] E (tCons (tVar i) tr)) G φ ε := fun Wd B ad H0 H σ S Q q x => by
  obtain ⟨o, g1, b, c, eb, rfl⟩ := S.at_ i _ hi
  refine ⟨_, g1, h Wd _ ad H0 H σ S _ (fun ds hp vs H1 S1 e1 d1 => ?_) x⟩
  refine ⟨fun a => Wd a ∨ (∃ i c, G[i]? = some (En.ow c) ∧ a = ad i) ∨ ∃ p ∈ B.T, a = p.1, b, c, vs, ds, _, fun a z => wd_bag (b := b) (c := c) S1 a z, by rw [List.append_nil], bagok_cut eb S1.bag, by rw [bag_zl eb]; exact d1, hp, fun y p v H' e hb d => ?_, fun l p a us H' e hb hn ho d => ?_⟩
  · rw [bag_zl eb] at d
    obtain ⟨t1, t2, t3⟩ := S1.tabB eb e hb
    exact q y p v H' (S1.drawn t1 t2 t3) (e1.trans t1) d
  · obtain ⟨xs, rfl, p⟩ := p
    obtain ⟨t1, t2, t3⟩ := S1.tabB eb e hb
    refine q _ p _ H' (S1.drawn t1 t2 t3) (e1.trans t1) (.lst (sq_of (less_of (S1.fresh hn).2.2 ho)) (dpa_mono ?_ d))
    rw [← bag_zl eb]
    exact less_sub fun b z => .inl z
theorem ew_callN0 {tk : TA} {n m : Nat} (h : AW K cs W ta G (fun ds => AW K cs W tk G (fun es => ds.length = n ∧ es.length = m ∧ P (ds ++ es) (rE φ fun _ => False)) ε) ε) : EW K cs W (tCallN n m (spW0 K P) (fun vs zs => vs ++ zs) E ta tk) G φ ε := fun Wd B ad H0 H σ S Q q x =>
  h Wd B ad H0 H σ S _ (fun ds h2 vs H1 S1 e1 d1 => h2 Wd B ad H0 H1 σ S1 _ (fun es ⟨hn, hm, hp⟩ zs H2 S2 e2 d2 =>
    ⟨(dpa_len d1).trans hn, (dpa_len d2).trans hm, Zs Wd B ad G, ds ++ es, _, S2.there, dpa_app (dpa_mono (Xb.lz e2) d1) d2, hp, fun y p v H' e d => q y p v H' (S2.ext e) ((e1.trans e2).trans (.of e)) d, fun c p a us H' e hn ho d => by
      obtain ⟨xs, rfl, p⟩ := p
      exact q _ p _ H' (S2.ext e) ((e1.trans e2).trans (.of e)) (.lst (sq_of (less_of (S2.fresh hn).2.2 ho)) (dpa_mono (less_sub fun b z => .inl z) d))⟩) (x.go e1)) x
end
/-! ### built-ins -/
theorem ew_cb {r : List V → Hp → VK → Prop} {ta : TA} (h : AW K cs W ta G (fun xs => ∀ Wd B ad H0 H σ vs, Sta K Wd B ad H0 H σ G → DpAll K (less H (Zs Wd B ad G)) vs xs → ∀ Q : VK, (∀ z, φ z → ∀ v H2, Sta K Wd B ad H0 H2 σ G → Xb B H H2 → Dp K (less H2 (Zs Wd B ad G)) v z → Q v H2) → r vs H Q) ε) : EW K cs W (tCB r ta) G φ ε := fun Wd B ad H0 H σ S Q q x =>
  h Wd B ad H0 H σ S _ (fun xs p vs H1 S1 e1 d1 => p Wd B ad H0 H1 σ vs S1 d1 Q fun z p v H2 S2 e2 d2 => q z p v H2 S2 (e1.trans e2) d2) x
theorem ef_cb {r : List V → Hp → VK → Prop} {ta : TA} (h : AW K cs W ta G (fun xs => ∀ Wd B ad H0 H σ vs, Sta K Wd B ad H0 H σ G → DpAll K (less H (Zs Wd B ad G)) vs xs → ∀ Q : VK, (∀ c, χ c → ∀ a vs H2, Sta K Wd B ad H0 H2 σ G → Xb B H H2 → H2 a = none → DpAll K (less H2 (Zs Wd B ad G)) vs c.flat → Q (.ref a) (upd H2 a (c.obj a vs))) → r vs H Q) ε) : EF K cs W (tCB r ta) G χ ε := fun Wd B ad H0 H σ S Q q x =>
  h Wd B ad H0 H σ S _ (fun xs p vs H1 S1 e1 d1 => p Wd B ad H0 H1 σ vs S1 d1 Q fun c p a us H2 S2 e2 hn d2 => q c p a us H2 S2 (e1.trans e2) hn d2) x
theorem ew_min {ta : TA} (h : AW K cs W ta G (fun xs => ∃ i j, xs = [.int i, .int j] ∧ φ (.int (minI i j))) ε) : EW K cs W (tCB rMn ta) G φ ε := ew_cb (aw_mono h fun xs ⟨i, j, e, p⟩ Wd B ad H0 H σ vs S d Q q => by
  subst e
  obtain ⟨v, w, rfl, d, d2⟩ := dp2 d
  cases d; cases d2
  exact ⟨i, j, rfl, q _ p _ H S Xb.refl (.int _)⟩)
theorem ew_intB {ta : TA} (h : AW K cs W ta G (fun xs => ∃ i, xs = [.bool i] ∧ φ (.int (if i then 1 else 0))) ε) : EW K cs W (tCB rInt1 ta) G φ ε := ew_cb (aw_mono h fun xs ⟨i, e, p⟩ Wd B ad H0 H σ vs S d Q q => by
  subst e
  obtain ⟨v, rfl, d1⟩ := dp1 d
  cases d1
  exact .inr ⟨i, rfl, q _ p _ H S Xb.refl (.int _)⟩)
theorem ew_len {ta : TA} (h : AW K cs W ta G (fun xs => ∃ x ys, xs = [x] ∧ itemsOf x = some ys ∧ φ (.int ys.length)) ε) : EW K cs W (tCB (rLenQ K) ta) G φ ε := ew_cb (aw_mono h fun xs ⟨x, ys, e, hx, p⟩ Wd B ad H0 H σ vs S d Q q => by
  subst e
  obtain ⟨v, rfl, d1⟩ := dp1 d
  rcases items_cases hx with rfl | rfl
  · cases d1 with
    | lst g t => exact ⟨_, _, rfl, .inl (ex_l less_ex g), by rw [dpa_len t]; exact q _ p _ H S Xb.refl (.int _)⟩
  · cases d1 with
    | tup g t => exact ⟨_, _, rfl, .inr (ex_t less_ex g), by rw [dpa_len t]; exact q _ p _ H S Xb.refl (.int _)⟩)
theorem ew_lenO {xs : List PyData} {i : Nat} (hi : G[i]? = some (.ow (ol xs))) (p : φ (.int xs.length)) : EW K cs W (tCB (rLenQ K) (tCons (tVar i) tNil)) G φ ε := fun Wd B ad H0 H σ S Q q x => by
  obtain ⟨o, g1, rfl, vs, g3, g4⟩ := S.at_ i _ hi
  have g3 : H (ad i) = some (.lst vs) := g3
  have g4 : DpAll K _ vs xs := g4
  exact ⟨_, g1, _, _, rfl, .inl (sq_of g3), by rw [dpa_len g4]; exact q _ p _ H S Xb.refl (.int _)⟩
theorem ef_list {ta : TA} (h : AW K cs W ta G (fun xs => ∃ x ys, xs = [x] ∧ itemsOf x = some ys ∧ χ (ol ys)) ε) : EF K cs W (tCB (rListQ K) ta) G χ ε := ef_cb (aw_mono h fun xs ⟨x, ys, e, hx, p⟩ Wd B ad H0 H σ vs S d Q q => by
  subst e
  obtain ⟨v, rfl, d1⟩ := dp1 d
  rcases items_cases hx with rfl | rfl
  · cases d1 with
    | lst g t => exact ⟨_, _, rfl, .inl (ex_l less_ex g), fun l hl => q _ p l _ H S Xb.refl hl t⟩
  · cases d1 with
    | tup g t => exact ⟨_, _, rfl, .inr (ex_t less_ex g), fun l hl => q _ p l _ H S Xb.refl hl t⟩)
theorem ew_list {ta : TA} (h : AW K cs W ta G (fun xs => ∃ x ys, xs = [x] ∧ itemsOf x = some ys ∧ φ (.list ys)) ε) : EW K cs W (tCB (rListQ K) ta) G φ ε := ew_ef (ef_list (aw_mono h fun xs ⟨x, ys, e, hx, p⟩ => ⟨x, ys, e, hx, ys, rfl, p⟩))
theorem new_tupW {vs : List V} {xs : List PyData} (S : Sta K Wd B ad H0 H σ G) (d : DpAll K (less H (Zs Wd B ad G)) vs xs) {l : Addr} (hl : H l = none) {Q : VK} (p : φ (.tuple xs))
    (q : ∀ z, φ z → ∀ v H2, Sta K Wd B ad H0 H2 σ G → Xb B H H2 → Dp K (less H2 (Zs Wd B ad G)) v z → Q v H2) : Q (.ref l) (upd H l (.tup vs)) := by
  obtain ⟨S2, e2, g⟩ := new_ex (o := .tup vs) S hl
  exact q _ p _ _ S2 e2 (.tup (st_of g) (dpa_mono (Xb.lz e2) d))
theorem ew_tupO {xs : List PyData} {i : Nat} (hi : G[i]? = some (.ow (ol xs))) (p : φ (.tuple xs)) : EW K cs W (tCB (rTupQ K) (tCons (tVar i) tNil)) G φ ε := fun Wd B ad H0 H σ S Q q x => by
  obtain ⟨o, g1, rfl, vs, g3, g4⟩ := S.at_ i _ hi
  have g3 : H (ad i) = some (.lst vs) := g3
  exact ⟨_, g1, _, _, rfl, .inl ⟨sq_of g3, fun l hl => new_tupW S g4 hl p q⟩⟩
noncomputable def AllB (xs : List PyData) (b : Bool) : Prop := ∃ bs : List Bool, xs = [.list (bs.map PyData.bool)] ∧ b = bs.all id
theorem ew_all {ta : TA} (h : AW K cs W ta G (fun xs => ∃ b, AllB xs b ∧ φ (.bool b)) ε) : EW K cs W (tCB (rAll K) ta) G φ ε := ew_cb (aw_mono h fun xs ⟨b, ⟨bs, e, eb⟩, p⟩ Wd B ad H0 H σ vs S d Q q => by
  subst e
  subst eb
  obtain ⟨v, rfl, d1⟩ := dp1 d
  cases d1 with
  | lst g t =>
    have e := dpa_bools t
    subst e
    exact ⟨_, bs, rfl, ex_l less_ex g, q _ p _ H S Xb.refl (.bl _)⟩)
theorem ew_isi {n : String} (h : EW K cs W ta G (fun x => ∃ b, kitB (tyN x) n = some b ∧ φ (.bool b)) ε) : EW K cs W (tCB (rIsi K) (tCons ta (tCons (tC (.ty n)) tNil))) G φ ε := fun Wd B ad H0 H σ S Q q x =>
  h Wd B ad H0 H σ S _ (fun y ⟨b, hb, p⟩ v H1 S1 e1 d1 => ⟨v, .ty n, _, _, b, rfl, .ty n, dp_ty d1, kit_ty hb, q _ p _ H1 S1 e1 (.bl _)⟩) x
/-! ### slices, joins -/
theorem ow_none (p : ω none) : OW K cs W tNoPart G ω ε := fun Wd B ad H0 H σ S Q q _ => q _ p H S Xb.refl
theorem ow_some (h : EW K cs W te G (fun x => ∃ i, x = .int i ∧ ω (some i)) ε) : OW K cs W (tPart te) G ω ε := fun Wd B ad H0 H σ S Q q x => h Wd B ad H0 H σ S _ (fun y ⟨i, e, p⟩ v H1 S1 e1 d1 => by
  subst e
  cases d1
  exact ⟨i, rfl, q _ p H1 S1 e1⟩) x
theorem ef_slL {tl th : TO} (h : EW K cs W te G (fun x => ∃ xs, x = .list xs ∧ OW K cs W tl G (fun lo => OW K cs W th G (fun hi => χ (ol (cutD xs lo hi))) ε) ε) ε) : EF K cs W (tSl (rSlL K) te tl th) G χ ε := fun Wd B ad H0 H σ S Q q x =>
  h Wd B ad H0 H σ S _ (fun y ⟨xs, e, p⟩ v H1 S1 e1 d1 => p Wd B ad H0 H1 σ S1 _ (fun lo p H2 S2 e2 => p Wd B ad H0 H2 σ S2 _ (fun hi p H3 S3 e3 => by
    subst e
    cases dp_mono (Xb.lz (e2.trans e3)) d1 with
    | lst g t => exact ⟨_, _, rfl, ex_l less_ex g, fun l hl => q _ p l _ H3 S3 (e1.trans (e2.trans e3)) hl (dpa_cut t lo hi)⟩) ((x.go e1).go e2)) (x.go e1)) x
theorem ew_slL {tl th : TO} (h : EW K cs W te G (fun x => ∃ xs, x = .list xs ∧ OW K cs W tl G (fun lo => OW K cs W th G (fun hi => φ (.list (cutD xs lo hi))) ε) ε) ε) : EW K cs W (tSl (rSlL K) te tl th) G φ ε :=
  ew_ef (ef_slL (ew_mono h fun x ⟨xs, e, p⟩ => ⟨xs, e, fun Wd B ad H0 H σ S Q q x => p Wd B ad H0 H σ S Q (fun lo p => q lo (fun Wd B ad H0 H σ S Q q x => p Wd B ad H0 H σ S Q (fun hi p => q hi ⟨_, rfl, p⟩) x)) x⟩))
theorem ew_slA {tl th : TO} (h : EW K cs W te G (fun x => ∃ xs, x = .tuple xs ∧ OW K cs W tl G (fun lo => OW K cs W th G (fun hi => φ (.tuple (cutD xs lo hi))) ε) ε) ε) : EW K cs W (tSl (rSlA K) te tl th) G φ ε := fun Wd B ad H0 H σ S Q q x =>
  h Wd B ad H0 H σ S _ (fun y ⟨xs, e, p⟩ v H1 S1 e1 d1 => p Wd B ad H0 H1 σ S1 _ (fun lo p H2 S2 e2 => p Wd B ad H0 H2 σ S2 _ (fun hi p H3 S3 e3 => by
    subst e
    cases dp_mono (Xb.lz (e2.trans e3)) d1 with
    | tup g t =>
      have l := dpa_len t
      refine ⟨_, _, rfl, ex_t less_ex g, fun z => ?_, fun z l hl => new_tupW S3 (dpa_cut t lo hi) hl p fun z p v H4 S4 e4 d4 => q z p v H4 S4 ((e1.trans (e2.trans e3)).trans e4) d4⟩
      rw [l] at z
      exact q _ p _ H3 S3 (e1.trans (e2.trans e3)) (by rw [cutD_whole z]; exact .tup g t)) ((x.go e1).go e2)) (x.go e1)) x
theorem ef_catL (h : EW K cs W ta G (fun x => ∃ xs, x = .list xs ∧ EW K cs W tb G (fun y => ∃ ys, y = .list ys ∧ xs.length + ys.length ≤ 16000000 ∧ χ (ol (xs ++ ys))) ε) ε) : EF K cs W (tOp (rCatL K) ta tb) G χ ε := fun Wd B ad H0 H σ S Q q x =>
  h Wd B ad H0 H σ S _ (fun y ⟨xs, e, p⟩ v H1 S1 e1 d1 => p Wd B ad H0 H1 σ S1 _ (fun y ⟨ys, e', hl, p⟩ w H2 S2 e2 d2 => by
    subst e; subst e'
    cases dp_mono (Xb.lz e2) d1 with
    | lst g t =>
      cases d2 with
      | lst g2 t2 =>
        exact ⟨_, _, _, _, rfl, rfl, ex_l less_ex g, ex_l less_ex g2, by rw [dpa_len t, dpa_len t2]; exact sz_line hl, fun l hn => q _ p l _ H2 S2 (e1.trans e2) hn (dpa_app t t2)⟩) (x.go e1)) x
theorem ew_catL (h : EW K cs W ta G (fun x => ∃ xs, x = .list xs ∧ EW K cs W tb G (fun y => ∃ ys, y = .list ys ∧ xs.length + ys.length ≤ 16000000 ∧ φ (.list (xs ++ ys))) ε) ε) : EW K cs W (tOp (rCatL K) ta tb) G φ ε :=
  ew_ef (ef_catL (ew_mono h fun x ⟨xs, e, p⟩ => ⟨xs, e, ew_mono p fun y ⟨ys, e, hl, p⟩ => ⟨ys, e, hl, _, rfl, p⟩⟩))
/-! ### in, of whole numbers -/
end
end U.N

end
section
namespace U.N
open PySem PyProof.Rows L2 Evl
/-! ### statements -/
noncomputable def sq (K : Fg) (cs : Cs) (W : WX) (tz : TS) (Φ : Out → Prop) : Out → Prop
  | .nx G => SW K cs W tz G Φ
  | .rt x => Φ (.rt x)
  | .rl c => Φ (.rl c)
  | .bk G => Φ (.bk G)
  | .ct G => Φ (.ct G)
  | .ex e G => Φ (.ex e G)
/-- what a turn of a loop may end with -/
noncomputable def lp (I : Gam → Prop) (Φ : Out → Prop) : Out → Prop
  | .nx G => I G
  | .ct G => I G
  | .bk G => Φ (.nx G)
  | .rt x => Φ (.rt x)
  | .rl c => Φ (.rl c)
  | .ex e G => Φ (.ex e G)
section
variable {K : Fg} {cs : Cs} {W : WX} {G G' G1 G2 : Gam} {ta tb tc te : TE} {t u : TT} {tu tw tz : TS} {φ : PyData → Prop} {ε : Xw → Prop} {ψ : Bool → Prop} {α : List PyData → Prop} {ι : List PyData → Prop} {χ : Own → Prop} {Φ Ψ : Out → Prop}
variable {Wd : Addr → Prop} {B : Bt} {ad : Nat → Addr} {H0 H H1 H2 : Hp} {σ : St}
theorem PostO.mono {M M' : Hp} {D : Ends} {o : Out} (e : Ex M M') (h : PostO K cs W Wd B H0 M D o) : PostO K cs W Wd B H0 M' D o := qt_of (by simp (disch := with_unfolding_all
  cases o with
  | nx G => exact fun ad H σ S x => h ad H σ S (e.trans x)
  | rt x => exact h
  | rl c => exact h
  | bk G => exact fun ad H σ S x => h ad H σ S (e.trans x)
  | ct G => exact fun ad H σ S x => h ad H σ S (e.trans x)
  | ex e' G => exact fun d ad H σ S x => h d ad H σ S (e.trans x)
  ) only [↓qt_eq])
theorem post_xp {D : Ends} (q : ∀ o, Φ o → PostO K cs W Wd B H0 (less H (Zs Wd B ad G)) D o) : XP K cs W Wd B ad H0 H σ G (fun e => Φ (.ex e G)) := fun e he d H2 S x hd hx => q _ he d ad H2 σ S (Xb.lz x) hd hx
theorem sw_mono (h : SW K cs W tu G Φ) (m : ∀ o, Φ o → Ψ o) : SW K cs W tu G Ψ := fun Wd B ad H0 H σ D S q => h Wd B ad H0 H σ D S fun o p => q o (m o p)
theorem sw_seq (h : SW K cs W tu G (sq K cs W tz Φ)) : SW K cs W (tSeq tu tz) G Φ := fun Wd B ad H0 H σ D S q =>
  h Wd B ad H0 H σ { D with nx := tz D } S fun o p => by
    cases o with
    | nx G1 => exact fun ad' H' σ' S' e => p Wd B ad' H0 H' σ' D S' fun o p => (q o p).mono e
    | rt x => exact q _ p
    | rl c => exact q _ p
    | bk G => exact q _ p
    | ct G => exact q _ p
    | ex e G => exact q _ p
theorem sq_nx (h : SW K cs W tz G Φ) : sq K cs W tz Φ (.nx G) := h
theorem sq_rt {x : PyData} (h : Φ (.rt x)) : sq K cs W tz Φ (.rt x) := h
theorem lp_nx {I : Gam → Prop} (h : I G) : lp I Φ (.nx G) := h
theorem sw_next (h : Φ (.nx G)) : SW K cs W tNext G Φ := fun Wd B ad H0 H σ D S q => q _ h ad H σ S (Ex.refl _)
theorem sw_asg {i : Nat} (h : EW K cs W te G (fun x => Φ (.nx (G.set i (.d x)))) (fun e => Φ (.ex e G))) : SW K cs W (tAsg te (gName i)) G Φ := fun Wd B ad H0 H σ D S q =>
  h Wd B ad H0 H σ S _ (fun x p v H1 S1 e1 d1 => q _ p ad H1 _ (S1.setD d1) ((Xb.lz e1).trans (less_sub fun a z => Zs.set_of (fun _ z => by cases z) z))) (post_xp q)
/-- a new thing of one's own -/
theorem sw_asgF {i : Nat} (h : EF K cs W te G (fun c => Φ (.nx (G.set i (.ow c)))) (fun e => Φ (.ex e G))) : SW K cs W (tAsg te (gName i)) G Φ := fun Wd B ad H0 H σ D S q =>
  h Wd B ad H0 H σ S _ (fun c p a vs H1 S1 e1 hn d => q _ p _ _ _ (S1.setOwn (i := i) hn d) ((Xb.lz e1).trans (own_ex hn))) (post_xp q)
theorem sw_ret (h : EW K cs W te G (fun x => Φ (.rt x)) (fun e => Φ (.ex e G))) : SW K cs W (tRet te) G Φ := fun Wd B ad H0 H σ D S q =>
  h Wd B ad H0 H σ S _ (fun x p v H1 S1 e1 d1 => q _ p v H1 S1.base S1.bag (fun p hp => (S1.tab p hp).mono (less_sub fun a z => z.elim .inl fun z => .inr (.inr z)) rfl) (dp_mono (less_sub fun a z => z.elim .inl fun z => .inr (.inr z)) d1)) (post_xp q)
theorem sw_if (h : TW K cs W t G (fun b => Cnd b (SW K cs W tu G Φ) (SW K cs W tw G Φ)) (fun e => Φ (.ex e G))) : SW K cs W (tIfS t tu tw) G Φ := fun Wd B ad H0 H σ D S q =>
  h Wd B ad H0 H σ S _ (fun b p H1 S1 e1 => by
    cases b with
    | true => exact iteT (p.1 rfl Wd B ad H0 H1 σ D S1 fun o p => (q o p).mono (Xb.lz e1))
    | false => exact iteF (p.2 rfl Wd B ad H0 H1 σ D S1 fun o p => (q o p).mono (Xb.lz e1))) (post_xp q)
theorem sw_freeze {i : Nat} {xs : List PyData} (hi : G[i]? = some (.ow (ol xs))) (h : SW K cs W tu (G.set i (.d (.list xs))) Φ) (hx : ∀ e G', Φ (.ex e G') → True := by intros; trivial) : SW K cs W tu G Φ := fun Wd B ad H0 H σ D S q =>
  h Wd B ad H0 H σ D (S.freeze hi) fun o p => (q o p).mono (less_sub fun a z => Zs.set_of (fun _ z => by cases z) z)
/-! ### lists of one's own -/
theorem sw_app {i : Nat} {xs : List PyData} (hi : G[i]? = some (.ow (ol xs))) (hl : xs.length < 16000000) (h : EW K cs W te G (fun x => Φ (.nx (G.set i (.ow (ol (xs ++ [x])))))) (fun e => Φ (.ex e G))) : SW K cs W (tDrop (tBM K "list" rAppend (tVar i) (tCons te tNil))) G Φ := fun Wd B ad H0 H σ D S q => by
  obtain ⟨o, g1, rfl, vs, g3, g4⟩ := S.at_ i _ hi
  have g3 : H (ad i) = some (.lst vs) := g3
  refine ⟨_, g1, Or.inl ⟨rfl, vs, sq_of g3⟩, h Wd B ad H0 H σ S _ (fun x p v H1 S1 e1 d1 => ?_) (post_xp q)⟩
  obtain ⟨_, _, _, us, g5, g6⟩ := S1.at_ i _ hi
  have g6 : DpAll K _ us xs := g6
  exact ⟨_, us, v, rfl, rfl, g5, by rw [dpa_len g6]; exact Nat.lt_of_lt_of_le hl (by decide), q _ p ad _ σ (S1.chg (c' := ol (xs ++ [x])) hi (dpa_app g6 (.cons d1 .nil))) ((Xb.lz e1).trans (chg_ex hi))⟩
/-! ### what is forgotten -/
/-! ### targets -/
/-- targets that only set names: vs tells which -/
noncomputable def GC (K : Fg) (g : TG) (vs : List Nat) (G : Gam) (x : PyData) (γ : Gam → Prop) : Prop :=
  ∀ Wd B ad H0 H σ v, Sta K Wd B ad H0 H σ G → Dp K (less H (Zs Wd B ad G)) v x → ∀ Q : St → Hp → Prop,
  (∀ G' σ', γ G' → G.length = G'.length → (∀ i, i ∉ vs → G'[i]? = G[i]?) → (∀ i c, i ∈ vs → G'[i]? = some (.ow c) → G[i]? = some (.ow c)) → Sta K Wd B ad H0 H σ' G' → Ex (less H (Zs Wd B ad G)) (less H (Zs Wd B ad G')) → wipe σ' vs = wipe σ vs → Q σ' H) → g v σ H Q
variable {γ : Gam → Prop} {vs : List Nat}
theorem gc_name {i : Nat} {x : PyData} (hi : i ∈ vs) (h : γ (G.set i (.d x))) : GC K (gName i) vs G x γ := fun Wd B ad H0 H σ v S d Q q => by
  refine q _ _ h (by rw [List.length_set]) (fun j hj => List.getElem?_set_ne fun (e : i = j) => hj (by rw [← e]; exact hi)) (fun j c _ g => ?_) (S.setD d) (less_sub fun a z => Zs.set_of (fun _ z => by cases z) z) (wipe_set hi)
  rcases get_set g with ⟨rfl, _, e⟩ | ⟨_, g⟩
  · cases e
  · exact g
/-- targets at large -/
noncomputable def GW (K : Fg) (g : TG) (G : Gam) (x : PyData) (γ : Gam → Prop) : Prop :=
  ∀ Wd B ad H0 H σ v, Sta K Wd B ad H0 H σ G → Dp K (less H (Zs Wd B ad G)) v x → ∀ Q : St → Hp → Prop,
  (∀ G' ad' H' σ', γ G' → Sta K Wd B ad' H0 H' σ' G' → Ex (less H (Zs Wd B ad G)) (less H' (Zs Wd B ad' G')) → Q σ' H') → g v σ H Q
theorem gw_gc (vs : List Nat) {g : TG} {x : PyData} (h : GC K g vs G x γ) : GW K g G x γ := fun Wd B ad H0 H σ v S d Q q => h Wd B ad H0 H σ v S d Q fun G' σ' p _ _ _ S' e _ => q G' ad H σ' p S' e
theorem gw_name {i : Nat} {x : PyData} (h : γ (G.set i (.d x))) : GW K (gName i) G x γ := gw_gc [i] (gc_name (List.mem_singleton.mpr rfl) h)
theorem sw_asgT {g : TG} (h : EW K cs W te G (fun x => GW K g G x (fun G' => Φ (.nx G'))) (fun e => Φ (.ex e G))) : SW K cs W (tAsg te g) G Φ := fun Wd B ad H0 H σ D S q =>
  h Wd B ad H0 H σ S _ (fun x p v H1 S1 e1 d1 => p Wd B ad H0 H1 σ v S1 d1 _ fun G' ad' H' σ' p S' e' => q _ p ad' H' σ' S' ((Xb.lz e1).trans e')) (post_xp q)
/-! ### what is walked -/
theorem dp_itL {v : V} {ds : List PyData} {M : Hp} (d : Dp K M v (.list ds)) : ∃ a vs, v = .ref a ∧ SqL K M a vs ∧ ItOk K (Itl K a) ds M := qt_of (by simp (disch := with_unfolding_all
  cases d with
  | @lst a vs _ g t =>
    refine ⟨a, vs, rfl, g, fun H' Z hz e i => ?_⟩
    have g' : SqL K H' a vs := ex_l less_ex (ex_l e g)
    refine ⟨fun d hd => ?_, fun hl => ⟨vs, g', by rw [dpa_len t]; exact hl⟩, fun x H'' hy => ?_⟩
    · obtain ⟨v, hv, _⟩ := dpa_get t hd
      exact ⟨vs, v, g', hv⟩
    · obtain ⟨rfl, hy⟩ := hy
      refine ⟨Ex.refl _, fun d hd => ?_⟩
      obtain ⟨v, hv, hd⟩ := dpa_get t hd
      have ev : v = x := Option.some.inj (hv.symm.trans (hy vs g'))
      rw [← ev]
      exact dp_mono e hd
  ) only [↓qt_eq])
theorem dp_itT {v : V} {ds : List PyData} {M : Hp} (d : Dp K M v (.tuple ds)) : ∃ a vs, v = .ref a ∧ SqT K M a vs ∧ ItOk K (Itt K a) ds M := qt_of (by simp (disch := with_unfolding_all
  cases d with
  | @tup a vs _ g t =>
    refine ⟨a, vs, rfl, g, fun H' Z hz e i => ?_⟩
    have g' : SqT K H' a vs := ex_t less_ex (ex_t e g)
    refine ⟨fun d hd => ?_, fun hl => ⟨vs, g', by rw [dpa_len t]; exact hl⟩, fun x H'' hy => ?_⟩
    · obtain ⟨v, hv, _⟩ := dpa_get t hd
      exact ⟨vs, v, g', hv⟩
    · obtain ⟨rfl, hy⟩ := hy
      refine ⟨Ex.refl _, fun d hd => ?_⟩
      obtain ⟨v, hv, hd⟩ := dpa_get t hd
      have ev : v = x := Option.some.inj (hv.symm.trans (hy vs g'))
      rw [← ev]
      exact dp_mono e hd
  ) only [↓qt_eq])
theorem iw_list (h : EW K cs W te G (fun x => ∃ ds, x = .list ds ∧ ι ds) ε) : IW K cs W (iList K te) G ι ε := fun Wd B ad H0 H σ S R q x => h Wd B ad H0 H σ S _ (fun y ⟨ds, e, p⟩ v H1 S1 e1 d1 => by
  subst e
  obtain ⟨a, vs, rfl, g, ok⟩ := dp_itL d1
  exact ⟨a, rfl, ⟨vs, ex_l less_ex g⟩, q ds p _ H1 S1 e1 ok⟩) x
theorem iw_tup (h : EW K cs W te G (fun x => ∃ ds, x = .tuple ds ∧ ι ds) ε) : IW K cs W (iTup K te) G ι ε := fun Wd B ad H0 H σ S R q x => h Wd B ad H0 H σ S _ (fun y ⟨ds, e, p⟩ v H1 S1 e1 d1 => by
  subst e
  obtain ⟨a, vs, rfl, g, ok⟩ := dp_itT d1
  exact ⟨a, rfl, ⟨vs, ex_t less_ex g⟩, q ds p _ H1 S1 e1 ok⟩) x
theorem iw_rng1 {ta : TA} (h : AW K cs W ta G (fun xs => ∃ n : Int, xs = [.int n] ∧ (-1000000 ≤ n ∧ n ≤ 1000000) ∧ ι (rngD 0 n.toNat)) ε) : IW K cs W (iRng1 ta) G ι ε := fun Wd B ad H0 H σ S R q x => h Wd B ad H0 H σ S _ (fun xs ⟨n, e, hn, p⟩ vs H1 S1 e1 d1 => by
  subst e
  obtain ⟨v, rfl, d⟩ := dp1 d1
  cases d
  exact ⟨n, rfl, by omega, by omega, q _ p _ H1 S1 e1 it_rng⟩) x
/-! ### loops -/
/-- what is asked of a loop over ds: an invariant of the turn and the slots -/
noncomputable def ForI (K : Fg) (cs : Cs) (W : WX) (g : TG) (tb : TS) (G : Gam) (Φ : Out → Prop) (ds : List PyData) : Prop :=
  ∃ I : Nat → Gam → Prop, I 0 G ∧ (∀ i x G1, ds[i]? = some x → I i G1 → GW K g G1 x (fun Gt => SW K cs W tb Gt (lp (I (i + 1)) Φ))) ∧ ∀ G1, I ds.length G1 → Φ (.nx G1)
theorem sw_for {wi : TI} {g : TG} {tb : TS} (h : IW K cs W wi G (ForI K cs W g tb G Φ) (fun e => Φ (.ex e G))) : SW K cs W (tFor wi g tb) G Φ := fun Wd B ad H0 H σ D S q =>
  h Wd B ad H0 H σ S _ (fun ds ⟨I, i0, hs, hd⟩ J H1 S1 e1 ok => by
    refine ⟨fun i m σ' H' => m = ds.length - i ∧ i ≤ ds.length ∧ ∃ ad' G1, I i G1 ∧ Sta K Wd B ad' H0 H' σ' G1 ∧ Ex (less H1 (Zs Wd B ad G)) (less H' (Zs Wd B ad' G1)), ⟨ds.length, rfl, Nat.zero_le _, ad, G, i0, S1, Ex.refl _⟩, ?_⟩
    rintro i m σ' H' ⟨rfl, hi, ad', G1, hI, S', e'⟩
    obtain ⟨k1, k2, k3⟩ := ok H' (Zs Wd B ad' G1) S'.there e' i
    by_cases hlt : i < ds.length
    · have hx : ds[i]? = some ds[i] := List.getElem?_eq_getElem hlt
      refine .inr ⟨k1 _ hx, fun σ3 H3 => ∃ ad3 G3, I (i + 1) G3 ∧ Sta K Wd B ad3 H0 H3 σ3 G3 ∧ Ex (less H1 (Zs Wd B ad G)) (less H3 (Zs Wd B ad3 G3)), ?_, fun v H'' hy => ?_⟩
      · rintro σ3 H3 ⟨ad3, G3, h3, S3, e3⟩
        exact ⟨ds.length - (i + 1), by omega, rfl, hlt, ad3, G3, h3, S3, e3⟩
      · obtain ⟨ex, dx⟩ := k3 v H'' hy
        have S2 := S'.ext ex
        refine hs i _ G1 hx hI Wd B ad' H0 H'' σ' v S2 (dx _ hx) _ fun Gt ad2 H2 σ2 hb S3 e3 => ?_
        have e4 : Ex (less H1 (Zs Wd B ad G)) (less H2 (Zs Wd B ad2 Gt)) := (e'.trans (less_mono ex)).trans e3
        have e5 := (Xb.lz (W := Wd) (ad := ad) (G := G) e1).trans e4
        refine hb Wd B ad2 H0 H2 σ2 _ S3 fun o p => ?_
        cases o with
        | nx G4 => exact fun ad4 H4 σ4 S4 x4 => ⟨ad4, G4, p, S4, e4.trans x4⟩
        | ct G4 => exact fun ad4 H4 σ4 S4 x4 => ⟨ad4, G4, p, S4, e4.trans x4⟩
        | bk G4 => exact fun ad4 H4 σ4 S4 x4 => q _ p ad4 H4 σ4 S4 (e5.trans x4)
        | rt x => exact q _ p
        | rl c => exact q _ p
        | ex e G4 => exact fun d ad4 H4 σ4 S4 x4 => q _ p d ad4 H4 σ4 S4 (e5.trans x4)
    · have en : i = ds.length := by omega
      subst en
      exact .inl ⟨k2 (Nat.le_refl _), q _ (hd G1 hI) ad' H' σ' S' ((Xb.lz e1).trans e')⟩) (post_xp q)
end
end U.N

end
section
namespace U.N
open PySem PyProof.Rows L2 Evl
inductive All2 {α β : Type} (R : α → β → Prop) : List α → List β → Prop
  | nil : All2 R [] []
  | cons {x : α} {y : β} {xs : List α} {ys : List β} : R x y → All2 R xs ys → All2 R (x :: xs) (y :: ys)
namespace All2
variable {α β γ : Type} {R : α → β → Prop}
end All2
section
variable {K : Fg} {cs : Cs} {W : WX} {G G' G1 G2 : Gam} {ta tb tc te : TE} {t u tt tt1 : TT} {φ : PyData → Prop} {ε : Xw → Prop} {ψ : Bool → Prop} {α : List PyData → Prop} {ι : List PyData → Prop} {χ : Own → Prop} {Φ Ψ : Out → Prop}
variable {Wd : Addr → Prop} {B : Bt} {ad : Nat → Addr} {H0 H H1 H2 : Hp} {σ σ' : St} {vs vs1 : List Nat} {wi wi1 : TI} {g g1 : TG}
noncomputable abbrev noX : Xw → Prop := fun _ => False
theorem xp_no : XP K cs W Wd B ad H0 H σ G noX := fun _ h => h.elim
theorem Sta.slots (S : Sta K Wd B ad H0 H σ G) (hl : G.length = G'.length) (ho : ∀ i, i ∉ vs → G'[i]? = G[i]?) (hu : ∀ i e, i ∈ vs → G'[i]? = some e → e = .un) (hg : ∀ i c, i ∈ vs → G[i]? ≠ some (.ow c)) (hw : wipe σ vs = wipe σ' vs) : Sta K Wd B ad H0 H σ' G' := qt_of (by simp (disch := with_unfolding_all
  have hls : σ.length = σ'.length := by
    have := congrArg List.length hw
    rw [wipe_length, wipe_length] at this
    exact this
  have own : ∀ (i : Nat) (c : Own), G'[i]? = some (En.ow c) ↔ G[i]? = some (En.ow c) := fun i c => by
    by_cases hi : i ∈ vs
    · exact ⟨fun g => absurd (hu i _ hi g) (fun e => by cases e), fun g => absurd g (hg i c hi)⟩
    · rw [ho i hi]
  have zl : Zs Wd B ad G' = Zs Wd B ad G := funext fun a => propext (by
    constructor
    · rintro (z | ⟨i, c, g, r⟩ | z)
      · exact .inl z
      · exact .inr (.inl ⟨i, c, (own i c).mp g, r⟩)
      · exact .inr (.inr z)
    · rintro (z | ⟨i, c, g, r⟩ | z)
      · exact .inl z
      · exact .inr (.inl ⟨i, c, (own i c).mpr g, r⟩)
      · exact .inr (.inr z))
  refine ⟨hls ▸ (S.len.trans hl), fun i e g => ?_, fun i j c c' g g' q => S.inj i j c c' ((own i c).mp g) ((own j c').mp g') q, fun i c g => S.sep i c ((own i c).mp g), S.base, S.bag, S.wd, fun p hp => (S.tab p hp).mono (by rw [zl]; exact Ex.refl _) rfl⟩
  by_cases hi : i ∈ vs
  · have e := hu i e hi g
    subst e
    have il : i < σ'.length := by rw [← hls, S.len, hl]; exact (List.getElem?_eq_some_iff.mp g).1
    exact ⟨σ'[i], List.getElem?_eq_getElem il, trivial⟩
  · rw [ho i hi] at g
    obtain ⟨o, g1, g2⟩ := S.at_ i e g
    refine ⟨o, ?_, by rw [zl]; exact g2⟩
    rw [← wipe_get hi, ← hw, wipe_get hi]
    exact g1
  ) only [↓qt_eq])
theorem zs_same {G' : Gam} (hl : ∀ (i : Nat) (c : Own), G'[i]? = some (En.ow c) ↔ G[i]? = some (En.ow c)) : Zs Wd B ad G' = Zs Wd B ad G := funext fun a => propext (by
  constructor
  · rintro (z | ⟨i, c, g, r⟩ | z)
    · exact .inl z
    · exact .inr (.inl ⟨i, c, (hl i c).mp g, r⟩)
    · exact .inr (.inr z)
  · rintro (z | ⟨i, c, g, r⟩ | z)
    · exact .inl z
    · exact .inr (.inl ⟨i, c, (hl i c).mpr g, r⟩)
    · exact .inr (.inr z))
theorem zs_lend {p : Addr} : Zs (fun a => Wd a ∨ a = p) B ad G = fun a => Zs Wd B ad G a ∨ a = p := funext fun a => propext (by
  constructor
  · rintro ((z | z) | z | z)
    · exact .inl (.inl z)
    · exact .inr z
    · exact .inl (.inr (.inl z))
    · exact .inl (.inr (.inr z))
  · rintro ((z | z | z) | z)
    · exact .inl (.inl z)
    · exact .inr (.inl z)
    · exact .inr (.inr z)
    · exact .inl (.inr z))
noncomputable def opts (os : List (Option PyData)) : List PyData := os.filterMap id
theorem opts_snoc {os : List (Option PyData)} {o : Option PyData} : opts (os ++ [o]) = opts os ++ o.toList := by
  unfold opts
  rw [List.filterMap_append]
  cases o <;> rfl
theorem opts_len (os : List (Option PyData)) : (opts os).length ≤ os.length := List.length_filterMap_le ..
/-- one for each turn -/
noncomputable def Each {β : Type} (R : Nat → β → Prop) (n : Nat) (os : List β) : Prop := os.length = n ∧ ∀ i o, os[i]? = some o → R i o
theorem each_nil {β : Type} {R : Nat → β → Prop} : Each R 0 [] := ⟨rfl, fun i o h => by simp at h⟩
theorem Each.snoc {β : Type} {R : Nat → β → Prop} {n : Nat} {os : List β} {o : β} (h : Each R n os) (r : R n o) : Each R (n + 1) (os ++ [o]) := by
  refine ⟨by simp [h.1], fun i o' hi => ?_⟩
  by_cases hl : i < os.length
  · rw [List.getElem?_append_left hl] at hi
    exact h.2 i o' hi
  · rw [List.getElem?_append_right (by omega)] at hi
    have e : i - os.length = 0 := by
      have := (List.getElem?_eq_some_iff.mp hi).1
      simp at this
      omega
    rw [e] at hi
    cases hi
    have : i = n := by have := h.1; omega
    rw [this]; exact r
theorem Each.all2 {α β : Type} {R : Nat → β → Prop} : ∀ {xs : List α} {os : List β}, Each R xs.length os → ∀ {S : α → β → Prop}, (∀ i x o, xs[i]? = some x → R i o → S x o) → All2 S xs os := fun {xs} => by
  induction xs generalizing R with
  | nil =>
    intro os h S m
    have := h.1
    have e : os = [] := List.eq_nil_of_length_eq_zero this
    rw [e]; exact .nil
  | cons x xs ih =>
    intro os h S m
    cases os with
    | nil => have := h.1; simp at this
    | cons o os =>
      refine .cons (m 0 x o rfl (h.2 0 o rfl)) (ih (R := fun i => R (i + 1)) ⟨by have := h.1; simpa using this, fun i o' hi => h.2 (i + 1) o' hi⟩ fun i x o hx r => m (i + 1) x o hx r)
/-- the names that the comprehension sets are of no use before -/
noncomputable def Unk (vs : List Nat) (G : Gam) : Prop := ∀ i e, i ∈ vs → G[i]? = some e → e = .un
noncomputable def LcI (K : Fg) (cs : Cs) (W : WX) (g : TG) (tt : TT) (te : TE) (vs : List Nat) (G : Gam) (χ : Own → Prop) (ds : List PyData) : Prop :=
  ds.length ≤ 16000000 ∧ Unk vs G ∧ ∃ R : Nat → Option PyData → Prop, (∀ i x, ds[i]? = some x → GC K g vs G x (fun Gt => TW K cs W tt Gt (fun b => Cnd b (EW K cs W te Gt (fun y => R i (some y)) noX) (R i none)) noX)) ∧ ∀ os, Each R ds.length os → χ (ol (opts os))
theorem ef_lc (h : IW K cs W wi G (LcI K cs W g tt te vs G χ) ε) : EF K cs W (tLc wi g tt te vs) G χ ε := fun Wd B ad H0 H σ S Q q x =>
  h Wd B ad H0 H σ S _ (fun ds ⟨hz, hu, R, hs, hd⟩ J H1 S1 e1 ok Dl hD => by
    have hgu : ∀ i c, i ∈ vs → G[i]? ≠ some (.ow c) := fun i c hi g => by cases hu i _ hi g
    obtain ⟨L0, el0⟩ := S1.lend (o := .lst []) hD
    have fr := S1.fresh hD
    refine ⟨fun i m H' => m = ds.length - i ∧ i ≤ ds.length ∧ Sta K (fun a => Wd a ∨ a = Dl) B ad H0 H' σ G ∧ Ex (less H1 (Zs Wd B ad G)) (less H' (Zs (fun a => Wd a ∨ a = Dl) B ad G)) ∧ Xb B H1 H' ∧
      ∃ os acc, Each R i os ∧ H' Dl = some (.lst acc) ∧ DpAll K (less H' (Zs (fun a => Wd a ∨ a = Dl) B ad G)) acc (opts os), ⟨ds.length, rfl, Nat.zero_le _, L0, by rw [el0]; exact Ex.refl _, .of (Ex.new hD), [], [], each_nil, upd_same, .nil⟩, ?_⟩
    rintro i m H' ⟨rfl, hi, S', e', xb, os, acc, ha2, ha, hda⟩
    obtain ⟨k1, k2, k3⟩ := ok H' (Zs (fun a => Wd a ∨ a = Dl) B ad G) S'.there e' i
    by_cases hlt : i < ds.length
    · have hx : ds[i]? = some ds[i] := List.getElem?_eq_getElem hlt
      refine .inr ⟨k1 _ hx, fun H3 => Sta K (fun a => Wd a ∨ a = Dl) B ad H0 H3 σ G ∧ Ex (less H1 (Zs Wd B ad G)) (less H3 (Zs (fun a => Wd a ∨ a = Dl) B ad G)) ∧ Xb B H1 H3 ∧
        ∃ os acc, Each R (i + 1) os ∧ H3 Dl = some (.lst acc) ∧ DpAll K (less H3 (Zs (fun a => Wd a ∨ a = Dl) B ad G)) acc (opts os), fun H3 h3 => ⟨ds.length - (i + 1), by omega, rfl, hlt, h3⟩, fun v H'' hyl => ?_⟩
      obtain ⟨ex, dx⟩ := k3 v H'' hyl
      have S2 := (S'.ext ex).slots (σ' := wipe σ vs) (G' := G) (vs := vs) rfl (fun _ _ => rfl) hu hgu wipe_wipe.symm
      refine hs i _ hx _ B ad H0 H'' _ v S2 (dx _ hx) _ fun Gt σ2 hte hl ho hw S3 e3 ew => ⟨by rw [ew, wipe_wipe], ?_⟩
      have own : ∀ (i : Nat) (c : Own), Gt[i]? = some (En.ow c) ↔ G[i]? = some (En.ow c) := fun i c => by
        by_cases hi : i ∈ vs
        · exact ⟨fun g => hw i c hi g, fun g => absurd g (hgu i c hi)⟩
        · rw [ho i hi]
      have eZ : Zs (fun a => Wd a ∨ a = Dl) B ad Gt = Zs (fun a => Wd a ∨ a = Dl) B ad G := zs_same own
      have back : ∀ {H5 : Hp}, Sta K (fun a => Wd a ∨ a = Dl) B ad H0 H5 σ2 Gt → Sta K (fun a => Wd a ∨ a = Dl) B ad H0 H5 σ G := fun {H5} S5 =>
        S5.slots (G' := G) (vs := vs) hl.symm (fun i hi => (ho i hi).symm) hu (fun i c hi g => hgu i c hi (hw i c hi g)) (by rw [ew, wipe_wipe])
      have hB : ¬ InB B Dl := fr.2.1
      have ha3 : H'' Dl = some (.lst acc) := ex _ _ ha
      have al : acc.length < sizeLine := by
        have h1 := dpa_len hda
        have h2 := opts_len os
        have h3 := ha2.1
        exact Nat.lt_of_lt_of_le (show acc.length < 16777216 by omega) (by decide)
      refine hte _ B ad H0 H'' σ2 S3 _ (fun b p H3 S4 e4 => ?_) xp_no
      have e4' : Ex (less H'' (Zs (fun a => Wd a ∨ a = Dl) B ad G)) (less H3 (Zs (fun a => Wd a ∨ a = Dl) B ad G)) := by
        have := Xb.lz (W := fun a => Wd a ∨ a = Dl) (ad := ad) (G := G) e4
        exact this
      have e5 : Ex (less H' (Zs (fun a => Wd a ∨ a = Dl) B ad G)) (less H3 (Zs (fun a => Wd a ∨ a = Dl) B ad G)) := (less_mono ex).trans e4'
      cases b with
      | false =>
        refine iteF ⟨back S4, e'.trans e5, (xb.trans (.of ex)).trans e4, os ++ [none], acc, ?_, e4 _ _ ha3 hB, ?_⟩
        · exact ha2.snoc (p.2 rfl)
        · rw [opts_snoc]
          show DpAll K _ acc (_ ++ [])
          rw [List.append_nil]
          exact dpa_mono e5 hda
      | true =>
        refine iteT ?_
        refine p.1 rfl _ B ad H0 H3 σ2 S4 _ (fun y py w H4 S5 e6 dw => ?_) xp_no
        rw [eZ] at dw
        have S6 := back S5
        obtain ⟨S7, el7⟩ := S6.foreign (o := .lst (acc ++ [w])) (p := Dl) (.inr rfl) fr.1 hB
        have e6' := Xb.lz (W := fun a => Wd a ∨ a = Dl) (ad := ad) (G := G) e6
        refine ⟨acc, e6 _ _ (e4 _ _ ha3 hB) hB, al, S7, ?_, ?_, os ++ [some y], acc ++ [w], ?_, upd_same, ?_⟩
        · rw [el7]
          exact e'.trans (e5.trans e6')
        · intro a o g n
          have na : a ≠ Dl := ne_of_none g hD
          rw [upd_ne na]
          exact ((((xb.trans (.of ex)).trans e4).trans e6) a o g n)
        · exact ha2.snoc py
        · rw [el7, opts_snoc]
          exact dpa_app (dpa_mono (e5.trans e6') hda) (.cons dw .nil)
    · have en : i = ds.length := by omega
      subst en
      obtain ⟨S5, e5⟩ := S'.back
      obtain ⟨S6, x6, n6, l6⟩ := fl_go S1 xb S'.bag (fun p hp => (S'.tab p hp).mono (less_sub fun b z => z.elim (fun z => z.elim (fun z => .inl (.inl z)) .inr) fun z => .inl (.inr z)) rfl) hD ha
      refine .inl ⟨k2 (Nat.le_refl _), ?_⟩
      have k := q _ (hd os ha2) Dl acc _ S6 (e1.trans x6) n6 (by rw [l6, ← zs_lend]; exact hda)
      have k2 : Q (.ref Dl) (upd (less H' fun b => b = Dl) Dl (.lst acc)) := k
      rw [fl_upd ha] at k2
      exact k2) x
theorem ew_lc (h : IW K cs W wi G (LcI K cs W g tt te vs G (fun c => ∃ xs, c = ol xs ∧ φ (.list xs))) ε) : EW K cs W (tLc wi g tt te vs) G φ ε := ew_ef (ef_lc h)
theorem opts_map {β : Type} {f : β → PyData} : ∀ {xs : List β} {os : List (Option PyData)}, All2 (fun x o => o = some (f x)) xs os → opts os = xs.map f
  | _, _, .nil => rfl
  | x :: xs, _, .cons a t => by
    rw [a]
    show f x :: opts _ = _
    rw [opts_map t]; rfl
variable {β : Type} {xs : List β} {f : β → PyData}
theorem map_at {i : Nat} {x : PyData} (h : (xs.map f)[i]? = some x) : ∃ b, xs[i]? = some b ∧ f b = x ∧ b ∈ xs := by
  rw [List.getElem?_map] at h
  cases hb : xs[i]? with
  | none => rw [hb] at h; cases h
  | some b => rw [hb] at h; exact ⟨b, rfl, Option.some.inj h, List.mem_of_getElem? hb⟩
theorem gc_mono {x : PyData} {γ γ' : Gam → Prop} (h : GC K g vs G x γ) (m : ∀ G', γ G' → γ' G') : GC K g vs G x γ' := fun Wd B ad H0 H σ v S d Q q => h Wd B ad H0 H σ v S d Q fun G' σ' k => q G' σ' (m G' k)
/-- [.. for x in xs if ..], each turn by a relation -/
theorem lcR0 (R : β → Option PyData → Prop) (hz : xs.length ≤ 16000000) (hu : Unk vs G) (hs : ∀ x, x ∈ xs → GC K g vs G (f x) (fun Gt => TW K cs W tt Gt (fun b => Cnd b (EW K cs W te Gt (fun y => R x (some y)) noX) (R x none)) noX)) (p : ∀ os, All2 R xs os → χ (ol (opts os))) : LcI K cs W g tt te vs G χ (xs.map f) := by
  refine ⟨by rw [List.length_map]; exact hz, hu, fun i o => ∃ b, xs[i]? = some b ∧ R b o, fun i x hx => ?_, fun os ha => ?_⟩
  · obtain ⟨b, hb, rfl, hm⟩ := map_at hx
    exact gc_mono (hs b hm) fun Gt k => tw_mono k fun c q => ⟨fun hc => ew_mono (q.1 hc) fun y r => ⟨b, hb, r⟩, fun hc => ⟨b, hb, q.2 hc⟩⟩
  · rw [List.length_map] at ha
    exact p os (ha.all2 fun i x o hx ⟨b, hb, r⟩ => by rw [hx] at hb; cases hb; exact r)
/-- [h x for x in xs] -/
theorem lcM (h : β → PyData) (hz : xs.length ≤ 16000000) (hu : Unk vs G) (hs : ∀ x, x ∈ xs → GC K g vs G (f x) (fun Gt => EW K cs W te Gt (fun y => y = h x) noX)) (p : χ (ol (xs.map h))) : LcI K cs W g tYes te vs G χ (xs.map f) :=
  lcR0 (fun x o => o = some (h x)) hz hu (fun x hx => gc_mono (hs x hx) fun Gt k => tw_yes (cnd_t (ew_mono k fun y e => by rw [e]))) fun os ha => by rw [opts_map ha]; exact p
end
end U.N

end
section
namespace U.N
open PySem PyProof.Rows L2 Evl
section
variable {K : Fg} {cs : Cs} {W : WX} {G G' G1 G2 : Gam} {ta tb tc te : TE} {φ : PyData → Prop} {ε : Xw → Prop} {Φ Ψ : Out → Prop}
variable {Wd : Addr → Prop} {B : Bt} {ad : Nat → Addr} {H0 H H1 H2 : Hp} {σ σ' : St}
/-! ### raising -/
theorem ew_xf {i : Nat} {a dd C : Addr} {fs : List (Str × V)} {n : Str} {v : V} {x : PyData} (hi : G[i]? = some (.xc a dd fs)) (hl : fs.lookup n = some v) (hd : ∀ H, Dp K H v x) (p : φ x) : EW K cs W (tXf a (.ref C) (some dd) C n (tVar i)) G φ ε := fun Wd B ad H0 H σ S Q q _ => by
  obtain ⟨o, g1, rfl, g2⟩ := S.at_ i _ hi
  exact ⟨_, g1, rfl, rfl, dd, fs, v, rfl, (less_some g2).2, hl, q _ p _ H S Xb.refl (hd _)⟩
theorem ew_xfS {i : Nat} {a dd C : Addr} {fs : List (Str × V)} {n : Str} {v : Str} (hi : G[i]? = some (.xc a dd fs)) (hl : fs.lookup n = some (.str v)) (p : φ (.str v)) : EW K cs W (tXf a (.ref C) (some dd) C n (tVar i)) G φ ε := ew_xf hi hl (fun _ => .str v) p
/-- scalars as they stand -/
noncomputable def scV : PyData → Option V
  | .int i => some (.int i)
  | .str x => some (.str x)
  | .bool b => some (.bl b)
  | .none => some .non
  | _ => none
theorem sc_v {v : V} {x : PyData} {u : V} (d : Dp K H v x) (h : scV x = some u) : v = u := by
  cases d <;> first | (cases h; done) | (cases h; rfl)
theorem sw_raise1 {c : Str} {nm : List Str} {g : List V → Option (List (Str × V))} {te : TE} (cf : ClsF K cs c nm) (h : EW K cs W te G (fun x => ∃ u fs, scV x = some u ∧ g [u] = some fs ∧ Φ (.ex ⟨c, fs⟩ G)) (fun e => Φ (.ex e G))) : SW K cs W (tRaiseX (cs c) (spIn K nm g) [] (tCons te tNil) W) G Φ := fun Wd B ad H0 H σ D S q => by
  refine h Wd B ad H0 H σ S _ (fun x ⟨u, fs, hu, hg, p⟩ v H1 S1 e1 d1 => ?_) (post_xp q)
  have ev := sc_v d1 hu
  subst ev
  refine show tMkX (cs c) (spIn K nm g) [] (fun _ H Q => Q [v] H) σ H1 (fun cls d H' => W cls d σ H') from mk_read (ta := fun _ H Q => Q [v] H) cf.ox cf.no ⟨by show 1 ≤ 1000; decide, hg, fun d hd => ?_⟩ (fun Q1 Q2 m h => m _ _ h)
  have e : Ex H1 (upd H1 d (.xd fs)) := Ex.new hd
  exact q _ p d ad _ σ (S1.ext e) ((Xb.lz e1).trans (less_mono e)) (S1.fresh hd).1 (less_of (S1.fresh hd).2.2 upd_same)
/-! ### try .. except C as why -/
noncomputable def hq (i : Nat) (Φ : Out → Prop) : Out → Prop
  | .nx G => Φ (.nx (G.set i .un))
  | .bk G => Φ (.bk (G.set i .un))
  | .ct G => Φ (.ct (G.set i .un))
  | .rt x => Φ (.rt x)
  | .rl c => Φ (.rl c)
  | .ex _ _ => False
noncomputable def tq (K : Fg) (cs : Cs) (W : WX) (c : Str) (i : Nat) (ts : Addr → Value → Option Addr → TS) (Φ : Out → Prop) : Out → Prop
  | .ex e G => PySem.W.exmOne K (.ref (cs e.cls)) (.ref (cs c)) = some true ∧ ∀ a d, SW K cs W (ts a (.ref (cs e.cls)) (some d)) (G.set i (.xc a d e.fs)) (hq i Φ)
  | .nx G => Φ (.nx G)
  | .bk G => Φ (.bk G)
  | .ct G => Φ (.ct G)
  | .rt x => Φ (.rt x)
  | .rl c => Φ (.rl c)
theorem un_ex {i : Nat} : Ex (less H (Zs Wd B ad G)) (less H (Zs Wd B ad (G.set i .un))) := less_sub fun a z => Zs.set_of (fun _ z => by cases z) z
theorem sw_try {c : Str} {i : Nat} {tb : WX → TS} {ts : Addr → Value → Option Addr → TS} (h : ∀ W', SW K cs W' (tb W') G (tq K cs W c i ts Φ)) : SW K cs W (tTryAs K (.ref (cs c)) i tb ts) G Φ := fun Wd B ad H0 H σ D S q => by
  refine h _ Wd B ad H0 H σ D S fun o p => ?_
  cases o with
  | nx G1 => exact q _ p
  | bk G1 => exact q _ p
  | ct G1 => exact q _ p
  | rt x => exact q _ p
  | rl x => exact q _ p
  | ex e G1 =>
    intro d ad1 H1 σ1 S1 e1 hn hx
    obtain ⟨hm, p⟩ := p
    refine ⟨true, hm, fun _ a ha => ?_, fun z => by cases z⟩
    have S2 : Sta K Wd B ad1 H0 H1 (σ1.set i (some (.ref a))) (G1.set i (.xc a d e.fs)) := S1.set (fun _ z => by cases z) ⟨rfl, hx⟩
    have e2 : Ex (less H (Zs Wd B ad G)) (less H1 (Zs Wd B ad1 (G1.set i (.xc a d e.fs)))) := e1.trans (less_sub fun a z => Zs.set_of (fun _ z => by cases z) z)
    refine p a d Wd B ad1 H0 H1 _ _ S2 fun o po => ?_
    cases o with
    | nx G3 => exact fun ad3 H3 σ3 S3 e3 => q _ po ad3 H3 _ S3.setU ((e2.trans e3).trans un_ex)
    | bk G3 => exact fun ad3 H3 σ3 S3 e3 => q _ po ad3 H3 _ S3.setU ((e2.trans e3).trans un_ex)
    | ct G3 => exact fun ad3 H3 σ3 S3 e3 => q _ po ad3 H3 _ S3.setU ((e2.trans e3).trans un_ex)
    | rt x => exact q _ po
    | rl x => exact q _ po
    | ex e G3 => exact po.elim
end
/-! ### several clauses -/
section
variable {K : Fg} {cs : Cs} {W : WX} {G : Gam} {Φ : Out → Prop}
end
/-! ### defs -/
noncomputable def rts0 (A : Rs → Prop) : Out → Prop
  | .rt x => A (.ok x)
  | .rl c => A (.fl c)
  | .nx _ => A (.ok .none)
  | _ => False
noncomputable def rts (A : Rs → Prop) : Out → Prop
  | .rt x => A (.ok x)
  | .rl c => A (.fl c)
  | .nx _ => A (.ok .none)
  | .ex e _ => A (.er e)
  | _ => False
noncomputable def frame (n : Nat) (ds : List PyData) : Gam := ds.map .d ++ List.replicate (n - ds.length) .un
section
variable {Pg : Program} {w : World} {K : Fg} {mg : Str → Option Value} {base : Heap} {cs : Cs}
theorem frame_get {n i : Nat} {ds : List PyData} {e : En} (h : (frame n ds)[i]? = some e) : (∃ d, ds[i]? = some d ∧ e = .d d) ∨ (ds.length ≤ i ∧ e = .un) := qt_of (by simp (disch := with_unfolding_all
  unfold frame at h
  by_cases hi : i < ds.length
  · rw [List.getElem?_append_left (by rw [List.length_map]; exact hi), List.getElem?_map, List.getElem?_eq_getElem hi] at h
    exact .inl ⟨ds[i], List.getElem?_eq_getElem hi, (Option.some.inj h).symm⟩
  · have hi : ds.length ≤ i := by omega
    rw [List.getElem?_append_right (by rw [List.length_map]; exact hi)] at h
    exact .inr ⟨hi, (List.mem_replicate.mp (List.mem_of_getElem? h)).2⟩
  ) only [↓qt_eq])
theorem frame_len {n : Nat} {ds : List PyData} : (frame n ds).length = ds.length + (n - ds.length) := by
  unfold frame
  rw [List.length_append, List.length_map, List.length_replicate]
theorem bag_ok0 : Bag.ok ⟨[], 0, 0⟩ := ⟨by simp, by decide, by decide⟩
/-- the state at a def's entry -/
theorem sta0 {N : List Str} {Wd : Addr → Prop} {H : Hp} {vs : List V} {ds : List PyData} (hW : ∀ a, Wd a → ∃ o, H a = some o) (hd : DpAll K (less H Wd) vs ds) : Sta K Wd noB (fun _ => 0) H H (L2.start N vs) (frame N.length ds) := qt_of (by simp (disch := with_unfolding_all
  have no : ∀ (i : Nat) (c : Own), (frame N.length ds)[i]? ≠ some (En.ow c) := fun i c h => by
    rcases frame_get h with ⟨d, _, e⟩ | ⟨_, e⟩ <;> cases e
  have zz : ∀ a, Zs Wd noB (fun _ => 0) (frame N.length ds) a → Wd a := by
    rintro a (z | ⟨i, c, g, _⟩ | ⟨b, c, z, _⟩ | ⟨p, hp, _⟩)
    · exact z
    · exact absurd g (no i c)
    · cases z
    · cases hp
  refine ⟨?_, fun i e h => ?_, fun i j c c' g => absurd g (no i c), fun i c g => absurd g (no i c), fun a o h _ => h, ⟨⟨_, bag_ok0, trivial⟩, fun p hp => nomatch hp⟩, hW, fun p hp => nomatch hp⟩
  · rw [start_len, dpa_len hd, frame_len]
  · rcases frame_get h with ⟨d, hi, rfl⟩ | ⟨hi, rfl⟩
    · obtain ⟨v, hv, dv⟩ := dpa_get hd hi
      exact ⟨some v, start_get hv, v, rfl, dp_mono (less_sub zz) dv⟩
    · have il : i < (L2.start N vs).length := by
        rw [start_len, dpa_len hd]
        have := (List.getElem?_eq_some_iff.mp h).1
        rw [frame_len] at this
        exact this
      exact ⟨(L2.start N vs)[i], List.getElem?_eq_getElem il, trivial⟩
  ) only [↓qt_eq])
theorem inb_none {a : Addr} : ¬ InB noB a := fun z => by
  rcases z with ⟨_, _, z, _⟩ | ⟨p, hp, _⟩
  · cases z
  · cases hp
theorem xb_none {H H' : Hp} (h : Xb noB H H') : Ex H H' := fun a o g => h a o g inb_none
theorem sz_none {Wd : Addr → Prop} {H : Hp} : (less H fun a => Wd a ∨ InB noB a) = less H Wd := congrArg (less H) (funext fun a => propext ⟨fun z => z.elim id fun z => absurd z inb_none, Or.inl⟩)
theorem run0 {N : List Str} {Wd : Addr → Prop} {H : Hp} {vs : List V} {ds : List PyData} {A : Rs → Prop} {t : TS} {Q : VK} (hW : ∀ a, Wd a → ∃ o, H a = some o) (hd : DpAll K (less H Wd) vs ds) (h : SW K cs W0 t (frame N.length ds) (rts0 A)) (q : okRs H K Wd Q A) :
    t { nx := fun _ H' => Q .non H', rt := Q } (L2.start N vs) H := qt_of (by simp (disch := with_unfolding_all
  refine h Wd noB (fun _ => 0) H H _ _ (sta0 hW hd) fun o p => ?_
  cases o with
  | rt x => exact fun v H' e _ _ d => q.1 x p v H' (xb_none e) (by rw [sz_none] at d; exact d)
  | rl c => exact fun a us H' e _ _ hn ho d => q.2 c p a us H' (xb_none e) hn ho (dpa_mono (less_sub fun b z => by rcases z with z | z; exact .inl (.inl z); exact .inr z) d)
  | nx G => exact fun ad H' σ S _ => q.1 _ p _ H' (xb_none fun a o h n => S.base a o h n) .non
  | bk G => exact p.elim
  | ct G => exact p.elim
  | ex e G => exact p.elim
  ) only [↓qt_eq])
theorem runX {N : List Str} {Wd : Addr → Prop} {H : Hp} {vs : List V} {ds : List PyData} {A : Rs → Prop} {t : TS} {Q : VK} {E : XK} (hW : ∀ a, Wd a → ∃ o, H a = some o) (hd : DpAll K (less H Wd) vs ds) (h : SW K cs (WD E) t (frame N.length ds) (rts A)) (q : okRs H K Wd Q A) (x : ∀ e, A (.er e) → ∀ d H', Ex H H' → H d = none → H' d = some (.xd e.fs) → E (.ref (cs e.cls)) (some d) H') :
    t { nx := fun _ H' => Q .non H', rt := Q } (L2.start N vs) H := qt_of (by simp (disch := with_unfolding_all
  refine h Wd noB (fun _ => 0) H H _ _ (sta0 hW hd) fun o p => ?_
  cases o with
  | rt x => exact fun v H' e _ _ d => q.1 x p v H' (xb_none e) (by rw [sz_none] at d; exact d)
  | rl c => exact fun a us H' e _ _ hn ho d => q.2 c p a us H' (xb_none e) hn ho (dpa_mono (less_sub fun b z => by rcases z with z | z; exact .inl (.inl z); exact .inr z) d)
  | nx G => exact fun ad H' σ S _ => q.1 _ p _ H' (xb_none fun a o h n => S.base a o h n) .non
  | bk G => exact p.elim
  | ct G => exact p.elim
  | ex e G => exact fun d ad H' σ S _ hn hx => x e p d H' (xb_none fun a o h n => S.base a o h n) hn (less_some hx).2
  ) only [↓qt_eq])
/-- a def that never raises -/
theorem okW {x qual : Str} {st : Stmt} {f : Addr} {fd : FuncData} {N ps : List Str} {k : Nat} {P : Pr} (cs : Cs) (F : Fun K x qual st f fd) (S : FnScope N ps (defScope st)) (hl : ∀ ds A, P ds A → ds.length = ps.length)
    (hb : ∀ ds A, P ds A → ∀ (cdv : Value) (Ar : Around) (outer : List Env) (sh : Shared) (H : Hp) (E : XK), Room k (Ar.deeper (envOfC qual (defScope st) sh.heap.objs.size f cdv)) →
      ∃ t, PSs (cxOf CX0 Pg w K mg base N qual (defScope st) f cdv Ar outer sh H E).nox (defBody st) t ∧ SW K cs W0 t (frame N.length ds) (rts0 A)) : FnOk Pg w K mg base CX0 (k + 1) f fd ps (spW0 K P) := qt_of (by simp (disch := with_unfolding_all
  refine F.ok S (fun vs H Q E h => ?_) (fun cdv Ar outer sh H vs Q E hr h => ?_)
  · obtain ⟨Wd, ds, A, _, hd, hp, _⟩ := h
    rw [dpa_len hd]
    exact hl ds A hp
  · obtain ⟨Wd, ds, A, hW, hd, hp, q⟩ := h
    obtain ⟨t, ht, g⟩ := hb ds A hp cdv Ar outer sh H E hr
    exact ⟨t, ht, run0 hW hd g q⟩
  ) only [↓qt_eq])
theorem okWD {x qual : Str} {st : Stmt} {dvs : List V} {kws : List (Str × V)} {f : Addr} {fd : FuncData} {N ps : List Str} {k : Nat} {P : Pr} (cs : Cs) (F : FunD K x qual (defArgs st) (defBody st) (defScope st) dvs kws f fd) (S : FnScope N ps (defScope st)) (hl : ∀ ds A, P ds A → ds.length = ps.length)
    (hb : ∀ ds A, P ds A → ∀ (cdv : Value) (Ar : Around) (outer : List Env) (sh : Shared) (H : Hp) (E : XK), Room k (Ar.deeper (envOfC qual (defScope st) sh.heap.objs.size f cdv)) →
      ∃ t, PSs (cxOf CX0 Pg w K mg base N qual (defScope st) f cdv Ar outer sh H E).nox (defBody st) t ∧ SW K cs W0 t (frame N.length ds) (rts0 A)) : FnOk Pg w K mg base CX0 (k + 1) f fd ps (spW0 K P) := qt_of (by simp (disch := with_unfolding_all
  refine F.ok S (fun vs H Q E h => ?_) (fun cdv Ar outer sh H vs Q E hr h => ?_)
  · obtain ⟨Wd, ds, A, _, hd, hp, _⟩ := h
    rw [dpa_len hd]
    exact hl ds A hp
  · obtain ⟨Wd, ds, A, hW, hd, hp, q⟩ := h
    obtain ⟨t, ht, g⟩ := hb ds A hp cdv Ar outer sh H E hr
    exact ⟨t, ht.nox, run0 hW hd g q⟩
  ) only [↓qt_eq])
/-- a def that may raise -/
theorem okWX {x qual : Str} {st : Stmt} {f : Addr} {fd : FuncData} {N ps : List Str} {k : Nat} {P : Pr} (F : Fun K x qual st f fd) (S : FnScope N ps (defScope st)) (hl : ∀ ds A, P ds A → ds.length = ps.length)
    (hb : ∀ ds A, P ds A → ∀ (cdv : Value) (Ar : Around) (outer : List Env) (sh : Shared) (H : Hp) (E : XK), Room k (Ar.deeper (envOfC qual (defScope st) sh.heap.objs.size f cdv)) →
      ∃ t, PSs (cxOf (L2.CX Pg w) Pg w K mg base N qual (defScope st) f cdv Ar outer sh H E) (defBody st) t ∧ SW K cs (WD E) t (frame N.length ds) (rts A)) :
    FnOk Pg w K mg base (L2.CX Pg w) (k + 1) f fd ps (spW K cs P) := qt_of (by simp (disch := with_unfolding_all
  refine F.okX S (fun vs H Q E h => ?_) (fun cdv Ar outer sh H vs Q E hr h => ?_)
  · obtain ⟨Wd, ds, A, _, hd, hp, _⟩ := h
    rw [dpa_len hd]
    exact hl ds A hp
  · obtain ⟨Wd, ds, A, hW, hd, hp, q, x⟩ := h
    obtain ⟨t, ht, g⟩ := hb ds A hp cdv Ar outer sh H E hr
    exact ⟨t, ht, runX hW hd g q x⟩
  ) only [↓qt_eq])
theorem staB {N : List Str} {Wd : Addr → Prop} {H : Hp} {b c : Addr} {vs : List V} {ds : List PyData} (hW : ∀ a, Wd a → ∃ o, H a = some o) (hB : BagOk H (bgB b c)) (hd : DpAll K (less H fun a => Wd a ∨ InB (bgB b c) a) vs ds) :
    Sta K Wd (bgB b c) (fun _ => 0) H H (L2.start N (.ref b :: vs)) (.bag :: frame (N.length - 1) ds) := qt_of (by simp (disch := with_unfolding_all
  have no : ∀ (i : Nat) (l : Own), (En.bag :: frame (N.length - 1) ds)[i]? ≠ some (En.ow l) := fun i l h => by
    cases i with
    | zero => cases h
    | succ i => rcases frame_get h with ⟨d, _, e⟩ | ⟨_, e⟩ <;> cases e
  have zz : ∀ a, Zs Wd (bgB b c) (fun _ => 0) (En.bag :: frame (N.length - 1) ds) a → Wd a ∨ InB (bgB b c) a := by
    rintro a (z | ⟨i, l, g, _⟩ | z)
    · exact .inl z
    · exact absurd g (no i l)
    · exact .inr z
  have ln : (L2.start N (.ref b :: vs)).length = (En.bag :: frame (N.length - 1) ds).length := by
    rw [start_len, List.length_cons, List.length_cons, dpa_len hd, frame_len]
    omega
  refine ⟨ln, fun i e h => ?_, fun i j c c' g => absurd g (no i c), fun i c g => absurd g (no i c), fun a o h _ => h, hB, hW, fun p hp => nomatch hp⟩
  cases i with
  | zero =>
    cases h
    exact ⟨some (.ref b), rfl, b, c, rfl, rfl⟩
  | succ i =>
    rcases frame_get h with ⟨d, hi, rfl⟩ | ⟨hi, rfl⟩
    · obtain ⟨v, hv, dv⟩ := dpa_get hd hi
      exact ⟨some v, start_get (show (V.ref b :: vs)[i + 1]? = some v from hv), v, rfl, dp_mono (less_sub zz) dv⟩
    · have il : i + 1 < (L2.start N (.ref b :: vs)).length := by
        rw [ln]; exact (List.getElem?_eq_some_iff.mp h).1
      exact ⟨_, List.getElem?_eq_getElem il, trivial⟩
  ) only [↓qt_eq])
/-- a def that draws -/
theorem okWB {x qual : Str} {st : Stmt} {f : Addr} {fd : FuncData} {N ps : List Str} {k : Nat} {P : Pr} (cs : Cs) (F : Fun K x qual st f fd) (S : FnScope N ps (defScope st)) (hl : ∀ ds A, P ds A → ds.length + 1 = ps.length)
    (hb : ∀ ds A, P ds A → ∀ (cdv : Value) (Ar : Around) (outer : List Env) (sh : Shared) (H : Hp) (E : XK), Room k (Ar.deeper (envOfC qual (defScope st) sh.heap.objs.size f cdv)) →
      ∃ t, PSs (cxOf CX0 Pg w K mg base N qual (defScope st) f cdv Ar outer sh H E).nox (defBody st) t ∧ SW K cs W0 t (.bag :: frame (N.length - 1) ds) (rts0 A)) : FnOk Pg w K mg base CX0 (k + 1) f fd ps (spWB K P) := qt_of (by simp (disch := with_unfolding_all
  refine F.ok S (fun vs H Q E h => ?_) (fun cdv Ar outer sh H vs Q E hr h => ?_)
  · obtain ⟨Wd, b, c, us, ds, A, _, rfl, _, hd, hp, _⟩ := h
    rw [List.length_cons, dpa_len hd]
    exact hl ds A hp
  · obtain ⟨Wd, b, c, us, ds, A, hW, rfl, hB, hd, hp, q1, q2⟩ := h
    obtain ⟨t, ht, g⟩ := hb ds A hp cdv Ar outer sh H E hr
    refine ⟨t, ht, g Wd (bgB b c) (fun _ => 0) H H _ _ (staB hW hB hd) fun o p => ?_⟩
    cases o with
    | rt x => exact fun v H' e hb _ d => q1 x p v H' e hb d
    | rl l => exact fun a us H' e hb _ hn ho d => q2 l p a us H' e hb hn ho d
    | nx G => exact fun ad H' σ S _ => q1 _ p _ H' (fun a o h n => S.base a o h n) S.bag .non
    | bk G => exact p.elim
    | ct G => exact p.elim
    | ex e G => exact p.elim
  ) only [↓qt_eq])
theorem bag0_okN {ns : List Int} (h : ns.length ≤ 63) : (bag0 ns).ok := ⟨h, by show (0 : Int) ≤ 20011; decide, by show (20011 : Int) < 2147483647; decide⟩
/-- the law itself -/
theorem okLawW {x qual : Str} {st : Stmt} {f : Addr} {fd : FuncData} {N : List Str} {a : Str} {k j : Nat} (cs : Cs) (F : Fun K x qual st f fd) (S : FnScope N [a] (defScope st)) (hj : j = 1) (hN : 2 ≤ N.length)
    (hb : ∀ (ns : List Int), ns.length ≤ 63 → ∀ (cdv : Value) (A : Around) (outer : List Env) (sh : Shared) (H : Hp) (E : XK), Room k (A.deeper (envOfC qual (defScope st) sh.heap.objs.size f cdv)) →
      ∃ t, PSs (cxOf CX0 Pg w K mg base N qual (defScope st) f cdv A outer sh H E).nox (defBody st) (tSeq (tAsg (tCall (spBag K) [] E0 (tCons (tVar 0) tNil)) (gName j)) t) ∧ SW K cs W0 t (.d (.list (ns.map PyData.int)) :: .bag :: List.replicate (N.length - 2) .un) (fun o => o = .rt (.bool true))) : FnOk Pg w K mg base CX0 (k + 1) f fd [a] (spP K PLaw) := qt_of (by simp (disch := with_unfolding_all
  subst hj
  refine F.ok S (fun vs H Q E h => ?_) (fun cdv A outer sh H vs Q E hr h => ?_)
  · obtain ⟨W, ds, r, _, hd, ⟨ns, rfl, _⟩, _⟩ := h
    exact dpa_len hd
  · obtain ⟨W, ds, r, hW, hd, ⟨ns, rfl, hl, rfl⟩, q⟩ := h
    obtain ⟨t, ht, g⟩ := hb ns hl cdv A outer sh H E hr
    obtain ⟨v, rfl, dv⟩ := dp1 hd
    obtain ⟨N0, N1, N', rfl⟩ : ∃ a b r, N = a :: b :: r := by
      match N, hN with
      | a :: b :: r, _ => exact ⟨a, b, r, rfl⟩
    refine ⟨_, ht, ?_⟩
    refine ⟨v, rfl, W, ns, hW, hd, hl, fun b c H' e fb fc hB => ?_⟩
    have nb : ∀ a o, H a = some o → ¬ InB (bgB b c) a := by
      rintro a o h (⟨b', c', e, z⟩ | ⟨p, hp, _⟩)
      rotate_left
      · cases hp
      cases e
      rcases z with rfl | rfl
      · rw [fb] at h; cases h
      · rw [fc] at h; cases h
    have no : ∀ (i : Nat) (l : Own), (En.d (.list (ns.map PyData.int)) :: En.bag :: List.replicate N'.length En.un)[i]? ≠ some (En.ow l) := fun i l h => by
      match i, h with
      | 0, h => cases h
      | 1, h => cases h
      | i + 2, h => cases (List.mem_replicate.mp (List.mem_of_getElem? h)).2
    have hW' : ∀ a, W a → ∃ o, H' a = some o := fun a z => (hW a z).elim fun o q => ⟨o, e a o q⟩
    have S0 : Sta K W (bgB b c) (fun _ => 0) H H' ((L2.start (N0 :: N1 :: N') [v]).set 1 (some (.ref b))) (En.d (.list (ns.map PyData.int)) :: En.bag :: List.replicate N'.length En.un) := by
      refine ⟨?_, fun i en h => ?_, fun i j c c' g => absurd g (no i c), fun i c g => absurd g (no i c), fun a o h _ => e a o h, ⟨⟨_, bag0_okN hl, hB⟩, fun p hp => nomatch hp⟩, hW', fun p hp => nomatch hp⟩
      · rw [List.length_set, start_len]
        simp
        omega
      · match i, h with
        | 0, h =>
          cases h
          refine ⟨some v, rfl, v, rfl, dp_mono ?_ dv⟩
          intro a o q
          obtain ⟨q1, q2⟩ := less_some q
          refine less_of ?_ (e a o q2)
          rintro (z | ⟨i, l, g, _⟩ | z)
          · exact q1 z
          · exact no i l g
          · exact nb a o q2 z
        | 1, h =>
          cases h
          exact ⟨some (.ref b), rfl, b, c, rfl, rfl⟩
        | i + 2, h =>
          have en := (List.mem_replicate.mp (List.mem_of_getElem? h)).2
          subst en
          have il : i + 2 < ((L2.start (N0 :: N1 :: N') [v]).set 1 (some (.ref b))).length := by
            have := (List.getElem?_eq_some_iff.mp h).1
            rw [List.length_set, start_len]
            simp at this ⊢
            omega
          exact ⟨_, List.getElem?_eq_getElem il, trivial⟩
    refine g W (bgB b c) (fun _ => 0) H H' _ _ S0 fun o p => ?_
    subst p
    exact fun v' H2 e2 _ _ d => by
      cases d
      exact q _ H2 (fun a o h => e2 a o h (nb a o h)) (.bl true)
  ) only [↓qt_eq])
end
end U.N

end
section
namespace U.N
open PySem PyProof.Rows L2 Evl
section
variable {K : Fg} {cs : Cs} {W : WX} {G G' G1 G2 : Gam} {ta tb tc td te tf tg : TE} {φ : PyData → Prop} {ε : Xw → Prop} {ι : List PyData → Prop} {χ : Own → Prop} {γ : Gam → Prop} {Φ Ψ : Out → Prop}
variable {Wd : Addr → Prop} {B : Bt} {ad : Nat → Addr} {H0 H H1 H2 : Hp} {σ σ' : St}
/-! ### what a value is -/
section
variable {P : Int → Prop} {Pb : Bool → Prop} {Ps : Str → Prop} {Pl : List PyData → Prop} {i j : Int} {b : Bool} {x y z : PyData} {xs ys : List PyData}
theorem xi_int (p : P i) : ∃ j, PyData.int i = .int j ∧ P j := ⟨_, rfl, p⟩
theorem xi_bool (p : Pb b) : ∃ j, PyData.bool b = .bool j ∧ Pb j := ⟨_, rfl, p⟩
theorem xi_str {b : Str} (p : Ps b) : ∃ j, PyData.str b = .str j ∧ Ps j := ⟨_, rfl, p⟩
theorem xi_tup (p : Pl xs) : ∃ j, PyData.tuple xs = .tuple j ∧ Pl j := ⟨_, rfl, p⟩
theorem xi_list (p : Pl xs) : ∃ j, PyData.list xs = .list j ∧ Pl j := ⟨_, rfl, p⟩
theorem xi_it (h : itemsOf x = some xs) (p : Pl xs) : ∃ j, itemsOf x = some j ∧ Pl j := ⟨_, h, p⟩
theorem x1_int (p : P i) : ∃ j, [PyData.int i] = [.int j] ∧ P j := ⟨_, rfl, p⟩
theorem x1_bool (p : Pb b) : ∃ j, [PyData.bool b] = [.bool j] ∧ Pb j := ⟨_, rfl, p⟩
theorem x2_int {P : Int → Int → Prop} (p : P i j) : ∃ k l, [PyData.int i, .int j] = [.int k, .int l] ∧ P k l := ⟨_, _, rfl, p⟩
theorem x1_it (h : itemsOf x = some xs) (p : Pl xs) : ∃ (y : PyData) (ys : List PyData), [x] = [y] ∧ itemsOf y = some ys ∧ Pl ys := ⟨_, _, rfl, h, p⟩
theorem x1_rng {P : Int → Prop} (hb : -1000000 ≤ i ∧ i ≤ 1000000) (p : P i) : ∃ n : Int, [PyData.int i] = [.int n] ∧ (-1000000 ≤ n ∧ n ≤ 1000000) ∧ P n := ⟨_, rfl, hb, p⟩
theorem allB_map {α : Type} {f : α → Bool} {l : List α} : AllB [PyData.list (l.map fun a => .bool (f a))] (l.all f) := ⟨l.map f, by rw [List.map_map]; rfl, by rw [List.all_map]; rfl⟩
theorem x_all (h : AllB xs b) (p : Pb b) : ∃ b, AllB xs b ∧ Pb b := ⟨b, h, p⟩
theorem sc_int (p : Pb (decide (i = j))) : ∃ b, scEq (.int i) (.int j) = some b ∧ Pb b := ⟨_, rfl, p⟩
theorem sc_str {i j : Str} (p : Pb (decide (i = j))) : ∃ b, scEq (.str i) (.str j) = some b ∧ Pb b := ⟨_, rfl, p⟩
theorem x_ol (p : Pl xs) : ∃ ys, ol xs = ol ys ∧ Pl ys := ⟨_, rfl, p⟩
theorem unk1 {G : Gam} {i : Nat} (h : G[i]? = some .un) : Unk [i] G := fun j e hj g => by
  rw [List.mem_singleton.mp hj, h] at g
  exact (Option.some.inj g).symm
end
/-! ### displays of a known length -/
theorem ew_tup1 (h : EW K cs W ta G (fun a => φ (.tuple [a])) ε) : EW K cs W (tTup (tCons ta tNil)) G φ ε := ew_tup (aw_cons (ew_mono h fun a p => aw_nil ⟨by show 1 ≤ 16000000; decide, p⟩))
theorem ew_tup2 (h : EW K cs W ta G (fun a => EW K cs W tb G (fun b => φ (.tuple [a, b])) ε) ε) : EW K cs W (tTup (tCons ta (tCons tb tNil))) G φ ε := ew_tup (aw_cons (ew_mono h fun a h => aw_cons (ew_mono h fun b p => aw_nil ⟨by show 2 ≤ 16000000; decide, p⟩)))
theorem ew_tup3 (h : EW K cs W ta G (fun a => EW K cs W tb G (fun b => EW K cs W tc G (fun c => φ (.tuple [a, b, c])) ε) ε) ε) : EW K cs W (tTup (tCons ta (tCons tb (tCons tc tNil)))) G φ ε := ew_tup (aw_cons (ew_mono h fun a h => aw_cons (ew_mono h fun b h => aw_cons (ew_mono h fun c p => aw_nil ⟨by show 3 ≤ 16000000; decide, p⟩))))
theorem ef_lst0 (p : χ (ol [])) : EF K cs W (tLst tNil) G χ ε := ef_lst (aw_nil ⟨by show 0 ≤ 16000000; decide, p⟩)
theorem ef_lst1 (h : EW K cs W ta G (fun a => χ (ol [a])) ε) : EF K cs W (tLst (tCons ta tNil)) G χ ε := ef_lst (aw_cons (ew_mono h fun a p => aw_nil ⟨by show 1 ≤ 16000000; decide, p⟩))
theorem ef_lst2 (h : EW K cs W ta G (fun a => EW K cs W tb G (fun b => χ (ol [a, b])) ε) ε) : EF K cs W (tLst (tCons ta (tCons tb tNil))) G χ ε := ef_lst (aw_cons (ew_mono h fun a h => aw_cons (ew_mono h fun b p => aw_nil ⟨by show 2 ≤ 16000000; decide, p⟩)))
theorem ew_lst0 (p : φ (.list [])) : EW K cs W (tLst tNil) G φ ε := ew_ef (ef_lst0 ⟨_, rfl, p⟩)
theorem ew_lst1 (h : EW K cs W ta G (fun a => φ (.list [a])) ε) : EW K cs W (tLst (tCons ta tNil)) G φ ε := ew_ef (ef_lst1 (ew_mono h fun a p => ⟨_, rfl, p⟩))
theorem ew_lst2 (h : EW K cs W ta G (fun a => EW K cs W tb G (fun b => φ (.list [a, b])) ε) ε) : EW K cs W (tLst (tCons ta (tCons tb tNil))) G φ ε := ew_ef (ef_lst2 (ew_mono h fun a h => ew_mono h fun b p => ⟨_, rfl, p⟩))
/-! ### calls without defaults -/
section
variable {ta : TA} {P : Pr} {E : XK}
theorem ew_cP {P : List PyData → PyData → Prop} (h : AW K cs W ta G (fun ds => ∃ r, P ds r ∧ φ r) ε) : EW K cs W (tCall (spP K P) [] E ta) G φ ε := ew_callP (des := []) (fun _ => .nil) (aw_mono h fun ds p => by rw [List.append_nil]; exact p)
theorem ew_c0 (h : AW K cs W ta G (fun ds => P ds (rE φ noX)) ε) : EW K cs W (tCall (spW0 K P) [] E ta) G φ ε := ew_call0 (des := []) (fun _ => .nil) (aw_mono h fun ds p => by rw [List.append_nil]; exact p)
theorem ew_cW (h : AW K cs W ta G (fun ds => P ds (rE φ ε)) ε) : EW K cs W (tCallSD (spW K cs P) [] (WE W) ta) G φ ε := ew_callW (des := []) (fun _ => .nil) (aw_mono h fun ds p => by rw [List.append_nil]; exact p)
end
theorem rE_ok {x : PyData} (h : φ x) : rE φ ε (.ok x) := h
/-! ### zip -/
/-! ### stars -/
noncomputable def GsW (K : Fg) (g : TGs) (G : Gam) (xs : List PyData) (γ : Gam → Prop) : Prop :=
  ∀ Wd B ad H0 H σ us, Sta K Wd B ad H0 H σ G → DpAll K (less H (Zs Wd B ad G)) us xs → ∀ Q : St → Hp → Prop,
  (∀ G' ad' H' σ', γ G' → Sta K Wd B ad' H0 H' σ' G' → Ex (less H (Zs Wd B ad G)) (less H' (Zs Wd B ad' G')) → Q σ' H') → g us σ H Q
theorem gsw_nil (h : γ G) : GsW K gNil G [] γ := fun Wd B ad H0 H σ us S d Q q => by
  cases d
  exact ⟨rfl, q _ _ _ _ h S (Ex.refl _)⟩
theorem gsw_cons {g : TG} {gs : TGs} {x : PyData} {xs : List PyData} (h : GW K g G x (fun G' => GsW K gs G' xs γ)) : GsW K (gCons g gs) G (x :: xs) γ := fun Wd B ad H0 H σ us S d Q q => by
  cases d with
  | cons a b =>
    refine ⟨_, _, rfl, h Wd B ad H0 H σ _ S a _ fun G1 ad1 H1 σ1 p S1 e1 => ?_⟩
    exact p Wd B ad1 H0 H1 σ1 _ S1 (dpa_mono e1 b) _ fun G2 ad2 H2 σ2 p S2 e2 => q G2 ad2 H2 σ2 p S2 (e1.trans e2)
theorem gw_tup {n : Nat} {gs : TGs} {xs : List PyData} (hn : xs.length = n) (h : GsW K gs G xs γ) : GW K (gTup K n gs) G (.tuple xs) γ := fun Wd B ad H0 H σ v S d Q q => by
  cases d with
  | tup g t => exact ⟨_, _, rfl, ex_t less_ex g, (dpa_len t).trans hn, h Wd B ad H0 H σ _ S t Q q⟩
/-- for i in range(n) -/
theorem forN {g : TG} {tb : TS} {k : Nat} (I : Nat → Gam → Prop) (h0 : I 0 G) (hs : ∀ i G1, i < k → I i G1 → GW K g G1 (.int i) (fun Gt => SW K cs W tb Gt (lp (I (i + 1)) Φ))) (he : ∀ G1, I k G1 → Φ (.nx G1)) : ForI K cs W g tb G Φ (rngD 0 k) := by
  refine ⟨I, h0, fun i x G1 hx hI => ?_, fun G1 hI => he G1 (by rw [rngD_len] at hI; exact hI)⟩
  have hl := (List.getElem?_eq_some_iff.mp hx).1
  rw [rngD_len] at hl
  rw [rngD_get hl] at hx
  cases hx
  rw [Int.zero_add]
  exact hs i G1 hl hI
section
variable {tz tu tw : TS} {g : TG} {wi : TI} {t : TT} {ti : TIp} {i j : Nat} {ta : TA}
theorem sw_seqA (h : SW K cs W (tAsg te g) G (sq K cs W tz Φ)) : SW K cs W (tSeq (tAsg te g) tz) G Φ := sw_seq h
end
theorem sw_cut {tu tz : TS} (J : Gam → Prop) (h : SW K cs W tu G (fun o => ∃ G1, o = .nx G1 ∧ J G1)) (k : ∀ G1, J G1 → SW K cs W tz G1 Φ) : SW K cs W (tSeq tu tz) G Φ := sw_seq (sw_mono h fun o ⟨G1, e, j⟩ => by rw [e]; exact k G1 j)
theorem x_nx {J : Gam → Prop} (h : J G) : ∃ G1, Out.nx G = .nx G1 ∧ J G1 := ⟨G, rfl, h⟩
/-! ### more of lists of one's own -/
theorem sw_ext {i : Nat} {xs : List PyData} (hi : G[i]? = some (.ow (ol xs))) (h : EF K cs W te G (fun c => ∃ ys, c = ol ys ∧ xs.length + ys.length ≤ 16000000 ∧ Φ (.nx (G.set i (.ow (ol (xs ++ ys)))))) (fun e => Φ (.ex e G))) : SW K cs W (tDrop (tBM K "list" rExtend (tVar i) (tCons te tNil))) G Φ := fun Wd B ad H0 H σ D S q => by
  obtain ⟨o, g1, rfl, vs, g3, g4⟩ := S.at_ i _ hi
  have g3 : H (ad i) = some (.lst vs) := g3
  refine ⟨_, g1, Or.inl ⟨rfl, vs, sq_of g3⟩, h Wd B ad H0 H σ S _ (fun c ⟨ys, ec, hl, p⟩ a us H1 S1 e1 hn d => ?_) (post_xp q)⟩
  subst ec
  obtain ⟨_, _, _, ws, g5, g6⟩ := S1.at_ i _ hi
  have g5 : H1 (ad i) = some (.lst ws) := g5
  have g6 : DpAll K _ ws xs := g6
  have na : ad i ≠ a := ne_of_none g5 hn
  obtain ⟨S2, e2, _⟩ := new_ex (o := .lst us) S1 hn
  have d' : DpAll K _ us ys := d
  refine ⟨_, a, ws, us, rfl, rfl, by show upd H1 a _ _ = _; rw [upd_ne na]; exact g5, upd_same, by rw [dpa_len g6, dpa_len d']; exact sz_line hl, ?_⟩
  exact q _ p ad _ σ (S2.chg (c' := ol (xs ++ ys)) hi (dpa_app (dpa_mono (Xb.lz e2) g6) (dpa_mono (Xb.lz e2) d'))) ((Xb.lz (e1.trans e2)).trans (chg_ex hi))
end
end U.N

end
section
namespace U.N
open PySem PyProof.Rows L2 Evl
section
variable {φ : PyData → Prop} {n m : Nat} {p q : Fr}
/-! ### items by literal places -/
section
variable {α : Type} {ψ : α → Prop} {xs : List α} {z : α}
theorem at_nat {i : Nat} (h : xs[i]? = some z) (p : ψ z) : ∃ z, atI xs (i : Int) = some z ∧ ψ z := ⟨z, atI_nat h, p⟩
theorem at0 (h : xs[0]? = some z) (p : ψ z) : ∃ z, atI xs 0 = some z ∧ ψ z := at_nat (i := 0) h p
theorem at1 (h : xs[1]? = some z) (p : ψ z) : ∃ z, atI xs 1 = some z ∧ ψ z := at_nat (i := 1) h p
end
/-! ### what calls of the first layer's defs give -/
theorem c_pull {k : Int} (h0 : 0 < k) (h1 : k < 1000000000000) (h : ∀ v : Int, 0 ≤ v → v < k → φ (.int v)) (s : Bag) (ok : s.ok) : ∃ r s', P_pull s [.int k] r s' ∧ s'.ok ∧ φ r :=
  ⟨_, _, ⟨k, rfl, h0, h1, rfl, rfl⟩, pullS_ok _ ok, h _ (pullV_range s h0).1 (pullV_range s h0).2⟩
theorem c_map {st gl : Int} (h1 : 0 ≤ st) (h2 : 0 ≤ gl) (l1 : st ≤ 1000) (l2 : gl ≤ 1000) (h : ∀ m, Mp 10 gl.toNat st.toNat m → φ (mp m)) (s : Bag) (ok : s.ok) : ∃ r s', P_map s [.int st, .int gl] r s' ∧ s'.ok ∧ φ r :=
  ⟨_, _, ⟨st.toNat, gl.toNat, by rw [Int.toNat_of_nonneg h1, Int.toNat_of_nonneg h2], by omega, by omega, rfl, rfl⟩, mapS_ok ok _ _, h _ (mapOf_mp _ _ _)⟩
end
end U.N


end
section
/-! Spots in order: the common number below, the keys, the order by worth. -/
namespace U
open PySem PyProof.Rows L2 Evl
/-! ### the common number -/
/-! ### the keys -/
end U

end
section
/-! Dicts of one's own, keys tuples; sorted. -/
namespace U.N
open PySem L2 Evl
noncomputable abbrev Kvs := List (List PyData × PyData)
section
variable {K : Fg} {M : Hp}
end
section
variable {K : Fg} {cs : Cs} {W : WX} {G G' G1 G2 : Gam} {ta tb tc te : TE} {t u : TT} {φ : PyData → Prop} {ε : Xw → Prop} {ψ : Bool → Prop} {α : List PyData → Prop} {ι : List PyData → Prop} {χ : Own → Prop} {Φ : Out → Prop} {tu : TS}
variable {Wd : Addr → Prop} {B : Bt} {ad : Nat → Addr} {H0 H H1 H2 : Hp} {σ : L2.St} {w : World} {ep : Nat} {kvs : Kvs} {i : Nat}
/-! ### sorted -/
end
/-! ### a dict by a comprehension -/
section
variable {K : Fg} {cs : Cs} {W : WX} {G : Gam} {tk tv : TE} {ε : Xw → Prop} {χ : Own → Prop} {wi : TI} {g : TG} {tt : TT} {vs : List Nat} {w : World}
end
end U.N

end
section
/-! The order of spots; dicts by keys of a type. -/
namespace U
open PySem PyProof.Rows L2 Evl
noncomputable abbrev Spot := List Fr
/-! ### dicts by typed keys -/
namespace N
section
variable {κ β : Type} [DecidableEq κ] {ek : κ → List PyData} {ev : β → PyData}
end
end N
end U

end
section
/-! Keys that are whole numbers; sorted rows of whole numbers; forms for the walking tactic. -/
namespace U.N
open PySem L2 Evl
/-! ### rows of whole numbers, sorted -/
/-! ### forms for the tactic -/
section
variable {K : Fg} {cs : Cs} {W : WX} {G : Gam} {ta tb : TE} {φ : PyData → Prop} {ε : Xw → Prop} {w : World} {ep : Nat} {kvs : Kvs} {i : Nat}
theorem ew_inS {neg : Bool} (h : EW K cs W ta G (fun x => EW K cs W tb G (fun y => ∃ ds, itemsOf y = some ds ∧ SeqAt.shaped x = true ∧ SeqAt.shaped (.list ds) = true ∧ φ (.bool (if neg then !ds.any (fun z => PyData.eqv z x) else ds.any fun z => PyData.eqv z x))) ε) ε) : EW K cs W (tOp (rInS K neg) ta tb) G φ ε :=
  ew_op (ew_mono h fun x h => ew_mono h fun y ⟨ds, e, h1, h2, p⟩ => fun Wd B ad H0 H σ v w S d1 d2 Q q => ⟨x, y, ds, dp_mono less_ex d1, dp_mono less_ex d2, items_cases e, h1, h2, q _ p _ H S Xb.refl (.bl _)⟩)
end
end U.N

end
section
namespace U.N
open PySem PyProof.Rows L2 Evl
section
variable {K : Fg} {cs : Cs} {W : WX} {G G' : Gam} {ta te : TE} {φ : PyData → Prop} {ε : Xw → Prop} {ι : List PyData → Prop} {χ : Own → Prop} {Φ : Out → Prop}
variable {Wd : Addr → Prop} {B : Bt} {ad : Nat → Addr} {H0 H H1 H2 : Hp} {σ : L2.St}
/-! ### enumerate -/
noncomputable def enD (xs : List PyData) : List PyData := xs.mapIdx fun i x => .tuple [.int (i : Nat), x]
theorem enD_at {xs : List PyData} {i : Nat} : (enD xs)[i]? = xs[i]?.map fun x => .tuple [.int (i : Nat), x] := by unfold enD; rw [List.getElem?_mapIdx]
theorem enD_len {xs : List PyData} : (enD xs).length = xs.length := by unfold enD; exact List.length_mapIdx
/-! ### many clauses -/
/-! the turns' items by a map -/
section
variable {β : Type} {xs : List β} {f : β → PyData} {g : TG} {tt : TT} {tc : TCl} {vs : List Nat} {m : Nat} {ρ : List PyData → Prop}
end
end
end U.N

end
section
/-! A list of one's own is lent to a test or a call that only reads it. -/
namespace U.N
open PySem PyProof.Rows L2 Evl
section
variable {K : Fg} {cs : Cs} {W : WX} {G : Gam} {te : TE} {t : TT} {φ : PyData → Prop} {ψ : Bool → Prop} {ε : Xw → Prop} {i : Nat} {xs : List PyData}
variable {Wd : Addr → Prop} {B : Bt} {ad : Nat → Addr} {H0 H H2 : Hp} {σ : L2.St}
end
end U.N

end
section
namespace U.N
open PySem PyProof.Rows L2 Evl
section
variable {K : Fg} {cs : Cs} {W : WX} {G G' : Gam} {ta tb te : TE} {φ : PyData → Prop} {ε : Xw → Prop} {χ : Own → Prop} {Φ : Out → Prop} {γ : Gam → Prop} {P : Pr}
variable {Wd : Addr → Prop} {B : Bt} {ad : Nat → Addr} {H0 H H1 H2 : Hp} {σ : L2.St}
/-! ### first, *rest = xs -/
/-! ### calls with keywords that may raise -/
/-! ### xs.index(y) -/
end
/-! ### keys that are bodies -/
end U.N

end
section
namespace U.N
open PySem PyProof.Rows L2 Evl
section
variable {K : Fg} {cs : Cs} {W : WX} {G : Gam} {φ : PyData → Prop} {ε : Xw → Prop}
/-! ### max and min of a list of whole numbers -/
end
end U.N

end
section
namespace U.N
open PySem PyProof.Rows L2 Evl
section
variable {K : Fg} {cs : Cs} {W : WX} {G : Gam} {φ : PyData → Prop} {ε : Xw → Prop}
/-- isinstance(why, D), why caught as a C -/
theorem ew_isD {i : Nat} {a dd C D : Addr} {fs : List (Str × V)} {b : Bool} (hi : G[i]? = some (.xc a dd fs)) (hk : PySem.W.kitOne K (.ref C) (.ref D) = some b) (p : φ (.bool b)) : EW K cs W (tCB (rIsD K a (.ref C) (some dd) C) (tCons (tVar i) (tCons (tC (.ref D)) tNil))) G φ ε := fun Wd B ad H0 H σ S Q q _ => by
  obtain ⟨o, g1, rfl, g2⟩ := S.at_ i _ hi
  exact ⟨_, g1, D, dd, fs, b, rfl, rfl, rfl, (less_some g2).2, hk, q _ p _ H S Xb.refl (.bl _)⟩
end
end U.N

end
section
namespace U.N
open PySem PyProof.Rows L2 Evl
section
variable {K : Fg} {cs : Cs} {W : WX} {G : Gam} {Φ : Out → Prop}
end
end U.N

end
section
namespace U.N
open PySem PyProof.Rows L2 Evl
section
variable {K : Fg} {cs : Cs} {W : WX} {G : Gam} {γ : Gam → Prop}
end
end U.N

end
section
/-! Defs as values: a def that tells a def by a text, and calls by a name that holds one. -/
namespace U.N
open PySem PyProof.Rows L2 Evl
noncomputable abbrev FTab := List (Str × Addr)
section
variable {K : Fg} {cs : Cs} {W : WX} {G : Gam} {φ : PyData → Prop} {ε : Xw → Prop} {Φ : Out → Prop} {t u : TE} {ta : TA} {i : Nat} {f : Addr} {P : Pr} {tab : FTab} {e : Xw}
end
/-! ### the body of such a def -/
section
variable (K : Fg) (cs : Cs) (W : WX)
end
section
variable {K : Fg} {cs : Cs} {W : WX} {G : Gam} {A : Addr → Prop} {ε : Xw → Prop} {t1 t2 : TS} {w : World} {f md : Addr} {i : Nat} {z : Str}
end
section
variable {Pg : Program} {w : World} {K : Fg} {mg : Str → Option Value} {base : Heap} {cs : Cs}
end
end U.N

end
section
/-! list(d), d a dict of one's own: its keys, in the order in which they came. -/
namespace U
open PySem PySem.W PyProof.Rows L2 Evl
end U
namespace U.N
open PySem PyProof.Rows L2 Evl
section
variable {K : Fg} {cs : Cs} {W : WX} {G : Gam} {φ : PyData → Prop} {χ : Own → Prop} {ε : Xw → Prop} {w : World} {i ep : Nat} {kvs : Kvs}
end
end U.N

end
section
/-! sorted(set(xs)), xs a list of tuples of whole numbers. -/
namespace U
open PySem PySem.W PyProof.Rows L2 Evl
end U

end
section
/-! sorted(set(xs)), told to the readings. -/
namespace U.N
open PySem PyProof.Rows L2 Evl
section
variable {K : Fg} {cs : Cs} {W : WX} {G : Gam} {φ : PyData → Prop} {χ : Own → Prop} {ε : Xw → Prop} {te : TE} {P : Program} {w : World}
end
end U.N

end
section
/-! sorted(set(xs)) as a term; xs.insert(0, y). -/
namespace U.N
open PySem PyProof.Rows L2 Evl
section
variable {K : Fg} {cs : Cs} {W : WX} {G : Gam} {φ : PyData → Prop} {ε : Xw → Prop} {Φ : Out → Prop} {te : TE}
end
end U.N

end
section
/-! Texts: len, signs, slices, in, int(text), str(number), +, *, f-strings, partition, find, count, join. -/
namespace U.N
open PySem PyProof.Rows L2 Evl
/-- a sign as a text -/
noncomputable abbrev sg (c : Nat) : PyData := .str ⟨#[c]⟩
/-! ### relations by name -/
noncomputable def rLenS : List V → Hp → VK → Prop := fun xs H Q => ∃ z, xs = [.str z] ∧ z.length ≤ sizeLine ∧ Q (.int z.length) H
noncomputable def rAddStr : R2 := fun x y H Q => ∃ i j, x = .str i ∧ y = .str j ∧ i.length + j.length ≤ sizeLine ∧ Q (.str (i ++ j)) H
noncomputable def rInSg : R2 := fun x y H Q => ∃ (c : Nat) (z : Str), x = .str ⟨#[c]⟩ ∧ y = .str z ∧ Q (.bl (decide (c ∈ z.cps.toList))) H
noncomputable def rIntS : List V → Hp → VK → Prop := fun xs H Q => ∃ a n, xs = [.str a] ∧ PySem.intText? a = some n ∧ a.length ≤ 640 ∧ Q (.int n) H
noncomputable def rStrI : List V → Hp → VK → Prop := fun xs H Q => ∃ i, xs = [.int i] ∧ i.natAbs.log2 < 1920 ∧ Q (.str (toString i)) H
noncomputable def rPart : V → List V → Hp → VK → Prop := fun x xs H Q => ∃ a b, x = .str a ∧ xs = [.str b] ∧ (b.length == 0) = false ∧ a.length ≤ sizeLine ∧
    ∀ p, H p = none → Q (.ref p) (upd H p (.tup [.str (Txt.partition a b).1, .str (Txt.partition a b).2.1, .str (Txt.partition a b).2.2]))
noncomputable def rJoin (K : Fg) : V → List V → Hp → VK → Prop := fun x xs H Q => ∃ a p, ∃ ys : List Str, x = .str a ∧ xs = [.ref p] ∧ (SqL K H p (ys.map V.str) ∨ SqT K H p (ys.map V.str)) ∧
    (ys.map (·.length)).sum + ys.length * a.length ≤ 16777216 ∧ Q (.str (Txt.join a ys)) H
section
variable {X : Cx} {o e : Expr} {to te : TE}
theorem c_lenS : CallR X (.builtin "len") rLenS := call_len_str
theorem op_addStr : OpR X (binaryOp .Add) rAddStr := op_add_str
theorem op_inSg : OpR X (compareOp .In) rInSg := op_in_sign
theorem c_intS : CallR X (.type "int") rIntS := call_int_str
theorem c_strI : CallR X (.type "str") rStrI := call_str_int
theorem pe_partS {apos pos : Pos} (ho : PE X o to) (he : PE X e te) (hs : starEach [e] X.env = [(false, eval e X.env)] := by rfl) (hbase : attributeBase o "partition" X.env (eval o X.env) = eval o X.env := by rfl) (hline : (apos.endLine == pos.line) = true := by rfl) :
    PE X (.Call (.Attribute o "partition" apos) [e] [] pos) (tM1 rPart to te) := pe_m1 F.slot_str_partition F.type_str_partition mt_partition ho he hs hbase hline
theorem pe_joinS {apos pos : Pos} (ho : PE X o to) (he : PE X e te) (hs : starEach [e] X.env = [(false, eval e X.env)] := by rfl) (hbase : attributeBase o "join" X.env (eval o X.env) = eval o X.env := by rfl) (hline : (apos.endLine == pos.line) = true := by rfl) :
    PE X (.Call (.Attribute o "join" apos) [e] [] pos) (tM1 (rJoin X.K) to te) := pe_m1 F.slot_str_join F.type_str_join mt_join ho he hs hbase hline
end
/-! ### isinstance(why, a built-in class) -/
end U.N
namespace U
open PySem PyProof.Rows L2 Evl
end U
namespace U.N
open PySem PyProof.Rows L2 Evl
/-! ### what suffices -/
section
variable {K : Fg} {cs : Cs} {W : WX} {G : Gam} {φ : PyData → Prop} {ε : Xw → Prop} {ι : List PyData → Prop} {te ta tb : TE}
theorem ew_lenS {ta : TA} (h : AW K cs W ta G (fun xs => ∃ z : Str, xs = [.str z] ∧ z.length ≤ sizeLine ∧ φ (.int z.length)) ε) : EW K cs W (tCB rLenS ta) G φ ε := ew_cb (aw_mono h fun xs ⟨z, e, hl, p⟩ Wd B ad H0 H σ vs S d Q q => by
  subst e
  cases d with
  | cons h1 t =>
    cases t
    cases h1
    exact ⟨z, rfl, hl, q _ p _ H S Xb.refl (.int _)⟩)
theorem ew_intS {ta : TA} (h : AW K cs W ta G (fun xs => ∃ (z : Str) (n : Int), xs = [.str z] ∧ PySem.intText? z = some n ∧ z.length ≤ 640 ∧ φ (.int n)) ε) : EW K cs W (tCB rIntS ta) G φ ε := ew_cb (aw_mono h fun xs ⟨z, n, e, hn, hl, p⟩ Wd B ad H0 H σ vs S d Q q => by
  subst e
  cases d with
  | cons h1 t =>
    cases t
    cases h1
    exact ⟨z, n, rfl, hn, hl, q _ p _ H S Xb.refl (.int _)⟩)
theorem ew_strI {ta : TA} (h : AW K cs W ta G (fun xs => ∃ i : Int, xs = [.int i] ∧ i.natAbs.log2 < 1920 ∧ φ (.str (toString i))) ε) : EW K cs W (tCB rStrI ta) G φ ε := ew_cb (aw_mono h fun xs ⟨i, e, hl, p⟩ Wd B ad H0 H σ vs S d Q q => by
  subst e
  cases d with
  | cons h1 t =>
    cases t
    cases h1
    exact ⟨i, rfl, hl, q _ p _ H S Xb.refl (.str _)⟩)
theorem ew_addStr (h : EW K cs W ta G (fun x => ∃ i, x = .str i ∧ EW K cs W tb G (fun y => ∃ j, y = .str j ∧ i.length + j.length ≤ sizeLine ∧ φ (.str (i ++ j))) ε) ε) : EW K cs W (tOp rAddStr ta tb) G φ ε :=
  ew_op (ew_mono h fun x ⟨i, e, h⟩ => ew_mono h fun y ⟨j, e2, hl, p⟩ => fun Wd B ad H0 H σ v w S d1 d2 Q q => by
    subst e; subst e2
    cases d1; cases d2
    exact ⟨i, j, rfl, rfl, hl, q _ p _ H S Xb.refl (.str _)⟩)
theorem ew_inSg (h : EW K cs W ta G (fun x => ∃ c, x = sg c ∧ EW K cs W tb G (fun y => ∃ z : Str, y = .str z ∧ φ (.bool (decide (c ∈ z.cps.toList)))) ε) ε) : EW K cs W (tOp rInSg ta tb) G φ ε :=
  ew_op (ew_mono h fun x ⟨c, e, h⟩ => ew_mono h fun y ⟨z, e2, p⟩ => fun Wd B ad H0 H σ v w S d1 d2 Q q => by
    subst e; subst e2
    cases d1; cases d2
    exact ⟨c, z, rfl, rfl, q _ p _ H S Xb.refl (.bl _)⟩)
theorem ew_ixS (h : EW K cs W ta G (fun x => ∃ z : Str, x = .str z ∧ z.length ≤ sizeLine ∧ EW K cs W tb G (fun y => ∃ j c, y = .int j ∧ atI z.cps.toList j = some c ∧ φ (sg c)) ε) ε) : EW K cs W (tOp rIxS ta tb) G φ ε :=
  ew_op (ew_mono h fun x ⟨z, e, hl, h⟩ => ew_mono h fun y ⟨j, c, e2, hc, p⟩ => fun Wd B ad H0 H σ v w S d1 d2 Q q => by
    subst e; subst e2
    cases d1; cases d2
    exact ⟨z, j, c, rfl, rfl, hl, hc, q _ p _ H S Xb.refl (.str _)⟩)
theorem ew_slS {tl th : TO} (h : EW K cs W te G (fun x => ∃ z : Str, x = .str z ∧ z.length ≤ sizeLine ∧ OW K cs W tl G (fun lo => OW K cs W th G (fun hi => φ (.str (cutS z lo hi))) ε) ε) ε) : EW K cs W (tSl rSlS te tl th) G φ ε := fun Wd B ad H0 H σ S Q q x =>
  h Wd B ad H0 H σ S _ (fun y ⟨z, e, hl, p⟩ v H1 S1 e1 d1 => p Wd B ad H0 H1 σ S1 _ (fun lo p H2 S2 e2 => p Wd B ad H0 H2 σ S2 _ (fun hi p H3 S3 e3 => by
    subst e
    cases d1
    exact ⟨z, rfl, hl, q _ p _ H3 S3 (e1.trans (e2.trans e3)) (.str _)⟩) ((x.go e1).go e2)) (x.go e1)) x
theorem iw_str (h : EW K cs W te G (fun x => ∃ z : Str, x = .str z ∧ ι (z.cps.toList.map sg)) ε) : IW K cs W (iStr te) G ι ε := fun Wd B ad H0 H σ S R q x => h Wd B ad H0 H σ S _ (fun y ⟨z, e, p⟩ v H1 S1 e1 d1 => by
  subst e
  cases d1
  refine ⟨z, rfl, q _ p _ H1 S1 e1 fun H' Z hz e i => ⟨fun d hd => ?_, fun hl => ?_, fun x H'' hy => ?_⟩⟩
  · have := (List.getElem?_eq_some_iff.mp hd).1
    rw [List.length_map, Array.length_toList] at this
    exact this
  · rw [List.length_map, Array.length_toList] at hl
    exact hl
  · obtain ⟨rfl, c, hc, rfl⟩ := hy
    refine ⟨Ex.refl _, fun d hd => ?_⟩
    rw [List.getElem?_map, Array.getElem?_toList, hc] at hd
    cases hd
    exact .str _) x
/-- a method of a text with one text -/
theorem ew_m1 {r : V → List V → Hp → VK → Prop} (h : EW K cs W ta G (fun x => ∃ a : Str, x = .str a ∧ EW K cs W tb G (fun y => ∀ Wd B ad H0 H σ w, Sta K Wd B ad H0 H σ G → Dp K (less H (Zs Wd B ad G)) w y → ∀ Q : VK, (∀ z, φ z → ∀ v H2, Sta K Wd B ad H0 H2 σ G → Xb B H H2 → Dp K (less H2 (Zs Wd B ad G)) v z → Q v H2) → r (.str a) [w] H Q) ε) ε) : EW K cs W (tM1 r ta tb) G φ ε := fun Wd B ad H0 H σ S Q q x =>
  h Wd B ad H0 H σ S _ (fun x1 ⟨a, ea, p1⟩ v H1 S1 e1 d1 => by
    subst ea
    cases d1
    exact ⟨⟨a, rfl⟩, p1 Wd B ad H0 H1 σ S1 _ (fun y p2 w H2 S2 e2 d2 => p2 Wd B ad H0 H2 σ w S2 d2 Q fun z p v H3 S3 e3 d3 => q z p v H3 S3 ((e1.trans e2).trans e3) d3) (x.go e1)⟩) x
theorem ew_partS (h : EW K cs W ta G (fun x => ∃ a : Str, x = .str a ∧ EW K cs W tb G (fun y => ∃ b : Str, y = .str b ∧ (b.length == 0) = false ∧ a.length ≤ sizeLine ∧ φ (.tuple [.str (Txt.partition a b).1, .str (Txt.partition a b).2.1, .str (Txt.partition a b).2.2])) ε) ε) : EW K cs W (tM1 rPart ta tb) G φ ε :=
  ew_m1 (ew_mono h fun x ⟨a, ea, h⟩ => ⟨a, ea, ew_mono h fun y ⟨b, eb, hb, hl, p⟩ => fun Wd B ad H0 H σ w S d Q q => by
    subst eb
    cases d
    refine ⟨a, b, rfl, rfl, hb, hl, fun p' hp => ?_⟩
    obtain ⟨S2, e2, g⟩ := new_ex (o := .tup [.str (Txt.partition a b).1, .str (Txt.partition a b).2.1, .str (Txt.partition a b).2.2]) S hp
    exact q _ p _ _ S2 e2 (.tup (st_of g) (.cons (.str _) (.cons (.str _) (.cons (.str _) .nil))))⟩)
theorem strs_of_dpa {H : Hp} : ∀ {ys : List Str} {vs : List V}, DpAll K H vs (ys.map PyData.str) → vs = ys.map V.str
  | [], _, .nil => rfl
  | _ :: ys, _, .cons h t => by cases h; rw [strs_of_dpa t]; rfl
theorem ew_joinS (h : EW K cs W ta G (fun x => ∃ a : Str, x = .str a ∧ EW K cs W tb G (fun y => ∃ ys : List Str, y = .list (ys.map PyData.str) ∧ (ys.map (·.length)).sum + ys.length * a.length ≤ 16777216 ∧ φ (.str (Txt.join a ys))) ε) ε) : EW K cs W (tM1 (rJoin K) ta tb) G φ ε :=
  ew_m1 (ew_mono h fun x ⟨a, ea, h⟩ => ⟨a, ea, ew_mono h fun y ⟨ys, eb, hl, p⟩ => fun Wd B ad H0 H σ w S d Q q => by
    subst eb
    cases d with
    | @lst a2 vs _ g t =>
      rw [strs_of_dpa t] at g
      exact ⟨a, a2, ys, rfl, rfl, .inl (ex_l less_ex g), hl, q _ p _ H S Xb.refl (.str _)⟩⟩)
end
end U.N

end
section
/-! An empty dict among data: displays that hold one, names and arguments that are one. -/
namespace U.N
open PySem PyProof.Rows L2 Evl
section
variable (K : Fg) (cs : Cs) (W : WX)
end
section
variable {K : Fg} {cs : Cs} {W : WX} {G : Gam} {ta tb te : TE} {tr tk : TA} {φ : PyData → Prop} {χ : Option PyData → Prop} {α : List (Option PyData) → Prop} {ε : Xw → Prop} {Φ : Out → Prop} {P P1 : Pr} {dvs : List V} {des : List PyData} {E : XK}
end
/-! ### the bodies of such defs -/
section
variable {Pg : Program} {w : World} {K : Fg} {mg : Str → Option Value} {base : Heap} {cs : Cs}
end
end U.N

end
section
/-! Values that are no data, known by what stays true of them. -/
namespace U.N
open PySem PyProof.Rows L2 Evl
noncomputable abbrev Rho := V → Hp → Prop
/-- it holds, and will -/
noncomputable def Stay (M : Hp) (ρ : Rho) (v : V) : Prop := ∀ M', Ex M M' → ρ v M'
theorem Stay.mono {M M2 : Hp} {ρ : Rho} {v : V} (h : Stay M ρ v) (e : Ex M M2) : Stay M2 ρ v := fun M' m => h M' fun a o q => m a o (e a o q)
section
variable {K : Fg} {cs : Cs} {W : WX}
variable {G : Gam} {φ : Rho → Prop} {ψ : PyData → Prop} {α : List Rho → Prop} {Φ : Out → Prop} {ε : Xw → Prop} {ta tr : TA} {te tf : TE}
end
end U.N

end
section
/-! Loops and comprehensions over values that are no data. -/
namespace U.N
open PySem PyProof.Rows L2 Evl
section
variable {K : Fg} {cs : Cs} {W : WX} {G : Gam} {φ : Rho → Prop} {ψ : PyData → Prop} {χ : Own → Prop} {Φ : Out → Prop} {ε : Xw → Prop} {ι : List Rho → Prop} {γ : Gam → Prop} {te : TE} {tt : TT} {wi : TI} {g : TG} {vs : List Nat}
end
end U.N

end
section
/-! Defs that take values which are no data. -/
namespace U.N
open PySem PySem.W PyProof.Rows L2 Evl
noncomputable abbrev PrE := List En → (Rs → Prop) → Prop
noncomputable def frameE (n : Nat) (es : List En) : Gam := es ++ List.replicate (n - es.length) .un
section
variable {Pg : Program} {w : World} {K : Fg} {mg : Str → Option Value} {base : Heap} {cs : Cs}
theorem frameE_get {n i : Nat} {es : List En} {e : En} (h : (frameE n es)[i]? = some e) : es[i]? = some e ∨ (es.length ≤ i ∧ e = .un) := qt_of (by simp (disch := with_unfolding_all
  unfold frameE at h
  by_cases hi : i < es.length
  · rw [List.getElem?_append_left hi] at h
    exact .inl h
  · rw [List.getElem?_append_right (by omega)] at h
    exact .inr ⟨by omega, (List.mem_replicate.mp (List.mem_of_getElem? h)).2⟩
  ) only [↓qt_eq])
theorem frameE_len {n : Nat} {es : List En} : (frameE n es).length = es.length + (n - es.length) := by
  unfold frameE
  rw [List.length_append, List.length_replicate]
end
/-! ### their calls -/
section
variable {K : Fg} {cs : Cs} {W : WX} {G : Gam} {φ : PyData → Prop} {χ : Own → Prop} {ε : Xw → Prop} {ta tr : TA} {te : TE} {E : XK} {P : PrE} {α : List En → Prop}
end
end U.N

end
section
/-! More of values that are no data: lists put together, items, pairs, isinstance, targets. -/
namespace U.N
open PySem PyProof.Rows L2 Evl
section
variable {K : Fg} {cs : Cs} {W : WX} {G : Gam} {φ : Rho → Prop} {ψ : PyData → Prop} {Φ : Out → Prop} {ε : Xw → Prop} {γ : Gam → Prop} {ta tb te : TE}
/-! ### targets -/
end
end U.N

end
section
/-! Comprehensions whose item may raise. -/
namespace U.N
open PySem PyProof.Rows L2 Evl
section
variable {K : Fg} {cs : Cs} {W : WX} {G : Gam} {φ : PyData → Prop} {ε : Xw → Prop} {χ : Own → Prop} {ι : List PyData → Prop} {wi : TI} {g : TG} {tt : TT} {vs : List Nat} {Φ : Out → Prop}
variable {Wd : Addr → Prop} {B : Bt} {ad : Nat → Addr} {H0 H H1 H2 : Hp} {σ : St}
variable {β : Type} {xs : List β} {f : β → PyData}
end
end U.N

end
section
/-! Dicts with texts for keys: of one's own, and frozen. -/
namespace U.N
open PySem PyProof.Rows L2 Evl
noncomputable abbrev Sd := List (Str × PyData)
section
variable {K : Fg} {M : Hp}
end
section
variable {K : Fg} {cs : Cs} {W : WX} {G : Gam} {φ : PyData → Prop} {ε : Xw → Prop} {χ : Own → Prop} {Φ : Out → Prop} {te tk : TE} {tu : TS} {kvs : Sd} {i j : Nat}
variable {Wd : Addr → Prop} {B : Bt} {ad : Nat → Addr} {H0 H H1 H2 : Hp} {σ : St}
end
end U.N

end
section
/-! Defs that call themselves. -/
namespace U.N
open PySem PyProof.Rows L2 Evl
section
variable {Pg : Program} {w : World} {K : Fg} {mg : Str → Option Value} {base : Heap} {cs : Cs} {vs : List V} {H : Hp} {Q : VK} {E : XK}
theorem fnok_none {CX : CXT} {k : Nat} {f : Addr} {fd : FuncData} {ps : List Str} {sp : Sp} (h : ∀ vs H Q E, sp vs H Q E → False) : FnOk Pg w K mg base CX k f fd ps sp :=
  ⟨fun vs H Q E z => (h _ _ _ _ z).elim, fun A outer s H args us vs Q E _ _ _ _ z => (h _ _ _ _ z).elim⟩
theorem no_W0 {P : Pr} (n : ∀ ds A, P ds A → False) (h : spW0 K P vs H Q E) : False := by obtain ⟨_, _, _, _, _, h, _⟩ := h; exact n _ _ h
theorem no_WB {P : Pr} (n : ∀ ds A, P ds A → False) (h : spWB K P vs H Q E) : False := by obtain ⟨_, _, _, _, _, _, _, _, _, _, h, _⟩ := h; exact n _ _ h
end
end U.N

end
section
/-! A def out of a table of the module, held by a local name; a call by such a name that may raise. -/
namespace U.N
open PySem PyProof.Rows L2 Evl
section
variable {K : Fg} {cs : Cs} {W : WX} {G : Gam} {φ : PyData → Prop} {ε : Xw → Prop} {Φ : Out → Prop} {ta : TA} {i j : Nat} {f md : Addr} {P : Pr} {w : World} {z : Str}
end
end U.N

end
section
/-! Defs that tell a pair of data and a new list of the asker's own. -/
namespace U.N
open PySem PySem.W PyProof.Rows L2 Evl
inductive Rp where
  | ok (x : PyData) (c : List PyData)
  | er (e : Xw)
noncomputable abbrev PrP := List PyData → (Rp → Prop) → Prop
section
variable {K : Fg} {cs : Cs} {W : WX} {G G' G1 G2 : Gam} {ta tb tc te : TE} {φ : PyData → Prop} {ε : Xw → Prop} {Φ : Out → Prop} {tu tv : TS} {A : Rp → Prop}
variable {Wd : Addr → Prop} {B : Bt} {ad : Nat → Addr} {H0 H H1 H2 : Hp} {σ σ' : St}
/-! ### the def -/
/-! ### its calls -/
variable {P : PrP} {tA : TA}
/-! ### a pair is told, looked at, and its list cleared -/
end
end U.N

end
section
/-! The third layer: beside slots a store of things that may be changed, told by their addresses. -/
namespace U.N
open PySem PyProof.Rows L2 Evl
noncomputable abbrev Sto := Addr → Option Own
noncomputable def updO (O : Sto) (a : Addr) (c : Own) : Sto := fun b => if b = a then some c else O b
section
variable {O : Sto} {a b : Addr} {c c' : Own}
theorem updO_same : updO O a c a = some c := if_pos rfl
theorem updO_ne (h : b ≠ a) : updO O a c b = O b := if_neg h
theorem updO_updO : updO (updO O a c) a c' = updO O a c' := funext fun b => by
  by_cases e : b = a
  · rw [e, updO_same, updO_same]
  · rw [updO_ne e, updO_ne e, updO_ne e]
theorem updO_self (h : O a = some c) : updO O a c = O := funext fun b => by
  by_cases e : b = a
  · rw [e, updO_same, h]
  · rw [updO_ne e]
end
noncomputable abbrev WO (Wd : Addr → Prop) (O : Sto) : Addr → Prop := fun a => Wd a ∨ O a ≠ none
noncomputable abbrev ZO (Wd : Addr → Prop) (B : Bt) (ad : Nat → Addr) (G : Gam) (O : Sto) : Addr → Prop := Zs (WO Wd O) B ad G
noncomputable def ObjAt (K : Fg) (M H : Hp) (a : Addr) (c : Own) : Prop := ∃ vs, H a = some (c.obj a vs) ∧ DpAll K M vs c.flat
theorem ObjAt.mono {K : Fg} {M M2 H H2 : Hp} {a : Addr} {c : Own} (h : ObjAt K M H a c) (x : Ex M M2) (y : ∀ o, H a = some o → H2 a = some o) : ObjAt K M2 H2 a c := let ⟨vs, h1, h2⟩ := h; ⟨vs, y _ h1, dpa_mono x h2⟩
structure StaO (K : Fg) (Wd : Addr → Prop) (B : Bt) (ad : Nat → Addr) (H0 H : Hp) (σ : St) (G : Gam) (O : Sto) : Prop where
  S : Sta K (WO Wd O) B ad H0 H σ G
  ob : ∀ a c, O a = some c → ObjAt K (less H (ZO Wd B ad G O)) H a c
  fr : ∀ a, O a ≠ none → H0 a = none ∧ ¬ InB B a ∧ ¬ Wd a
/-- a value is such -/
noncomputable def VaOk (K : Fg) (M : Hp) (v : V) : En → Prop
  | .d x => Dp K M v x
  | .vl u => v = u
  | .rv ρ => Stay M ρ v
  | _ => False
theorem VaOk.mono {K : Fg} {M M2 : Hp} {v : V} {e : En} (h : VaOk K M v e) (x : Ex M M2) : VaOk K M2 v e := by
  cases e <;> first | exact dp_mono x h | exact Stay.mono h x | exact h
theorem VaOk.now {K : Fg} {M : Hp} {v : V} {e : En} (h : VaOk K M v e) : ∀ c, e ≠ .ow c := fun c z => by subst z; exact h
inductive VaAll (K : Fg) (M : Hp) : List V → List En → Prop
  | nil : VaAll K M [] []
  | cons {v : V} {e : En} {vs : List V} {es : List En} : VaOk K M v e → VaAll K M vs es → VaAll K M (v :: vs) (e :: es)
theorem VaAll.mono {K : Fg} {M M2 : Hp} : ∀ {vs : List V} {es : List En}, VaAll K M vs es → Ex M M2 → VaAll K M2 vs es
  | _, _, .nil, _ => .nil
  | _, _, .cons a b, x => .cons (a.mono x) (b.mono x)
theorem VaAll.len {K : Fg} {M : Hp} : ∀ {vs : List V} {es : List En}, VaAll K M vs es → vs.length = es.length
  | _, _, .nil => rfl
  | _, _, .cons _ b => congrArg (· + 1) b.len
theorem VaAll.at_ {K : Fg} {M : Hp} : ∀ {vs : List V} {es : List En} {j : Nat} {e : En}, VaAll K M vs es → es[j]? = some e → ∃ v, vs[j]? = some v ∧ VaOk K M v e
  | _, _, 0, _, .cons a b, h => by cases h; exact ⟨_, rfl, a⟩
  | _, _, j + 1, _, .cons a b, h => b.at_ (j := j) h
theorem VaAll.data {K : Fg} {M : Hp} : ∀ {vs : List V} {xs : List PyData}, VaAll K M vs (xs.map .d) → DpAll K M vs xs
  | _, [], .nil => .nil
  | _, _ :: _, .cons a b => .cons a b.data
theorem VaAll.app {K : Fg} {M : Hp} : ∀ {vs us : List V} {es fs : List En}, VaAll K M vs es → VaAll K M us fs → VaAll K M (vs ++ us) (es ++ fs)
  | _, _, _, _, .nil, h => h
  | _, _, _, _, .cons a b, h => .cons a (b.app h)
theorem VaAll.ofData {K : Fg} {M : Hp} : ∀ {vs : List V} {xs : List PyData}, DpAll K M vs xs → VaAll K M vs (xs.map .d)
  | _, _, .nil => .nil
  | _, _, .cons a b => .cons a (VaAll.ofData b)
/-! ### what is wanted -/
section
variable (K : Fg) (cs : Cs) (W : WX)
noncomputable def XPO (Wd : Addr → Prop) (B : Bt) (ad : Nat → Addr) (H0 M : Hp) (σ : St) (G : Gam) (ε : Xw → Sto → Prop) : Prop :=
  ∀ e O', ε e O' → ∀ d H2, StaO K Wd B ad H0 H2 σ G O' → Ex M (less H2 (ZO Wd B ad G O')) → H0 d = none → less H2 (ZO Wd B ad G O') d = some (.xd e.fs) → W (.ref (cs e.cls)) (some d) σ H2
noncomputable def EO (te : TE) (G : Gam) (O : Sto) (φ : En → Sto → Prop) (ε : Xw → Sto → Prop) : Prop :=
  ∀ Wd B ad H0 H σ, StaO K Wd B ad H0 H σ G O → ∀ Q : VK, (∀ e O', φ e O' → ∀ v H2, StaO K Wd B ad H0 H2 σ G O' → Ex (less H (ZO Wd B ad G O)) (less H2 (ZO Wd B ad G O')) → VaOk K (less H2 (ZO Wd B ad G O')) v e → Q v H2) →
    XPO K cs W Wd B ad H0 (less H (ZO Wd B ad G O)) σ G ε → te σ H Q
noncomputable def TO (tt : TT) (G : Gam) (O : Sto) (ψ : Bool → Sto → Prop) (ε : Xw → Sto → Prop) : Prop :=
  ∀ Wd B ad H0 H σ, StaO K Wd B ad H0 H σ G O → ∀ Q : Bool → Hp → Prop, (∀ b O', ψ b O' → ∀ H2, StaO K Wd B ad H0 H2 σ G O' → Ex (less H (ZO Wd B ad G O)) (less H2 (ZO Wd B ad G O')) → Q b H2) →
    XPO K cs W Wd B ad H0 (less H (ZO Wd B ad G O)) σ G ε → tt σ H Q
noncomputable def AO (ta : TA) (G : Gam) (O : Sto) (α : List En → Sto → Prop) (ε : Xw → Sto → Prop) : Prop :=
  ∀ Wd B ad H0 H σ, StaO K Wd B ad H0 H σ G O → ∀ Q : List V → Hp → Prop, (∀ es O', α es O' → ∀ vs H2, StaO K Wd B ad H0 H2 σ G O' → Ex (less H (ZO Wd B ad G O)) (less H2 (ZO Wd B ad G O')) → VaAll K (less H2 (ZO Wd B ad G O')) vs es → Q vs H2) →
    XPO K cs W Wd B ad H0 (less H (ZO Wd B ad G O)) σ G ε → ta σ H Q
inductive OutO where
  | nx (G : Gam) (O : Sto)
  | rt (e : En) (O : Sto)
  | rl (c : Own) (O : Sto)
  | bk (G : Gam) (O : Sto)
  | ct (G : Gam) (O : Sto)
  | ex (e : Xw) (G : Gam) (O : Sto)
/-- how a def's body leaves the heap -/
structure EndO (Wd : Addr → Prop) (B : Bt) (H0 H : Hp) (O : Sto) : Prop where
  x : Xb B H0 H
  bag : BagOk H B
  tab : ∀ p ∈ B.T, TabZ H (fun a => WO Wd O a ∨ InB B a) p
  ob : ∀ a c, O a = some c → ObjAt K (less H fun a => WO Wd O a ∨ InB B a) H a c
  fr : ∀ a, O a ≠ none → H0 a = none ∧ ¬ InB B a ∧ ¬ Wd a
noncomputable def PostOO (Wd : Addr → Prop) (B : Bt) (H0 M : Hp) (D : Ends) : OutO → Prop
  | .nx G O => ∀ ad H σ, StaO K Wd B ad H0 H σ G O → Ex M (less H (ZO Wd B ad G O)) → D.nx σ H
  | .rt e O => ∀ v H, EndO K Wd B H0 H O → VaOk K (less H fun a => WO Wd O a ∨ InB B a) v e → D.rt v H
  | .rl c O => ∀ a H, O a = none → EndO K Wd B H0 H (updO O a c) → D.rt (.ref a) H
  | .bk G O => ∀ ad H σ, StaO K Wd B ad H0 H σ G O → Ex M (less H (ZO Wd B ad G O)) → D.bk σ H
  | .ct G O => ∀ ad H σ, StaO K Wd B ad H0 H σ G O → Ex M (less H (ZO Wd B ad G O)) → D.ct σ H
  | .ex e G O => ∀ d ad H σ, StaO K Wd B ad H0 H σ G O → Ex M (less H (ZO Wd B ad G O)) → H0 d = none → less H (ZO Wd B ad G O) d = some (.xd e.fs) → W (.ref (cs e.cls)) (some d) σ H
noncomputable def SO (ts : TS) (G : Gam) (O : Sto) (Φ : OutO → Prop) : Prop :=
  ∀ Wd B ad H0 H σ (D : Ends), StaO K Wd B ad H0 H σ G O → (∀ o, Φ o → PostOO K cs W Wd B H0 (less H (ZO Wd B ad G O)) D o) → ts D σ H
end
section
variable {K : Fg} {cs : Cs} {W : WX} {G G' G1 G2 : Gam} {O O1 O2 : Sto} {te tf ta tb : TE} {t u : TT} {tu tv tw tz : TS} {tA tB : TA} {φ : En → Sto → Prop} {ε : Xw → Sto → Prop} {ψ : Bool → Sto → Prop} {α : List En → Sto → Prop} {Φ Ψ : OutO → Prop}
variable {Wd : Addr → Prop} {B : Bt} {ad : Nat → Addr} {H0 H H1 H2 M : Hp} {σ : St} {c c' : Own} {a p : Addr}
noncomputable abbrev noXO : Xw → Sto → Prop := fun _ _ => False
theorem XPO.go {M2 : Hp} (h : XPO K cs W Wd B ad H0 M σ G ε) (x : Ex M M2) : XPO K cs W Wd B ad H0 M2 σ G ε := fun e O' he d H2 S y hd hx => h e O' he d H2 S (x.trans y) hd hx
/-! ### the state -/
theorem Sta.subW {W1 W2 : Addr → Prop} (S : Sta K W2 B ad H0 H σ G) (hw : ∀ a, W1 a → W2 a) : Sta K W1 B ad H0 H σ G ∧ Ex (less H (Zs W2 B ad G)) (less H (Zs W1 B ad G)) := qt_of (by simp (disch := with_unfolding_all
  have ex : Ex (less H (Zs W2 B ad G)) (less H (Zs W1 B ad G)) := less_sub fun a z => z.elim (fun z => .inl (hw a z)) .inr
  refine ⟨⟨S.len, fun i e h => ?_, S.inj, fun i c h => ⟨(S.sep i c h).1, (S.sep i c h).2.1, fun z => (S.sep i c h).2.2 (hw _ z)⟩, S.base, S.bag, fun a z => S.wd a (hw a z), fun p hp => (S.tab p hp).mono ex rfl⟩, ex⟩
  obtain ⟨u, g1, g2⟩ := S.at_ i e h
  exact ⟨u, g1, g2.mono ex fun _ _ _ q => q⟩
  ) only [↓qt_eq])
theorem StaO.go (S : StaO K Wd B ad H0 H σ G O) (S2 : Sta K (WO Wd O) B ad H0 H2 σ G) (x : Xb B H H2) : StaO K Wd B ad H0 H2 σ G O :=
  ⟨S2, fun a c h => (S.ob a c h).mono (Xb.lz x) fun o q => x _ _ q (S.fr a (by rw [h]; simp)).2.1, S.fr⟩
theorem StaO.xp (S : StaO K Wd B ad H0 H σ G O) (x : XPO K cs W Wd B ad H0 (less H (ZO Wd B ad G O)) σ G ε) : XP K cs W (WO Wd O) B ad H0 H σ G (fun e => ε e O) := fun e he d H2 S2 xb hd hx => x e O he d H2 (S.go S2 xb) (Xb.lz xb) hd hx
theorem StaO.fresh (S : StaO K Wd B ad H0 H σ G O) (h : H p = none) : H0 p = none ∧ ¬ InB B p ∧ ¬ ZO Wd B ad G O p ∧ O p = none := by
  obtain ⟨f1, f2, f3⟩ := S.S.fresh h
  refine ⟨f1, f2, f3, ?_⟩
  cases e : O p with
  | none => rfl
  | some c => exact absurd (Or.inl (Or.inr (by rw [e]; simp))) f3
theorem StaO.ext (S : StaO K Wd B ad H0 H σ G O) (e : Ex H H2) : StaO K Wd B ad H0 H2 σ G O := S.go (S.S.ext e) (.of e)
theorem StaO.set (S : StaO K Wd B ad H0 H σ G O) {i : Nat} {e : En} {v : V} (h : VaOk K (less H (ZO Wd B ad G O)) v e) : StaO K Wd B ad H0 H (σ.set i (some v)) (G.set i e) O ∧ Ex (less H (ZO Wd B ad G O)) (less H (ZO Wd B ad (G.set i e) O)) := qt_of (by simp (disch := with_unfolding_all
  have ex : Ex (less H (ZO Wd B ad G O)) (less H (ZO Wd B ad (G.set i e) O)) := less_sub fun a q => Zs.set_of h.now q
  refine ⟨⟨S.S.set h.now ?_, fun a c k => (S.ob a c k).mono ex fun _ q => q, S.fr⟩, ex⟩
  cases e with
  | d x => exact ⟨v, rfl, h⟩
  | vl u => exact congrArg some h
  | rv ρ => exact ⟨v, rfl, h⟩
  | _ => exact h.elim
  ) only [↓qt_eq])
theorem wo_upd (h : O a ≠ none) : WO Wd (updO O a c) = WO Wd O := funext fun b => propext (by
  by_cases e : b = a
  · subst e
    exact ⟨fun _ => .inr h, fun _ => .inr (by rw [updO_same]; simp)⟩
  · show Wd b ∨ updO O a c b ≠ none ↔ _
    rw [updO_ne e])
theorem wo_new : WO Wd (updO O a c) = fun b => WO Wd O b ∨ b = a := funext fun b => propext (by
  by_cases e : b = a
  · subst e
    exact ⟨fun _ => .inr rfl, fun _ => .inr (by rw [updO_same]; simp)⟩
  · show Wd b ∨ updO O a c b ≠ none ↔ (Wd b ∨ O b ≠ none) ∨ b = a
    rw [updO_ne e]
    exact ⟨.inl, fun z => z.resolve_right e⟩)
/-- a thing of the store is changed -/
theorem StaO.chg (S : StaO K Wd B ad H0 H σ G O) {vs : List V} (h : O a ≠ none) (d : DpAll K (less H (ZO Wd B ad G O)) vs c'.flat) :
    StaO K Wd B ad H0 (upd H a (c'.obj a vs)) σ G (updO O a c') ∧ Ex (less H (ZO Wd B ad G O)) (less (upd H a (c'.obj a vs)) (ZO Wd B ad G (updO O a c'))) := qt_of (by simp (disch := with_unfolding_all
  obtain ⟨f1, f2, f3⟩ := S.fr a h
  obtain ⟨S2, e2⟩ := S.S.foreign (o := c'.obj a vs) (p := a) (.inr h) f1 f2
  have ex : Ex (less H (ZO Wd B ad G O)) (less (upd H a (c'.obj a vs)) (ZO Wd B ad G (updO O a c'))) := by
    unfold ZO
    rw [wo_upd h, e2]; exact Ex.refl _
  refine ⟨⟨by rw [wo_upd h]; exact S2, fun b c k => ?_, fun b k => ?_⟩, ex⟩
  · by_cases z : b = a
    · subst z
      rw [updO_same] at k
      cases k
      exact ⟨vs, upd_same, dpa_mono ex d⟩
    · rw [updO_ne z] at k
      exact (S.ob b c k).mono ex fun o q => by rw [upd_ne z]; exact q
  · by_cases z : b = a
    · subst z; exact ⟨f1, f2, f3⟩
    · rw [updO_ne z] at k; exact S.fr b k
  ) only [↓qt_eq])
/-- a new thing is put into the store -/
theorem StaO.new (S : StaO K Wd B ad H0 H σ G O) {vs : List V} (h : H a = none) (d : DpAll K (less H (ZO Wd B ad G O)) vs c.flat) :
    StaO K Wd B ad H0 (upd H a (c.obj a vs)) σ G (updO O a c) ∧ Ex (less H (ZO Wd B ad G O)) (less (upd H a (c.obj a vs)) (ZO Wd B ad G (updO O a c))) := qt_of (by simp (disch := with_unfolding_all
  obtain ⟨f1, f2, f3, f4⟩ := S.fresh h
  obtain ⟨S2, e2⟩ := S.S.lend (o := c.obj a vs) h
  have ex : Ex (less H (ZO Wd B ad G O)) (less (upd H a (c.obj a vs)) (ZO Wd B ad G (updO O a c))) := by
    unfold ZO
    rw [wo_new, e2]; exact Ex.refl _
  refine ⟨⟨by rw [wo_new]; exact S2, fun b c k => ?_, fun b k => ?_⟩, ex⟩
  · by_cases z : b = a
    · subst z
      rw [updO_same] at k
      cases k
      exact ⟨vs, upd_same, dpa_mono ex d⟩
    · rw [updO_ne z] at k
      exact (S.ob b c k).mono ex fun o q => by rw [upd_ne z]; exact q
  · by_cases z : b = a
    · subst z; exact ⟨f1, f2, fun z => f3 (.inl (.inl z))⟩
    · rw [updO_ne z] at k; exact S.fr b k
  ) only [↓qt_eq])
/-- things are let go -/
noncomputable def SubO (O O2 : Sto) : Prop := ∀ a, O2 a ≠ none → O2 a = O a
theorem SubO.wo (h : SubO O O2) : ∀ b, WO Wd O2 b → WO Wd O b := fun b z => z.elim .inl fun z => .inr (by rw [← h b z]; exact z)
theorem StaO.let_ (S : StaO K Wd B ad H0 H σ G O) (h : SubO O O2) : StaO K Wd B ad H0 H σ G O2 ∧ Ex (less H (ZO Wd B ad G O)) (less H (ZO Wd B ad G O2)) := by
  obtain ⟨S2, e2⟩ := S.S.subW h.wo
  exact ⟨⟨S2, fun b c k => (S.ob b c (by rw [← h b (by rw [k]; simp)]; exact k)).mono e2 fun _ q => q, fun b k => S.fr b (by rw [← h b k]; exact k)⟩, e2⟩
/-! ### what leaves the store as it is -/
theorem oe_w {φ : En → Sto → Prop} (h : EW K cs W te G (fun x => φ (.d x) O) (fun e => ε e O)) : EO K cs W te G O φ ε := fun Wd B ad H0 H σ S Q q x =>
  h (WO Wd O) B ad H0 H σ S.S Q (fun y p v H2 S2 xb d => q (.d y) O p v H2 (S.go S2 xb) (Xb.lz xb) d) (S.xp x)
theorem ot_w {ψ : Bool → Sto → Prop} (h : TW K cs W t G (fun b => ψ b O) (fun e => ε e O)) : TO K cs W t G O ψ ε := fun Wd B ad H0 H σ S Q q x =>
  h (WO Wd O) B ad H0 H σ S.S Q (fun y p H2 S2 xb => q y O p H2 (S.go S2 xb) (Xb.lz xb)) (S.xp x)
theorem oe_vl {i : Nat} {v : V} (h : G[i]? = some (.vl v)) (p : φ (.vl v) O) : EO K cs W (tVar i) G O φ ε := fun Wd B ad H0 H σ S Q q x => by
  obtain ⟨o, h1, h2⟩ := S.S.at_ i _ h
  have h2 : o = some v := h2
  subst h2
  exact ⟨v, h1, q _ _ p v H S (Ex.refl _) rfl⟩
noncomputable def Out.st (O : Sto) : Out → OutO
  | .nx G => .nx G O
  | .rt x => .rt (.d x) O
  | .rl c => .rl c O
  | .bk G => .bk G O
  | .ct G => .ct G O
  | .ex e G => .ex e G O
noncomputable abbrev OwnAd (ad : Nat → Addr) (G : Gam) (a : Addr) : Prop := ∃ i c, G[i]? = some (En.ow c) ∧ a = ad i
noncomputable abbrev Hown (H : Hp) (ad : Nat → Addr) (G : Gam) : Hp := less H (OwnAd ad G)
theorem hown_no (h : ¬ OwnAd ad G a) : Hown H ad G a = H a := less_no h
theorem StaO.base0 (S : StaO K Wd B ad H0 H σ G O) : Sta K (WO Wd O) B ad (Hown H ad G) H σ G :=
  ⟨S.S.len, S.S.at_, S.S.inj, fun i c g => ⟨less_yes ⟨i, c, g, rfl⟩, (S.S.sep i c g).2⟩, fun a o h _ => (less_some h).2, S.S.bag, S.S.wd, S.S.tab⟩
theorem StaO.none0 (S : StaO K Wd B ad H0 H σ G O) (h : Hown H ad G a = none) (nb : ¬ InB B a) : H0 a = none := qt_of (by simp (disch := with_unfolding_all
  cases e : H0 a with
  | none => rfl
  | some o =>
    have h1 := S.S.base a o e nb
    by_cases z : OwnAd ad G a
    · obtain ⟨i, c, g, rfl⟩ := z
      rw [(S.S.sep i c g).1] at e; cases e
    · rw [hown_no z, h1] at h; cases h
  ) only [↓qt_eq])
theorem StaO.stay0 (S : StaO K Wd B ad H0 H σ G O) {o : HO} (h : H0 a = some o) (nb : ¬ InB B a) : Hown H ad G a = some o :=
  less_of (fun ⟨i, c, g, e⟩ => by subst e; rw [(S.S.sep i c g).1] at h; cases h) (S.S.base a o h nb)
theorem StaO.at0 (S : StaO K Wd B ad H0 H σ G O) {o : HO} (h : O a ≠ none) (q : H a = some o) : Hown H ad G a = some o :=
  less_of (fun ⟨i, c, g, e⟩ => by subst e; exact (S.S.sep i c g).2.2 (.inr h)) q
/-- .. and back -/
theorem StaO.of0 (S : StaO K Wd B ad H0 H σ G O) {ad' : Nat → Addr} {σ' : St} (S' : Sta K (WO Wd O) B ad' (Hown H ad G) H2 σ' G') (ex : Ex (less H (ZO Wd B ad G O)) (less H2 (ZO Wd B ad' G' O))) : StaO K Wd B ad' H0 H2 σ' G' O := qt_of (by simp (disch := with_unfolding_all
  refine ⟨⟨S'.len, S'.at_, S'.inj, fun i c g => ?_, fun a o h n => S'.base a o (S.stay0 h n) n, S'.bag, S'.wd, S'.tab⟩, fun a c k => ?_, S.fr⟩
  · obtain ⟨s1, s2, s3⟩ := S'.sep i c g
    exact ⟨S.none0 s1 s2, s2, s3⟩
  · have ho : O a ≠ none := by rw [k]; simp
    exact (S.ob a c k).mono ex fun o q => S'.base a o (S.at0 ho q) (S.fr a ho).2.1
  ) only [↓qt_eq])
theorem StaO.end0 (S : StaO K Wd B ad H0 H σ G O) (x : Xb B (Hown H ad G) H2) : Ex (less H (ZO Wd B ad G O)) (less H2 fun a => WO Wd O a ∨ InB B a) := fun a o q => by
  obtain ⟨q1, q2⟩ := less_some q
  have nb : ¬ InB B a := fun z => q1 (.inr (.inr z))
  refine less_of (fun z => z.elim (fun z => q1 (.inl z)) nb) (x a o (less_of (fun ⟨i, c, g, e⟩ => q1 (.inr (.inl ⟨i, c, g, e⟩))) q2) nb)
theorem StaO.ends (S : StaO K Wd B ad H0 H σ G O) (x : Xb B (Hown H ad G) H2) (b : BagOk H2 B) (t : ∀ p ∈ B.T, TabZ H2 (fun a => WO Wd O a ∨ InB B a) p) : EndO K Wd B H0 H2 O :=
  ⟨fun a o h n => x a o (S.stay0 h n) n, b, t, fun a c k => by
    have ho : O a ≠ none := by rw [k]; simp
    exact (S.ob a c k).mono (S.end0 x) fun o q => x a o (S.at0 ho q) (S.fr a ho).2.1, S.fr⟩
theorem os_w (h : SW K cs W tu G (fun o => Φ (o.st O))) : SO K cs W tu G O Φ := fun Wd B ad H0 H σ D S q =>
  h (WO Wd O) B ad _ H σ D S.base0 fun o p => by
    have q := q _ p
    cases o with
    | nx G' => exact fun ad' H' σ' S' e => q ad' H' σ' (S.of0 S' e) e
    | bk G' => exact fun ad' H' σ' S' e => q ad' H' σ' (S.of0 S' e) e
    | ct G' => exact fun ad' H' σ' S' e => q ad' H' σ' (S.of0 S' e) e
    | rt x => exact fun v H' x b t d => q v H' (S.ends x b t) d
    | rl c =>
      intro a vs H' x b t hn ho d
      have hh : (fun b => WO Wd (updO O a c) b ∨ InB B b) = fun b => (WO Wd O b ∨ InB B b) ∨ b = a := funext fun b => propext (by
        rw [wo_new]
        constructor
        · rintro ((z | z) | z)
          · exact .inl (.inl z)
          · exact .inr z
          · exact .inl (.inr z)
        · rintro ((z | z) | z)
          · exact .inl (.inl z)
          · exact .inr z
          · exact .inl (.inr z))
      have oa : O a = none := by
        cases e : O a with
        | none => rfl
        | some c2 =>
          obtain ⟨us, g1, _⟩ := S.ob a c2 e
          rw [S.at0 (by rw [e]; simp) g1] at hn; cases hn
      have nb : ¬ InB B a := fun z => by
        obtain ⟨o, g⟩ := S.S.bag.there z
        have : ¬ OwnAd ad G a := fun ⟨i, c, g, e⟩ => by rw [e] at z; exact (S.S.sep i c g).2.1 z
        rw [hown_no this, g] at hn; cases hn
      have nw : ¬ Wd a := fun z => by
        obtain ⟨o, g⟩ := S.S.wd a (.inl z)
        have : ¬ OwnAd ad G a := fun ⟨i, c, g, e⟩ => by rw [e] at z; exact (S.S.sep i c g).2.2 (.inl z)
        rw [hown_no this, g] at hn; cases hn
      refine q a H' oa ⟨fun a o h n => x a o (S.stay0 h n) n, b, fun p hp => by rw [hh]; exact t p hp, fun b' c' k => ?_, fun b' k => ?_⟩
      · rw [hh]
        by_cases z : b' = a
        · subst z
          rw [updO_same] at k
          cases k
          exact ⟨vs, ho, d⟩
        · rw [updO_ne z] at k
          have ho' : O b' ≠ none := by rw [k]; simp
          refine (S.ob b' c' k).mono (fun a2 o q => ?_) fun o q => x b' o (S.at0 ho' q) (S.fr b' ho').2.1
          obtain ⟨q1, q2⟩ := less_some (S.end0 x a2 o q)
          refine less_of (fun z => z.elim q1 fun z => ?_) q2
          subst z
          obtain ⟨r1, r2⟩ := less_some q
          have n2 : ¬ OwnAd ad G a2 := fun ⟨i, c, g, e⟩ => r1 (.inr (.inl ⟨i, c, g, e⟩))
          rw [hown_no n2, r2] at hn
          cases hn
      · by_cases z : b' = a
        · subst z
          exact ⟨S.none0 hn nb, nb, nw⟩
        · rw [updO_ne z] at k; exact S.fr b' k
    | ex e G' => exact fun d ad' H' σ' S' e hn hx => q d ad' H' σ' (S.of0 S' e) e (S.none0 hn fun z => (less_some hx).1 (.inr (.inr z))) hx
/-! ### statements -/
theorem PostOO.mono {M M' : Hp} {D : Ends} {o : OutO} (e : Ex M M') (h : PostOO K cs W Wd B H0 M D o) : PostOO K cs W Wd B H0 M' D o := qt_of (by simp (disch := with_unfolding_all
  cases o with
  | nx G O => exact fun ad H σ S x => h ad H σ S (e.trans x)
  | rt x O => exact h
  | rl c O => exact h
  | bk G O => exact fun ad H σ S x => h ad H σ S (e.trans x)
  | ct G O => exact fun ad H σ S x => h ad H σ S (e.trans x)
  | ex e' G O => exact fun d ad H σ S x => h d ad H σ S (e.trans x)
  ) only [↓qt_eq])
theorem os_mono (h : SO K cs W tu G O Φ) (m : ∀ o, Φ o → Ψ o) : SO K cs W tu G O Ψ := fun Wd B ad H0 H σ D S q => h Wd B ad H0 H σ D S fun o p => q o (m o p)
theorem oe_mono {φ' : En → Sto → Prop} (h : EO K cs W te G O φ ε) (m : ∀ x O, φ x O → φ' x O) : EO K cs W te G O φ' ε := fun Wd B ad H0 H σ S Q q x => h Wd B ad H0 H σ S Q (fun y O hy => q y O (m y O hy)) x
theorem post_xpo {D : Ends} (q : ∀ o, Φ o → PostOO K cs W Wd B H0 M D o) : XPO K cs W Wd B ad H0 M σ G (fun e O => Φ (.ex e G O)) := fun e O he d H2 S x hd hx => q _ he d ad H2 σ S x hd hx
noncomputable def sqo (K : Fg) (cs : Cs) (W : WX) (tz : TS) (Φ : OutO → Prop) : OutO → Prop
  | .nx G O => SO K cs W tz G O Φ
  | .rt x O => Φ (.rt x O)
  | .rl c O => Φ (.rl c O)
  | .bk G O => Φ (.bk G O)
  | .ct G O => Φ (.ct G O)
  | .ex e G O => Φ (.ex e G O)
theorem os_seq (h : SO K cs W tu G O (sqo K cs W tz Φ)) : SO K cs W (tSeq tu tz) G O Φ := fun Wd B ad H0 H σ D S q =>
  h Wd B ad H0 H σ { D with nx := tz D } S fun o p => by
    cases o with
    | nx G1 O1 => exact fun ad' H' σ' S' e => p Wd B ad' H0 H' σ' D S' fun o p => (q o p).mono e
    | rt x O => exact q _ p
    | rl c O => exact q _ p
    | bk G O => exact q _ p
    | ct G O => exact q _ p
    | ex e G O => exact q _ p
theorem os_next (h : Φ (.nx G O)) : SO K cs W tNext G O Φ := fun Wd B ad H0 H σ D S q => q _ h ad H σ S (Ex.refl _)
theorem os_asg {i : Nat} (h : EO K cs W te G O (fun e O1 => Φ (.nx (G.set i e) O1)) (fun e O1 => Φ (.ex e G O1))) : SO K cs W (tAsg te (gName i)) G O Φ := fun Wd B ad H0 H σ D S q =>
  h Wd B ad H0 H σ S _ (fun e O1 p v H1 S1 x1 d => by
    obtain ⟨S2, e2⟩ := S1.set (i := i) d
    exact q _ p ad H1 _ S2 (x1.trans e2)) (post_xpo q)
theorem os_drop (h : EO K cs W te G O (fun _ O1 => Φ (.nx G O1)) (fun e O1 => Φ (.ex e G O1))) : SO K cs W (tDrop te) G O Φ := fun Wd B ad H0 H σ D S q =>
  h Wd B ad H0 H σ S _ (fun e O1 p v H1 S1 x1 d => q _ p ad H1 _ S1 x1) (post_xpo q)
theorem os_if (h : TO K cs W t G O (fun b O1 => Cnd b (SO K cs W tu G O1 Φ) (SO K cs W tw G O1 Φ)) (fun e O1 => Φ (.ex e G O1))) : SO K cs W (tIfS t tu tw) G O Φ := fun Wd B ad H0 H σ D S q =>
  h Wd B ad H0 H σ S _ (fun b O1 p H1 S1 x1 => by
    cases b with
    | true => exact iteT (p.1 rfl Wd B ad H0 H1 σ D S1 fun o p => (q o p).mono x1)
    | false => exact iteF (p.2 rfl Wd B ad H0 H1 σ D S1 fun o p => (q o p).mono x1)) (post_xpo q)
/-- the frame's end -/
theorem StaO.fin (S : StaO K Wd B ad H0 H σ G O) : EndO K Wd B H0 H O ∧ Ex (less H (ZO Wd B ad G O)) (less H fun a => WO Wd O a ∨ InB B a) := qt_of (by simp (disch := with_unfolding_all
  have ex : Ex (less H (ZO Wd B ad G O)) (less H fun a => WO Wd O a ∨ InB B a) := less_sub fun a z => z.elim .inl fun z => .inr (.inr z)
  exact ⟨⟨S.S.base, S.S.bag, fun p hp => (S.S.tab p hp).mono ex rfl, fun a c k => (S.ob a c k).mono ex fun _ q => q, S.fr⟩, ex⟩
  ) only [↓qt_eq])
theorem EndO.let_ {E : Hp} (S : EndO K Wd B H0 H O) (h : SubO O O2) : EndO K Wd B H0 H O2 ∧ Ex (less H fun a => WO Wd O a ∨ InB B a) (less H fun a => WO Wd O2 a ∨ InB B a) := qt_of (by simp (disch := with_unfolding_all
  have ex : Ex (less H fun a => WO Wd O a ∨ InB B a) (less H fun a => WO Wd O2 a ∨ InB B a) := less_sub fun a z => z.elim (fun z => .inl (h.wo a z)) .inr
  exact ⟨⟨S.x, S.bag, fun p hp => (S.tab p hp).mono ex rfl, fun a c k => (S.ob a c (by rw [← h a (by rw [k]; simp)]; exact k)).mono ex fun _ q => q, fun a k => S.fr a (by rw [← h a k]; exact k)⟩, ex⟩
  ) only [↓qt_eq])
theorem os_ret (h : EO K cs W te G O (fun e O1 => Φ (.rt e O1)) (fun e O1 => Φ (.ex e G O1))) : SO K cs W (tRet te) G O Φ := fun Wd B ad H0 H σ D S q =>
  h Wd B ad H0 H σ S _ (fun e O1 p v H1 S1 x1 d => by
    obtain ⟨f, ex⟩ := S1.fin
    exact q _ p v H1 f (d.mono ex)) (post_xpo q)
/-! ### arguments, tests -/
theorem oa_nil (p : α [] O) : AO K cs W tNil G O α ε := fun Wd B ad H0 H σ S Q q _ => q _ _ p _ H S (Ex.refl _) .nil
theorem oa_cons {tr : TA} (h : EO K cs W te G O (fun e O1 => AO K cs W tr G O1 (fun es O2 => α (e :: es) O2) ε) ε) : AO K cs W (tCons te tr) G O α ε := fun Wd B ad H0 H σ S Q q x =>
  h Wd B ad H0 H σ S _ (fun e O1 p v H1 S1 x1 d => p Wd B ad H0 H1 σ S1 _ (fun es O2 p2 vs H2 S2 x2 d2 => q _ _ p2 _ H2 S2 (x1.trans x2) (.cons (d.mono x2) d2)) (x.go x1)) x
theorem ot_test (h : EO K cs W te G O (fun e O1 => ∃ b, e = .d (.bool b) ∧ ψ b O1) ε) : TO K cs W (tTest te) G O ψ ε := fun Wd B ad H0 H σ S Q q x =>
  h Wd B ad H0 H σ S _ (fun e O1 ⟨b, z, p⟩ v H1 S1 x1 d => by
    subst z
    cases d
    exact ⟨b, rfl, q _ _ p H1 S1 x1⟩) x
theorem ot_and (h : TO K cs W t G O (fun b O1 => Cnd b (TO K cs W u G O1 ψ ε) (ψ false O1)) ε) : TO K cs W (tAnd t u) G O ψ ε := fun Wd B ad H0 H σ S Q q x => h Wd B ad H0 H σ S _ (fun b O1 p H1 S1 e1 => by
  cases b with
  | true => exact iteT (p.1 rfl Wd B ad H0 H1 σ S1 _ (fun b O2 p H2 S2 e2 => q b O2 p H2 S2 (e1.trans e2)) (x.go e1))
  | false => exact iteF (q _ _ (p.2 rfl) H1 S1 e1)) x
theorem ot_or (h : TO K cs W t G O (fun b O1 => Cnd b (ψ true O1) (TO K cs W u G O1 ψ ε)) ε) : TO K cs W (tOr t u) G O ψ ε := fun Wd B ad H0 H σ S Q q x => h Wd B ad H0 H σ S _ (fun b O1 p H1 S1 e1 => by
  cases b with
  | false => exact iteF (p.2 rfl Wd B ad H0 H1 σ S1 _ (fun b O2 p H2 S2 e2 => q b O2 p H2 S2 (e1.trans e2)) (x.go e1))
  | true => exact iteT (q _ _ (p.1 rfl) H1 S1 e1)) x
theorem oe_if (h : TO K cs W t G O (fun b O1 => Cnd b (EO K cs W ta G O1 φ ε) (EO K cs W tb G O1 φ ε)) ε) : EO K cs W (tIf t ta tb) G O φ ε := fun Wd B ad H0 H σ S Q q x => h Wd B ad H0 H σ S _ (fun b O1 p H1 S1 e1 => by
  cases b with
  | true => exact iteT (p.1 rfl Wd B ad H0 H1 σ S1 _ (fun b O2 p v H2 S2 e2 d2 => q b O2 p v H2 S2 (e1.trans e2) d2) (x.go e1))
  | false => exact iteF (p.2 rfl Wd B ad H0 H1 σ S1 _ (fun b O2 p v H2 S2 e2 d2 => q b O2 p v H2 S2 (e1.trans e2) d2) (x.go e1))) x
/-! ### operators: what stands in two slots more -/
theorem StaO.push (S : Sta K Wd B ad H0 H σ G) {vs : List V} {xs : List PyData} (d : DpAll K (less H (Zs Wd B ad G)) vs xs) : Sta K Wd B ad H0 H (σ ++ vs.map some) (G ++ xs.map .d) ∧ Zs Wd B ad (G ++ xs.map .d) = Zs Wd B ad G := qt_of (by simp (disch := with_unfolding_all
  have no : ∀ {i c}, (G ++ xs.map En.d)[i]? = some (En.ow c) → G[i]? = some (En.ow c) := fun {i c} h => by
    by_cases hi : i < G.length
    · rw [List.getElem?_append_left hi] at h; exact h
    · rw [List.getElem?_append_right (by omega)] at h
      obtain ⟨x, _, e⟩ := List.mem_map.mp (List.mem_of_getElem? h)
      cases e
  have yes : ∀ {i e}, G[i]? = some e → (G ++ xs.map En.d)[i]? = some e := fun {i e} h => by
    rw [List.getElem?_append_left (List.getElem?_eq_some_iff.mp h).1]; exact h
  have ez : Zs Wd B ad (G ++ xs.map .d) = Zs Wd B ad G := funext fun a => propext (by
    constructor
    · rintro (z | ⟨i, c, g, e⟩ | z)
      · exact .inl z
      · exact .inr (.inl ⟨i, c, no g, e⟩)
      · exact .inr (.inr z)
    · rintro (z | ⟨i, c, g, e⟩ | z)
      · exact .inl z
      · exact .inr (.inl ⟨i, c, yes g, e⟩)
      · exact .inr (.inr z))
  refine ⟨⟨by rw [List.length_append, List.length_append, List.length_map, List.length_map, S.len, dpa_len d], fun i e h => ?_, fun i j c c' g g' => S.inj i j c c' (no g) (no g'), fun i c g => S.sep i c (no g), S.base, S.bag, S.wd, by rw [ez]; exact S.tab⟩, ez⟩
  rw [ez]
  by_cases hi : i < G.length
  · rw [List.getElem?_append_left hi] at h
    obtain ⟨o, h1, h2⟩ := S.at_ i e h
    exact ⟨o, by rw [List.getElem?_append_left (by rw [S.len]; exact hi)]; exact h1, h2⟩
  · rw [List.getElem?_append_right (by omega), List.getElem?_map] at h
    cases hx : xs[i - G.length]? with
    | none => rw [hx] at h; cases h
    | some x =>
      rw [hx] at h
      cases h
      obtain ⟨v, hv, dv⟩ := dpa_get d hx
      exact ⟨some v, by rw [List.getElem?_append_right (by rw [S.len]; omega), S.len, List.getElem?_map, hv]; rfl, v, rfl, dv⟩
  ) only [↓qt_eq])
theorem oe_op {r : R2} (h : EO K cs W ta G O (fun e O1 => ∃ x, e = .d x ∧ EO K cs W tb G O1 (fun f O2 => ∃ y, f = .d y ∧ EW K cs W0 (tOp r (tVar G.length) (tVar (G.length + 1))) (G ++ [.d x, .d y]) (fun z => φ (.d z) O2) noX) ε) ε) : EO K cs W (tOp r ta tb) G O φ ε := fun Wd B ad H0 H σ S Q q x =>
  h Wd B ad H0 H σ S _ (fun e O1 ⟨y, z, p⟩ v H1 S1 x1 d1 => by
    subst z
    refine p Wd B ad H0 H1 σ S1 _ (fun f O2 ⟨y2, z2, p2⟩ w H2 S2 x2 d2 => ?_) (x.go x1)
    subst z2
    have d1 : Dp K _ v y := d1
    have d2 : Dp K _ w y2 := d2
    have dd : DpAll K (less H2 (ZO Wd B ad G O2)) [v, w] [y, y2] := .cons (dp_mono x2 d1) (.cons d2 .nil)
    obtain ⟨S3, ez⟩ := StaO.push S2.S dd
    have k := p2 (WO Wd O2) B ad H0 H2 _ S3 Q (fun y3 p v H3 S4 xb d => by
      have ez : Zs (WO Wd O2) B ad (G ++ [En.d y, En.d y2]) = Zs (WO Wd O2) B ad G := ez
      rw [ez] at d
      have S5 : Sta K (WO Wd O2) B ad H0 H3 σ G := by
        refine ⟨S2.S.len, fun i e h => ?_, S2.S.inj, S2.S.sep, S4.base, S4.bag, S4.wd, by rw [← ez]; exact S4.tab⟩
        have hi := (List.getElem?_eq_some_iff.mp h).1
        obtain ⟨o, g1, g2⟩ := S4.at_ i e (by rw [List.getElem?_append_left hi]; exact h)
        rw [List.getElem?_append_left (by rw [S2.S.len]; exact hi)] at g1
        exact ⟨o, g1, by rw [← ez]; exact g2⟩
      exact q _ _ p v H3 (S2.go S5 xb) ((x1.trans x2).trans (Xb.lz xb)) d) xp_no
    obtain ⟨v', g1, w', g2, k⟩ := k
    have e1 : (σ ++ [v, w].map some)[G.length]? = some (some v) := by rw [← S2.S.len, List.getElem?_append_right (Nat.le_refl _), Nat.sub_self]; rfl
    have e2 : (σ ++ [v, w].map some)[G.length + 1]? = some (some w) := by rw [← S2.S.len, List.getElem?_append_right (Nat.le_succ _), show σ.length + 1 - σ.length = 1 by omega]; rfl
    rw [e1] at g1
    rw [e2] at g2
    cases g1
    cases g2
    exact k) x
end
end U.N

end
section
/-! The third layer: instances, their fields and methods; defs that change what is in the store. -/
namespace U.N
open PySem PyProof.Rows L2 Evl
/-! ### instances -/
inductive Fv where
  | d (x : PyData)
  | v (w : V)
noncomputable def Fv.en : Fv → En
  | .d x => .d x
  | .v w => .vl w
noncomputable abbrev Fs := List (Str × Fv)
noncomputable def fsD : Fs → List PyData
  | [] => []
  | (_, .d x) :: r => x :: fsD r
  | (_, .v _) :: r => fsD r
noncomputable def fill : Fs → List V → List (Str × V)
  | [], _ => []
  | (n, .v w) :: r, vs => (n, w) :: fill r vs
  | (n, .d _) :: r, v :: vs => (n, v) :: fill r vs
  | (_, .d _) :: _, [] => []
/-- an instance -/
noncomputable def ins (C dx : Addr) (fs : Fs) : Own := ⟨fsD fs, fun _ vs => .ins C dx (fill fs vs)⟩
noncomputable def putFs (n : Str) (f : Fv) : Fs → Fs
  | [] => [(n, f)]
  | (k, g) :: r => if k = n then (k, f) :: r else (k, g) :: putFs n f r
section
variable {K : Fg} {M : Hp}
theorem fill_look : ∀ {fs : Fs} {vs : List V}, DpAll K M vs (fsD fs) → ∀ {n : Str} {f : Fv}, fs.lookup n = some f → ∃ v, (fill fs vs).lookup n = some v ∧ VaOk K M v f.en
  | [], _, _, n, f, e => by cases e
  | (k, .v w) :: r, vs, h, n, f, e => by
    rw [List.lookup_cons] at e
    show ∃ v, List.lookup n ((k, w) :: fill r vs) = some v ∧ _
    rw [List.lookup_cons]
    cases z : (n == k) with
    | true => rw [z] at e; cases e; exact ⟨w, rfl, rfl⟩
    | false => rw [z] at e; exact fill_look (fs := r) h e
  | (k, .d x) :: r, _, h, n, f, e => by
    cases h with
    | cons a t =>
      rename_i v vs
      rw [List.lookup_cons] at e
      show ∃ u, List.lookup n ((k, v) :: fill r vs) = some u ∧ _
      rw [List.lookup_cons]
      cases z : (n == k) with
      | true => rw [z] at e; cases e; exact ⟨v, rfl, a⟩
      | false => rw [z] at e; exact fill_look t e
theorem fill_none : ∀ {fs : Fs} {vs : List V}, DpAll K M vs (fsD fs) → ∀ {n : Str}, fs.lookup n = none → (fill fs vs).lookup n = none
  | [], _, _, n, e => rfl
  | (k, .v w) :: r, vs, h, n, e => by
    rw [List.lookup_cons] at e
    show List.lookup n ((k, w) :: fill r vs) = none
    rw [List.lookup_cons]
    cases z : (n == k) with
    | true => rw [z] at e; cases e
    | false => rw [z] at e; exact fill_none (fs := r) h e
  | (k, .d x) :: r, _, h, n, e => by
    cases h with
    | cons a t =>
      rename_i v vs
      rw [List.lookup_cons] at e
      show List.lookup n ((k, v) :: fill r vs) = none
      rw [List.lookup_cons]
      cases z : (n == k) with
      | true => rw [z] at e; cases e
      | false => rw [z] at e; exact fill_none t e
theorem fill_len : ∀ {fs : Fs} {vs : List V}, DpAll K M vs (fsD fs) → (fill fs vs).length = fs.length
  | [], _, _ => rfl
  | (k, .v w) :: r, vs, h => congrArg (· + 1) (fill_len (fs := r) h)
  | (k, .d x) :: r, _, .cons a t => congrArg (· + 1) (fill_len t)
theorem fill_put : ∀ {fs : Fs} {vs : List V}, DpAll K M vs (fsD fs) → ∀ {n : Str} {f : Fv} {v : V}, VaOk K M v f.en → ∃ us, DpAll K M us (fsD (putFs n f fs)) ∧ L2.putF n v (fill fs vs) = fill (putFs n f fs) us
  | [], _, h, n, f, v, hv => by
    cases f with
    | d x => exact ⟨[v], .cons hv .nil, rfl⟩
    | v w => cases hv; exact ⟨[], .nil, rfl⟩
  | (k, .v w) :: r, vs, h, n, f, v, hv => by
    have h : DpAll K M vs (fsD r) := h
    show ∃ us, _ ∧ L2.putF n v ((k, w) :: fill r vs) = _
    by_cases e : k = n
    · subst e
      have e1 : putFs k f ((k, .v w) :: r) = (k, f) :: r := if_pos rfl
      rw [e1]
      have e2 : L2.putF k v ((k, w) :: fill r vs) = (k, v) :: fill r vs := by simp [L2.putF]
      rw [e2]
      cases f with
      | d x => exact ⟨v :: vs, .cons hv h, rfl⟩
      | v u => cases hv; exact ⟨vs, h, rfl⟩
    · have e1 : putFs n f ((k, .v w) :: r) = (k, .v w) :: putFs n f r := if_neg e
      rw [e1]
      have e2 : L2.putF n v ((k, w) :: fill r vs) = (k, w) :: L2.putF n v (fill r vs) := by simp [L2.putF, e]
      rw [e2]
      obtain ⟨us, h1, h2⟩ := fill_put h (n := n) hv
      exact ⟨us, h1, by rw [h2]; rfl⟩
  | (k, .d x) :: r, _, h, n, f, v, hv => by
    cases h with
    | cons a t =>
      rename_i u vs
      show ∃ us, _ ∧ L2.putF n v ((k, u) :: fill r vs) = _
      by_cases e : k = n
      · subst e
        have e1 : putFs k f ((k, .d x) :: r) = (k, f) :: r := if_pos rfl
        rw [e1]
        have e2 : L2.putF k v ((k, u) :: fill r vs) = (k, v) :: fill r vs := by simp [L2.putF]
        rw [e2]
        cases f with
        | d y => exact ⟨v :: vs, .cons hv t, rfl⟩
        | v w => cases hv; exact ⟨vs, t, rfl⟩
      · have e1 : putFs n f ((k, .d x) :: r) = (k, .d x) :: putFs n f r := if_neg e
        rw [e1]
        have e2 : L2.putF n v ((k, u) :: fill r vs) = (k, u) :: L2.putF n v (fill r vs) := by simp [L2.putF, e]
        rw [e2]
        obtain ⟨us, h1, h2⟩ := fill_put t (n := n) hv
        exact ⟨u :: us, .cons a h1, by rw [h2]; rfl⟩
end
/-! ### promises -/
inductive RsO where
  | ok (e : En) (O : Sto)
  | fl (c : Own) (O : Sto)
  | er (e : Xw) (O : Sto)
noncomputable abbrev PrO := List En → Sto → (RsO → Prop) → Prop
structure FinO (K : Fg) (Wd : Addr → Prop) (O : Sto) (H : Hp) (O2 : Sto) (H2 : Hp) : Prop where
  x : ∀ a o, H a = some o → O a = none → H2 a = some o
  ob : ∀ a c, O2 a = some c → ObjAt K (less H2 (WO Wd O2)) H2 a c
  fr : ∀ a, O2 a ≠ none → (O a ≠ none ∨ H a = none) ∧ ¬ Wd a
structure BegO (K : Fg) (Wd : Addr → Prop) (O : Sto) (H : Hp) : Prop where
  wd : ∀ a, WO Wd O a → ∃ o, H a = some o
  ob : ∀ a c, O a = some c → ObjAt K (less H (WO Wd O)) H a c
  nw : ∀ a, O a ≠ none → ¬ Wd a
noncomputable def okRsO (K : Fg) (Wd : Addr → Prop) (O : Sto) (H : Hp) (Q : VK) (A : RsO → Prop) : Prop :=
  (∀ e O2, A (.ok e O2) → ∀ v H2, FinO K Wd O H O2 H2 → VaOk K (less H2 (WO Wd O2)) v e → Q v H2) ∧
  (∀ c O2, A (.fl c O2) → ∀ a H2, O2 a = none → FinO K Wd O H (updO O2 a c) H2 → Q (.ref a) H2)
/-- a def that never raises -/
noncomputable def spO0 (K : Fg) (P : PrO) : Sp := fun vs H Q _ => ∃ (Wd : Addr → Prop) (O : Sto) (es : List En) (A : RsO → Prop), BegO K Wd O H ∧ VaAll K (less H (WO Wd O)) vs es ∧ P es O A ∧ okRsO K Wd O H Q A
/-- a def that may raise -/
noncomputable def spO (K : Fg) (cs : Cs) (P : PrO) : Sp := fun vs H Q E => ∃ (Wd : Addr → Prop) (O : Sto) (es : List En) (A : RsO → Prop), BegO K Wd O H ∧ VaAll K (less H (WO Wd O)) vs es ∧ P es O A ∧ okRsO K Wd O H Q A ∧
  ∀ e O2, A (.er e O2) → ∀ d H2, FinO K Wd O H O2 H2 → (H d = none ∨ O d ≠ none) → less H2 (WO Wd O2) d = some (.xd e.fs) → E (.ref (cs e.cls)) (some d) H2
section
variable {K : Fg} {cs : Cs} {W : WX} {G G' : Gam} {O O1 O2 : Sto} {te tf ta tb : TE} {t : TT} {tu tz : TS} {tA : TA} {φ : En → Sto → Prop} {ε : Xw → Sto → Prop} {α : List En → Sto → Prop} {Φ : OutO → Prop}
variable {Wd : Addr → Prop} {B : Bt} {ad : Nat → Addr} {H0 H H1 H2 : Hp} {σ : St} {c : Own} {a : Addr} {P : PrO}
/-- what a callee is not told of -/
noncomputable def Wc (Wd : Addr → Prop) (B : Bt) (ad : Nat → Addr) (G : Gam) (a : Addr) : Prop := Wd a ∨ OwnAd ad G a ∨ InB B a
theorem wc_zo : WO (Wc Wd B ad G) O = ZO Wd B ad G O := funext fun a => propext (by
  constructor
  · rintro ((z | z | z) | z)
    · exact .inl (.inl z)
    · exact .inr (.inl z)
    · exact .inr (.inr z)
    · exact .inl (.inr z)
  · rintro ((z | z) | z | z)
    · exact .inl (.inl z)
    · exact .inr z
    · exact .inl (.inr (.inl z))
    · exact .inl (.inr (.inr z)))
theorem StaO.nwc (S : StaO K Wd B ad H0 H σ G O) (h : O a ≠ none) : ¬ Wc Wd B ad G a := by
  rintro (z | ⟨i, c, g, e⟩ | z)
  · exact (S.fr a h).2.2 z
  · subst e; exact (S.S.sep i c g).2.2 (.inr h)
  · exact (S.fr a h).2.1 z
theorem StaO.beg (S : StaO K Wd B ad H0 H σ G O) : BegO K (Wc Wd B ad G) O H :=
  ⟨fun a z => S.S.there a (by rw [wc_zo] at z; exact z), fun a c k => by rw [wc_zo]; exact S.ob a c k, fun a h => S.nwc h⟩
/-- behind a call -/
theorem StaO.called (S : StaO K Wd B ad H0 H σ G O) (f : FinO K (Wc Wd B ad G) O H O2 H2) : StaO K Wd B ad H0 H2 σ G O2 ∧ Ex (less H (ZO Wd B ad G O)) (less H2 (ZO Wd B ad G O2)) := qt_of (by simp (disch := with_unfolding_all
  have no : ∀ {a o}, H a = some o → ¬ ZO Wd B ad G O a → ¬ ZO Wd B ad G O2 a := fun {a o} h n z => by
    rcases z with (z | z) | z | z
    · exact n (.inl (.inl z))
    · rcases (f.fr a z).1 with q | q
      · exact n (.inl (.inr q))
      · rw [q] at h; cases h
    · exact n (.inr (.inl z))
    · exact n (.inr (.inr z))
  have ex : Ex (less H (ZO Wd B ad G O)) (less H2 (ZO Wd B ad G O2)) := fun a o q => by
    obtain ⟨q1, q2⟩ := less_some q
    refine less_of (no q2 q1) (f.x a o q2 ?_)
    cases e : O a with
    | none => rfl
    | some c => exact absurd (Or.inl (Or.inr (by rw [e]; simp))) q1
  have on : ∀ {a}, ¬ WO Wd O a → O a = none := fun {a} h => by
    cases e : O a with
    | none => rfl
    | some c => exact absurd (Or.inr (by rw [e]; simp)) h
  have ib : ∀ a, InB B a → H2 a = H a := fun a z => by
    obtain ⟨o, h⟩ := S.S.bag.there z
    rw [h]
    refine f.x a o h ?_
    cases e : O a with
    | none => rfl
    | some c => exact absurd z (S.fr a (by rw [e]; simp)).2.1
  refine ⟨⟨⟨S.S.len, fun i e h => ?_, S.S.inj, fun i c g => ?_, fun a o h n => ?_, S.S.bag.xb ib, fun a z => ?_, fun p hp => (S.S.tab p hp).mono ex (ib _ (InB.tab hp))⟩, fun a c k => by have := f.ob a c k; rw [wc_zo] at this; exact this, fun a k => ?_⟩, ex⟩
  · obtain ⟨o, h1, h2⟩ := S.S.at_ i e h
    refine ⟨o, h1, h2.mono ex fun c u q q2 => ?_⟩
    subst q
    exact f.x _ _ q2 (on (S.S.sep i c h).2.2)
  · obtain ⟨s1, s2, s3⟩ := S.S.sep i c g
    refine ⟨s1, s2, ?_⟩
    rintro (z | z)
    · exact s3 (.inl z)
    · exact (f.fr _ z).2 (.inr (.inl ⟨i, c, g, rfl⟩))
  · refine f.x a o (S.S.base a o h n) ?_
    cases e : O a with
    | none => rfl
    | some c => rw [(S.fr a (by rw [e]; simp)).1] at h; cases h
  · rcases z with z | z
    · obtain ⟨o, h⟩ := S.S.wd a (.inl z)
      refine ⟨o, f.x a o h ?_⟩
      cases e : O a with
      | none => rfl
      | some c => exact absurd z (S.fr a (by rw [e]; simp)).2.2
    · cases e : O2 a with
      | none => exact absurd e z
      | some c => obtain ⟨vs, h, _⟩ := f.ob a c e; exact ⟨_, h⟩
  · obtain ⟨k1, k2⟩ := f.fr a k
    refine ⟨?_, fun z => k2 (.inr (.inr z)), fun z => k2 (.inl z)⟩
    rcases k1 with k1 | k1
    · exact (S.fr a k1).1
    · exact (S.S.fresh k1).1
  ) only [↓qt_eq])
theorem StaO.dn (S : StaO K Wd B ad H0 H σ G O) (h : H a = none ∨ O a ≠ none) : H0 a = none := h.elim (fun h => (S.S.fresh h).1) fun h => (S.fr a h).1
/-! ### calls -/
noncomputable def rO (φ : En → Sto → Prop) (ε : Xw → Sto → Prop) : RsO → Prop
  | .ok e O => φ e O
  | .fl c O => ∃ xs, c = ol xs ∧ φ (.d (.list xs)) O
  | .er e O => ε e O
/-- a new list is data from now on -/
theorem StaO.frz (S : StaO K Wd B ad H0 H σ G (updO O a (ol xs))) (h : O a = none) : StaO K Wd B ad H0 H σ G O ∧ Ex (less H (ZO Wd B ad G (updO O a (ol xs)))) (less H (ZO Wd B ad G O)) ∧ Dp K (less H (ZO Wd B ad G O)) (.ref a) (.list xs) := qt_of (by simp (disch := with_unfolding_all
  have sb : SubO (updO O a (ol xs)) O := fun b k => by
    by_cases e : b = a
    · rw [e] at k; exact absurd h k
    · rw [updO_ne e]
  obtain ⟨S2, e2⟩ := S.let_ sb
  obtain ⟨vs, h1, h2⟩ := S.ob a _ updO_same
  obtain ⟨f1, f2, f3⟩ := S.fr a (by rw [updO_same]; simp)
  refine ⟨S2, e2, .lst (sq_of (less_of ?_ h1)) (dpa_mono e2 h2)⟩
  rintro ((z | z) | ⟨i, c, g, e⟩ | z)
  · exact f3 z
  · exact z h
  · subst e; exact (S.S.sep i c g).2.2 (.inr (by rw [updO_same]; simp))
  · exact f2 z
  ) only [↓qt_eq])
/-- what o.m is: an instance of the class, m no field of it -/
noncomputable def Inst (O : Sto) (e : En) (a C : Addr) (m : Str) : Prop := ∃ dx fs, e = .vl (.ref a) ∧ O a = some (ins C dx fs) ∧ fs.lookup m = none
theorem oe_meth0 {E : XK} {C : Addr} {m : Str} {dvs : List V} {des : List PyData} (hd : ∀ H, DpAll K H dvs des) (h : EO K cs W ta G O (fun e O1 => ∃ a, Inst O1 e a C m ∧ AO K cs W tA G O1 (fun es O2 => P (.vl (.ref a) :: (es ++ des.map .d)) O2 (rO φ noXO)) ε) ε) : EO K cs W (tMeth C m (spO0 K P) dvs E ta tA) G O φ ε := fun Wd B ad H0 H σ S Q q x =>
  h Wd B ad H0 H σ S _ (fun e O1 ⟨a, ⟨dx, fs, ee, ho, hl⟩, p⟩ v H1 S1 x1 d1 => by
    subst ee
    have ev : v = V.ref a := d1
    obtain ⟨us, g1, g2⟩ := S1.ob a _ ho
    refine ⟨a, dx, fill fs us, ev, g1, fill_none g2 hl, p Wd B ad H0 H1 σ S1 _ (fun es O2 hp vs H2 S2 x2 d2 => ?_) (x.go x1)⟩
    subst ev
    refine ⟨Wc Wd B ad G, O2, .vl (.ref a) :: (es ++ des.map .d), _, S2.beg, by rw [wc_zo]; exact .cons rfl (d2.app (VaAll.ofData (hd _))), hp, fun e O3 p v H3 f d => ?_, fun c O3 p b H3 hb f => ?_⟩
    · obtain ⟨S3, e3⟩ := S2.called f
      rw [wc_zo] at d
      exact q e O3 p v H3 S3 ((x1.trans x2).trans e3) d
    · obtain ⟨xs, rfl, p⟩ := p
      obtain ⟨S3, e3⟩ := S2.called f
      obtain ⟨S4, e4, d⟩ := S3.frz hb
      exact q _ O3 p _ H3 S4 (((x1.trans x2).trans e3).trans e4) d) x
theorem oe_methX {C : Addr} {m : Str} {dvs : List V} {des : List PyData} (hd : ∀ H, DpAll K H dvs des) (h : EO K cs W ta G O (fun e O1 => ∃ a, Inst O1 e a C m ∧ AO K cs W tA G O1 (fun es O2 => P (.vl (.ref a) :: (es ++ des.map .d)) O2 (rO φ ε)) ε) ε) : EO K cs W (tMethX C m (spO K cs P) dvs (WE W) ta tA) G O φ ε := fun Wd B ad H0 H σ S Q q x =>
  h Wd B ad H0 H σ S _ (fun e O1 ⟨a, ⟨dx, fs, ee, ho, hl⟩, p⟩ v H1 S1 x1 d1 => by
    subst ee
    have ev : v = V.ref a := d1
    obtain ⟨us, g1, g2⟩ := S1.ob a _ ho
    refine ⟨a, dx, fill fs us, ev, g1, fill_none g2 hl, p Wd B ad H0 H1 σ S1 _ (fun es O2 hp vs H2 S2 x2 d2 => ?_) (x.go x1)⟩
    subst ev
    refine ⟨Wc Wd B ad G, O2, .vl (.ref a) :: (es ++ des.map .d), _, S2.beg, by rw [wc_zo]; exact .cons rfl (d2.app (VaAll.ofData (hd _))), hp, ⟨fun e O3 p v H3 f d => ?_, fun c O3 p b H3 hb f => ?_⟩, fun e O3 p d H3 f hn hx => ?_⟩
    · obtain ⟨S3, e3⟩ := S2.called f
      rw [wc_zo] at d
      exact q e O3 p v H3 S3 ((x1.trans x2).trans e3) d
    · obtain ⟨xs, rfl, p⟩ := p
      obtain ⟨S3, e3⟩ := S2.called f
      obtain ⟨S4, e4, d⟩ := S3.frz hb
      exact q _ O3 p _ H3 S4 (((x1.trans x2).trans e3).trans e4) d
    · obtain ⟨S3, e3⟩ := S2.called f
      rw [wc_zo] at hx
      exact x e O3 p d H3 S3 ((x1.trans x2).trans e3) (S2.dn hn) hx) x
/-- C(..) -/
theorem oe_make {E : XK} {C : Addr} {dvs : List V} {des : List PyData} (hd : ∀ H, DpAll K H dvs des) (h : AO K cs W tA G O (fun es O1 => ∀ x dx, O1 x = none → P (.vl (.ref x) :: (es ++ des.map .d)) (updO O1 x (ins C dx [])) (fun r => ∃ O2, r = .ok (.d .none) O2 ∧ φ (.vl (.ref x)) O2)) ε) : EO K cs W (tMake C (spO0 K P) dvs E tA) G O φ ε := fun Wd B ad H0 H σ S Q q x =>
  h Wd B ad H0 H σ S _ (fun es O1 hp vs H1 S1 x1 d1 x' dx hx hdx hne => by
    have e1 : Ex H1 (upd H1 dx (.own x')) := Ex.new hdx
    have S2 := S1.ext e1
    have hx2 : upd H1 dx (.own x') x' = none := by rw [upd_ne hne.symm]; exact hx
    obtain ⟨S3, e3⟩ := S2.new (c := ins C dx []) (vs := []) hx2 .nil
    have e2 : Ex (less H1 (ZO Wd B ad G O1)) (less (upd H1 dx (.own x')) (ZO Wd B ad G O1)) := less_mono e1
    refine ⟨Wc Wd B ad G, updO O1 x' (ins C dx []), .vl (.ref x') :: (es ++ des.map .d), _, S3.beg, by rw [wc_zo]; exact .cons rfl ((d1.mono (e2.trans e3)).app (VaAll.ofData (hd _))), hp x' dx (S1.fresh hx).2.2.2, fun e O2 p v H2 f d => ?_, fun c O2 p b H2 hb f => ?_⟩
    · obtain ⟨O3, z, p⟩ := p
      cases z
      obtain ⟨S4, e4⟩ := S3.called f
      cases d
      exact ⟨rfl, q _ O2 p _ H2 S4 (((x1.trans e2).trans e3).trans e4) rfl⟩
    · obtain ⟨_, z, _⟩ := p
      cases z) x
/-! ### fields -/
theorem oe_fld {f : Str} (h : EO K cs W te G O (fun e O1 => ∃ a C dx fs fv, e = .vl (.ref a) ∧ O1 a = some (ins C dx fs) ∧ Cls K C ∧ NoAttr K C f ∧ fs.lookup f = some fv ∧ φ fv.en O1) ε) : EO K cs W (tFld K te f) G O φ ε := fun Wd B ad H0 H σ S Q q x =>
  h Wd B ad H0 H σ S _ (fun e O1 ⟨a, C, dx, fs, fv, ee, ho, hc, hn, hl, p⟩ v H1 S1 x1 d1 => by
    subst ee
    obtain ⟨us, g1, g2⟩ := S1.ob a _ ho
    obtain ⟨w, l, d⟩ := fill_look g2 hl
    exact ⟨a, C, dx, fill fs us, w, d1, g1, hc, hn, l, q _ O1 p w H1 S1 x1 d⟩) x
theorem os_fld {f : Str} (h : EO K cs W tf G O (fun e O1 => ∃ fv : Fv, e = fv.en ∧ EO K cs W te G O1 (fun e2 O2 => ∃ a C dx fs, e2 = .vl (.ref a) ∧ O2 a = some (ins C dx fs) ∧ Cls K C ∧ NoAttr K C f ∧ fs.length < 1000 ∧ Φ (.nx G (updO O2 a (ins C dx (putFs f fv fs))))) (fun e O1 => Φ (.ex e G O1))) (fun e O1 => Φ (.ex e G O1))) : SO K cs W (sFld K te tf f) G O Φ := fun Wd B ad H0 H σ D S q =>
  h Wd B ad H0 H σ S _ (fun e O1 ⟨fv, ee, h2⟩ y H1 S1 x1 d1 => by
    subst ee
    refine h2 Wd B ad H0 H1 σ S1 _ (fun e2 O2 ⟨a, C, dx, fs, ee, ho, hc, hn, hl, p⟩ v H2 S2 x2 d2 => ?_) ((post_xpo q).go x1)
    subst ee
    obtain ⟨us, g1, g2⟩ := S2.ob a _ ho
    obtain ⟨ws, k1, k2⟩ := fill_put (n := f) g2 (d1.mono x2)
    refine ⟨a, C, dx, fill fs us, d2, g1, hc, hn, by rw [fill_len g2]; exact hl, ?_⟩
    rw [k2]
    obtain ⟨S3, e3⟩ := S2.chg (c' := ins C dx (putFs f fv fs)) (vs := ws) (by rw [ho]; simp) k1
    exact q _ p ad _ _ S3 ((x1.trans x2).trans e3)) (post_xpo q)
end
/-! ### defs -/
section
variable {Pg : Program} {w : World} {K : Fg} {mg : Str → Option Value} {base : Heap} {cs : Cs}
noncomputable def rtsO (A : RsO → Prop) : OutO → Prop
  | .rt e O => A (.ok e O)
  | .rl c O => A (.fl c O)
  | .nx _ O => A (.ok (.d .none) O)
  | .ex e _ O => A (.er e O)
  | _ => False
noncomputable def rtsO0 (A : RsO → Prop) : OutO → Prop
  | .rt e O => A (.ok e O)
  | .rl c O => A (.fl c O)
  | .nx _ O => A (.ok (.d .none) O)
  | _ => False
theorem sta0O {N : List Str} {Wd : Addr → Prop} {O : Sto} {H : Hp} {vs : List V} {es : List En} (b : BegO K Wd O H) (hd : VaAll K (less H (WO Wd O)) vs es) : StaO K Wd noB (fun _ => 0) (less H fun a => O a ≠ none) H (L2.start N vs) (frameE N.length es) O := qt_of (by simp (disch := with_unfolding_all
  have no : ∀ (i : Nat) (c : Own), (frameE N.length es)[i]? ≠ some (En.ow c) := fun i c h => by
    rcases frameE_get h with g | ⟨_, e⟩
    · obtain ⟨v, _, a⟩ := hd.at_ g
      exact a
    · cases e
  have zz : ∀ a, ZO Wd noB (fun _ => 0) (frameE N.length es) O a → WO Wd O a := by
    rintro a (z | ⟨i, c, g, _⟩ | ⟨b, c, z, _⟩ | ⟨p, hp, _⟩)
    · exact z
    · exact absurd g (no i c)
    · cases z
    · cases hp
  refine ⟨⟨?_, fun i e h => ?_, fun i j c c' g => absurd g (no i c), fun i c g => absurd g (no i c), fun a o h _ => (less_some h).2, ⟨⟨_, bag_ok0, trivial⟩, fun p hp => nomatch hp⟩, b.wd, fun p hp => nomatch hp⟩, fun a c k => (b.ob a c k).mono (less_sub zz) fun _ q => q, fun a k => ⟨less_yes k, inb_none, b.nw a k⟩⟩
  · rw [start_len, hd.len, frameE_len]
  · rcases frameE_get h with g | ⟨hi, rfl⟩
    · obtain ⟨v, hv, a⟩ := hd.at_ g
      refine ⟨some v, start_get hv, ?_⟩
      have a := a.mono (less_sub zz)
      cases e <;> first
        | exact ⟨v, rfl, a⟩
        | exact congrArg some a
        | exact False.elim a
    · have il : i < (L2.start N vs).length := by
        rw [start_len, hd.len]
        have := (List.getElem?_eq_some_iff.mp h).1
        rw [frameE_len] at this
        exact this
      exact ⟨(L2.start N vs)[i], List.getElem?_eq_getElem il, trivial⟩
  ) only [↓qt_eq])
theorem end_fin {Wd : Addr → Prop} {O O2 : Sto} {H H2 : Hp} (e : EndO K Wd noB (less H fun a => O a ≠ none) H2 O2) : FinO K Wd O H O2 H2 := qt_of (by simp (disch := with_unfolding_all
  have hz : (fun a => WO Wd O2 a ∨ InB noB a) = WO Wd O2 := funext fun a => propext ⟨fun z => z.elim id fun z => absurd z inb_none, .inl⟩
  refine ⟨fun a o h n => e.x a o (less_of (fun z => z n) h) inb_none, fun a c k => by have := e.ob a c k; rw [hz] at this; exact this, fun a k => ⟨?_, (e.fr a k).2.2⟩⟩
  have := (e.fr a k).1
  by_cases z : O a ≠ none
  · exact .inl z
  · rw [less_no z] at this; exact .inr this
  ) only [↓qt_eq])
theorem nob_z {Wd : Addr → Prop} {O2 : Sto} {H2 : Hp} : (less H2 fun a => WO Wd O2 a ∨ InB noB a) = less H2 (WO Wd O2) := congrArg (less H2) (funext fun a => propext ⟨fun z => z.elim id fun z => absurd z inb_none, .inl⟩)
theorem runO {N : List Str} {Wd : Addr → Prop} {O : Sto} {H : Hp} {vs : List V} {es : List En} {A : RsO → Prop} {t : TS} {Q : VK} {E : XK} (b : BegO K Wd O H) (hd : VaAll K (less H (WO Wd O)) vs es) (h : SO K cs (WD E) t (frameE N.length es) O (rtsO A)) (q : okRsO K Wd O H Q A)
    (x : ∀ e O2, A (.er e O2) → ∀ d H2, FinO K Wd O H O2 H2 → (H d = none ∨ O d ≠ none) → less H2 (WO Wd O2) d = some (.xd e.fs) → E (.ref (cs e.cls)) (some d) H2) : t { nx := fun _ H' => Q .non H', rt := Q } (L2.start N vs) H := qt_of (by simp (disch := with_unfolding_all
  refine h Wd noB (fun _ => 0) _ H _ _ (sta0O b hd) fun o p => ?_
  cases o with
  | rt e O2 => exact fun v H2 f d => q.1 e O2 p v H2 (end_fin f) (by rw [nob_z] at d; exact d)
  | rl c O2 => exact fun a H2 ha f => q.2 c O2 p a H2 ha (end_fin f)
  | nx G O2 => exact fun ad H2 σ S _ => q.1 _ O2 p _ H2 (end_fin S.fin.1) .non
  | bk G O2 => exact p.elim
  | ct G O2 => exact p.elim
  | ex e G O2 =>
    intro d ad H2 σ S _ hn hx
    obtain ⟨f, ex⟩ := S.fin
    rw [nob_z] at ex
    have k := ex _ _ hx
    refine x e O2 p d H2 (end_fin f) ?_ k
    by_cases z : O d ≠ none
    · exact .inr z
    · rw [less_no z] at hn; exact .inl hn
  ) only [↓qt_eq])
theorem run0O {N : List Str} {Wd : Addr → Prop} {O : Sto} {H : Hp} {vs : List V} {es : List En} {A : RsO → Prop} {t : TS} {Q : VK} (b : BegO K Wd O H) (hd : VaAll K (less H (WO Wd O)) vs es) (h : SO K cs W0 t (frameE N.length es) O (rtsO0 A)) (q : okRsO K Wd O H Q A) :
    t { nx := fun _ H' => Q .non H', rt := Q } (L2.start N vs) H := qt_of (by simp (disch := with_unfolding_all
  refine h Wd noB (fun _ => 0) _ H _ _ (sta0O b hd) fun o p => ?_
  cases o with
  | rt e O2 => exact fun v H2 f d => q.1 e O2 p v H2 (end_fin f) (by rw [nob_z] at d; exact d)
  | rl c O2 => exact fun a H2 ha f => q.2 c O2 p a H2 ha (end_fin f)
  | nx G O2 => exact fun ad H2 σ S _ => q.1 _ O2 p _ H2 (end_fin S.fin.1) .non
  | bk G O2 => exact p.elim
  | ct G O2 => exact p.elim
  | ex e G O2 => exact p.elim
  ) only [↓qt_eq])
theorem okO0 {x qual : Str} {st : Stmt} {f : Addr} {fd : FuncData} {N ps : List Str} {k : Nat} {P : PrO} (cs : Cs) (F : Fun K x qual st f fd) (S : FnScope N ps (defScope st)) (hl : ∀ es O A, P es O A → es.length = ps.length)
    (hb : ∀ es O A, P es O A → ∀ (cdv : Value) (Ar : Around) (outer : List Env) (sh : Shared) (H : Hp) (E : XK), Room k (Ar.deeper (envOfC qual (defScope st) sh.heap.objs.size f cdv)) →
      ∃ t, PSs (cxOf CX0 Pg w K mg base N qual (defScope st) f cdv Ar outer sh H E).nox (defBody st) t ∧ SO K cs W0 t (frameE N.length es) O (rtsO0 A)) : FnOk Pg w K mg base CX0 (k + 1) f fd ps (spO0 K P) := qt_of (by simp (disch := with_unfolding_all
  refine F.ok S (fun vs H Q E h => ?_) (fun cdv Ar outer sh H vs Q E hr h => ?_)
  · obtain ⟨Wd, O, es, A, _, hd, hp, _⟩ := h
    rw [hd.len]
    exact hl es O A hp
  · obtain ⟨Wd, O, es, A, b, hd, hp, q⟩ := h
    obtain ⟨t, ht, g⟩ := hb es O A hp cdv Ar outer sh H E hr
    exact ⟨t, ht, run0O b hd g q⟩
  ) only [↓qt_eq])
theorem okO0D {x qual : Str} {st : Stmt} {dvs : List V} {kws : List (Str × V)} {f : Addr} {fd : FuncData} {N ps : List Str} {k : Nat} {P : PrO} (cs : Cs) (F : FunD K x qual (defArgs st) (defBody st) (defScope st) dvs kws f fd) (S : FnScope N ps (defScope st)) (hl : ∀ es O A, P es O A → es.length = ps.length)
    (hb : ∀ es O A, P es O A → ∀ (cdv : Value) (Ar : Around) (outer : List Env) (sh : Shared) (H : Hp) (E : XK), Room k (Ar.deeper (envOfC qual (defScope st) sh.heap.objs.size f cdv)) →
      ∃ t, PSs (cxOf CX0 Pg w K mg base N qual (defScope st) f cdv Ar outer sh H E).nox (defBody st) t ∧ SO K cs W0 t (frameE N.length es) O (rtsO0 A)) : FnOk Pg w K mg base CX0 (k + 1) f fd ps (spO0 K P) := qt_of (by simp (disch := with_unfolding_all
  refine F.ok S (fun vs H Q E h => ?_) (fun cdv Ar outer sh H vs Q E hr h => ?_)
  · obtain ⟨Wd, O, es, A, _, hd, hp, _⟩ := h
    rw [hd.len]
    exact hl es O A hp
  · obtain ⟨Wd, O, es, A, b, hd, hp, q⟩ := h
    obtain ⟨t, ht, g⟩ := hb es O A hp cdv Ar outer sh H E hr
    exact ⟨t, ht.nox, run0O b hd g q⟩
  ) only [↓qt_eq])
theorem okO {x qual : Str} {st : Stmt} {f : Addr} {fd : FuncData} {N ps : List Str} {k : Nat} {P : PrO} (F : Fun K x qual st f fd) (S : FnScope N ps (defScope st)) (hl : ∀ es O A, P es O A → es.length = ps.length)
    (hb : ∀ es O A, P es O A → ∀ (cdv : Value) (Ar : Around) (outer : List Env) (sh : Shared) (H : Hp) (E : XK), Room k (Ar.deeper (envOfC qual (defScope st) sh.heap.objs.size f cdv)) →
      ∃ t, PSs (cxOf (L2.CX Pg w) Pg w K mg base N qual (defScope st) f cdv Ar outer sh H E) (defBody st) t ∧ SO K cs (WD E) t (frameE N.length es) O (rtsO A)) : FnOk Pg w K mg base (L2.CX Pg w) (k + 1) f fd ps (spO K cs P) := qt_of (by simp (disch := with_unfolding_all
  refine F.okX S (fun vs H Q E h => ?_) (fun cdv Ar outer sh H vs Q E hr h => ?_)
  · obtain ⟨Wd, O, es, A, _, hd, hp, _⟩ := h
    rw [hd.len]
    exact hl es O A hp
  · obtain ⟨Wd, O, es, A, b, hd, hp, q, x⟩ := h
    obtain ⟨t, ht, g⟩ := hb es O A hp cdv Ar outer sh H E hr
    exact ⟨t, ht, runO b hd g q x⟩
  ) only [↓qt_eq])
theorem okOD {x qual : Str} {st : Stmt} {dvs : List V} {kws : List (Str × V)} {f : Addr} {fd : FuncData} {N ps : List Str} {k : Nat} {P : PrO} (F : FunD K x qual (defArgs st) (defBody st) (defScope st) dvs kws f fd) (S : FnScope N ps (defScope st)) (hl : ∀ es O A, P es O A → es.length = ps.length)
    (hb : ∀ es O A, P es O A → ∀ (cdv : Value) (Ar : Around) (outer : List Env) (sh : Shared) (H : Hp) (E : XK), Room k (Ar.deeper (envOfC qual (defScope st) sh.heap.objs.size f cdv)) →
      ∃ t, PSs (cxOf (L2.CX Pg w) Pg w K mg base N qual (defScope st) f cdv Ar outer sh H E) (defBody st) t ∧ SO K cs (WD E) t (frameE N.length es) O (rtsO A)) : FnOk Pg w K mg base (L2.CX Pg w) (k + 1) f fd ps (spO K cs P) := qt_of (by simp (disch := with_unfolding_all
  refine F.ok S (fun vs H Q E h => ?_) (fun cdv Ar outer sh H vs Q E hr h => ?_)
  · obtain ⟨Wd, O, es, A, _, hd, hp, _⟩ := h
    rw [hd.len]
    exact hl es O A hp
  · obtain ⟨Wd, O, es, A, b, hd, hp, q, x⟩ := h
    obtain ⟨t, ht, g⟩ := hb es O A hp cdv Ar outer sh H E hr
    exact ⟨t, ht, runO b hd g q x⟩
  ) only [↓qt_eq])
end
end U.N

end
section
/-! The third layer: loops; defs over data whose body makes and changes instances. -/
namespace U.N
open PySem PyProof.Rows L2 Evl
section
variable {K : Fg} {cs : Cs} {W : WX} {G G' : Gam} {O O1 O2 : Sto} {te tf ta tb : TE} {t : TT} {tu tz : TS} {tA : TA} {φ : En → Sto → Prop} {ε : Xw → Sto → Prop} {α : List En → Sto → Prop} {Φ : OutO → Prop}
variable {Wd : Addr → Prop} {B : Bt} {ad : Nat → Addr} {H0 H H1 H2 : Hp} {σ : St} {c : Own} {a : Addr} {P : PrO}
/-- what a turn of a loop may end with -/
noncomputable def lpo (I : Gam → Sto → Prop) (Φ : OutO → Prop) : OutO → Prop
  | .nx G O => I G O
  | .ct G O => I G O
  | .bk G O => Φ (.nx G O)
  | .rt x O => Φ (.rt x O)
  | .rl c O => Φ (.rl c O)
  | .ex e G O => Φ (.ex e G O)
theorem os_while {tb : TS} (I : Nat → Gam → Sto → Prop) (n : Nat) (h0 : I n G O) (hs : ∀ n G1 O1, I n G1 O1 → TO K cs W t G1 O1 (fun b O2 => Cnd b (SO K cs W tb G1 O2 (lpo (fun G2 O3 => ∃ m, m < n ∧ I m G2 O3) Φ)) (Φ (.nx G1 O2))) (fun e O2 => Φ (.ex e G1 O2))) : SO K cs W (tWhile t tb) G O Φ := fun Wd B ad H0 H σ D S q => by
  refine ⟨fun m σ' H' => ∃ ad' G1 O1, I m G1 O1 ∧ StaO K Wd B ad' H0 H' σ' G1 O1 ∧ Ex (less H (ZO Wd B ad G O)) (less H' (ZO Wd B ad' G1 O1)), ⟨n, ad, G, O, h0, S, Ex.refl _⟩, ?_⟩
  rintro m σ' H' ⟨ad', G1, O1, hI, S', e'⟩
  refine hs m G1 O1 hI Wd B ad' H0 H' σ' S' _ (fun b O2 p H2 S2 e2 => ?_) (fun e O2 he d H2 S2 x2 hd hx => q _ he d ad' H2 σ' S2 (e'.trans x2) hd hx)
  have e3 := e'.trans e2
  cases b with
  | false => exact iteF (q _ (p.2 rfl) ad' H2 σ' S2 e3)
  | true =>
    refine iteT ⟨fun σ3 H3 => ∃ m' ad3 G3 O3, m' < m ∧ I m' G3 O3 ∧ StaO K Wd B ad3 H0 H3 σ3 G3 O3 ∧ Ex (less H (ZO Wd B ad G O)) (less H3 (ZO Wd B ad3 G3 O3)), ?_, ?_⟩
    · rintro σ3 H3 ⟨m', ad3, G3, O3, hm, h3, S3, x3⟩
      exact ⟨m', hm, ad3, G3, O3, h3, S3, x3⟩
    · refine p.1 rfl Wd B ad' H0 H2 σ' _ S2 fun o p => ?_
      cases o with
      | nx G4 O4 => obtain ⟨m', hm, p⟩ := p; exact fun ad4 H4 σ4 S4 x4 => ⟨m', ad4, G4, O4, hm, p, S4, e3.trans x4⟩
      | ct G4 O4 => obtain ⟨m', hm, p⟩ := p; exact fun ad4 H4 σ4 S4 x4 => ⟨m', ad4, G4, O4, hm, p, S4, e3.trans x4⟩
      | bk G4 O4 => exact fun ad4 H4 σ4 S4 x4 => q _ p ad4 H4 σ4 S4 (e3.trans x4)
      | rt x O4 => exact q _ p
      | rl c O4 => exact q _ p
      | ex e G4 O4 => exact fun d ad4 H4 σ4 S4 x4 => q _ p d ad4 H4 σ4 S4 (e3.trans x4)
/-- an assignment to more than a name -/
theorem os_asgT {g : TG} (h : EO K cs W te G O (fun e O1 => ∃ x, e = .d x ∧ GW K g G x (fun G' => Φ (.nx G' O1))) (fun e O1 => Φ (.ex e G O1))) : SO K cs W (tAsg te g) G O Φ := fun Wd B ad H0 H σ D S q =>
  h Wd B ad H0 H σ S _ (fun e O1 ⟨y, ee, p⟩ v H1 S1 x1 d => by
    subst ee
    exact p (WO Wd O1) B ad _ H1 σ v S1.base0 d _ fun G' ad' H' σ' hp S' e' => q _ hp ad' H' σ' (S1.of0 S' e') (x1.trans e')) (post_xpo q)
/-- a tuple of data -/
theorem oe_tup (h : AO K cs W tA G O (fun es O1 => ∃ xs : List PyData, es = xs.map .d ∧ xs.length ≤ 16000000 ∧ φ (.d (.tuple xs)) O1) ε) : EO K cs W (tTup tA) G O φ ε := fun Wd B ad H0 H σ S Q q x =>
  h Wd B ad H0 H σ S _ (fun es O1 ⟨xs, ee, hl, p⟩ vs H1 S1 x1 d1 => by
    subst ee
    have dd := d1.data
    refine ⟨by rw [dpa_len dd]; exact sz_line hl, fun a ha => ?_⟩
    have ex : Ex H1 (upd H1 a (.tup vs)) := Ex.new ha
    have e2 : Ex (less H1 (ZO Wd B ad G O1)) (less (upd H1 a (.tup vs)) (ZO Wd B ad G O1)) := less_mono ex
    exact q _ O1 p _ _ (S1.ext ex) (x1.trans e2) (.tup (st_of (less_of (S1.S.fresh ha).2.2 upd_same)) (dpa_mono e2 dd))) x
end
/-! ### defs over data -/
noncomputable abbrev noO : Sto := fun _ => none
noncomputable def rtsD (A : Rs → Prop) : OutO → Prop
  | .rt (.d x) _ => A (.ok x)
  | .nx _ _ => A (.ok .none)
  | .ex e _ _ => A (.er e)
  | _ => False
section
variable {Pg : Program} {w : World} {K : Fg} {mg : Str → Option Value} {base : Heap} {cs : Cs} {W : WX} {G : Gam} {O : Sto} {tu : TS}
theorem wo_no {Wd : Addr → Prop} : WO Wd noO = Wd := funext fun a => propext ⟨fun z => z.elim id fun z => absurd rfl z, .inl⟩
theorem sta_no {Wd : Addr → Prop} {B : Bt} {ad : Nat → Addr} {H0 H : Hp} {σ : St} (S : Sta K Wd B ad H0 H σ G) : StaO K Wd B ad H0 H σ G noO := ⟨(wo_no (Wd := Wd)).symm ▸ S, fun a c k => (nomatch k), fun a k => absurd rfl k⟩
theorem sw_of {Φ : Out → Prop} {Ψ : OutO → Prop} (h : SO K cs W tu G noO Ψ) (m : ∀ o, Ψ o → (∃ x O, o = .rt (.d x) O ∧ Φ (.rt x)) ∨ (∃ G' O, o = .nx G' O ∧ Φ (.nx G')) ∨ (∃ e G' O, o = .ex e G' O ∧ Φ (.ex e G'))) : SW K cs W tu G Φ := fun Wd B ad H0 H σ D S q => by
  have ez : ZO Wd B ad G noO = Zs Wd B ad G := by unfold ZO; rw [wo_no]
  refine h Wd B ad H0 H σ D (sta_no S) fun o p => ?_
  rcases m o p with ⟨x, O, rfl, p2⟩ | ⟨G', O, rfl, p2⟩ | ⟨e, G', O, rfl, p2⟩
  · intro v H' f d
    have f2 : SubO O noO := fun a k => absurd rfl k
    obtain ⟨f3, ex⟩ := f.let_ (E := H') f2
    rw [wo_no] at ex
    refine q _ p2 v H' f3.x f3.bag (fun p hp => by have := f3.tab p hp; rw [wo_no] at this; exact this) (dp_mono ex d)
  · intro ad' H' σ' S' e'
    obtain ⟨S2, e2⟩ := S'.let_ (O2 := noO) fun a k => absurd rfl k
    have ez2 : ZO Wd B ad' G' noO = Zs Wd B ad' G' := by unfold ZO; rw [wo_no]
    rw [ez] at e'
    rw [ez2] at e2
    exact q _ p2 ad' H' σ' (by have := S2.S; rw [wo_no] at this; exact this) (e'.trans e2)
  · intro d ad' H' σ' S' e' hn hx
    obtain ⟨S2, e2⟩ := S'.let_ (O2 := noO) fun a k => absurd rfl k
    have ez2 : ZO Wd B ad' G' noO = Zs Wd B ad' G' := by unfold ZO; rw [wo_no]
    rw [ez] at e'
    rw [ez2] at e2
    exact q _ p2 d ad' H' σ' (by have := S2.S; rw [wo_no] at this; exact this) (e'.trans e2) hn (e2 _ _ hx)
theorem swD {A : Rs → Prop} (h : SO K cs W tu G noO (rtsD A)) : SW K cs W tu G (rts A) := sw_of h fun o p => by
  cases o with
  | rt e O => cases e <;> first | exact .inl ⟨_, _, rfl, p⟩ | exact p.elim
  | nx G' O => exact .inr (.inl ⟨_, _, rfl, p⟩)
  | ex e G' O => exact .inr (.inr ⟨_, _, _, rfl, p⟩)
  | rl c O => exact p.elim
  | bk G' O => exact p.elim
  | ct G' O => exact p.elim
end
end U.N

end
section
/-! Texts: enumerate, added in place. -/
namespace U.N
open PySem PyProof.Rows L2 Evl
theorem ip_addStr {X : Cx} : PIp X .Add rAddStr := iop_add_str
section
variable {K : Fg} {cs : Cs} {W : WX} {G G' : Gam} {ta te : TE} {tA : TA} {φ : PyData → Prop} {ε : Xw → Prop} {ι : List PyData → Prop} {χ : Own → Prop} {Φ : Out → Prop}
theorem sw_augStr {i : Nat} (a : Str) (hi : G[i]? = some (.d (.str a))) (h : EW K cs W te G (fun y => ∃ b : Str, y = .str b ∧ a.length + b.length ≤ sizeLine ∧ Φ (.nx (G.set i (.d (.str (a ++ b)))))) (fun e => Φ (.ex e G))) : SW K cs W (tAug i te rAddStr) G Φ := fun Wd B ad H0 H σ D S q => by
  obtain ⟨o, h1, v, rfl, d⟩ := S.at_ i _ hi
  cases d
  refine ⟨_, h1, h Wd B ad H0 H σ S _ (fun y ⟨b, e, hl, p⟩ w H1 S1 e1 d1 => ?_) (post_xp q)⟩
  subst e
  cases d1
  exact ⟨a, b, rfl, rfl, hl, q _ p ad H1 _ (S1.setD (i := i) (.str (a ++ b))) ((Xb.lz e1).trans (less_sub fun a z => Zs.set_of (fun _ z => by cases z) z))⟩
theorem iw_enumS (h : AW K cs W tA G (fun zs => ∃ z : Str, zs = [.str z] ∧ ι (enD (z.cps.toList.map sg))) ε) : IW K cs W (iEnumS tA) G ι ε := fun Wd B ad H0 H σ S R q x => h Wd B ad H0 H σ S _ (fun zs ⟨z, e, p⟩ vs H1 S1 e1 d1 => by
  subst e
  obtain ⟨v, rfl, d⟩ := dp1 d1
  cases d
  refine ⟨z, rfl, q _ p _ H1 S1 e1 fun H' Z hz e i => ⟨fun d hd => ?_, fun hn => ?_, fun x H'' hy => ?_⟩⟩
  · have hi := (List.getElem?_eq_some_iff.mp hd).1
    rw [enD_len, List.length_map, Array.length_toList] at hi
    exact hi
  · rw [enD_len, List.length_map, Array.length_toList] at hn
    exact hn
  · obtain ⟨T, c, rfl, hn, rfl, hc⟩ := hy
    have ex : Ex H' (upd H' T (.tup [.int (i : Nat), .str ⟨#[c]⟩])) := Ex.new hn
    refine ⟨ex, fun d hd => ?_⟩
    rw [enD_at, List.getElem?_map, Array.getElem?_toList, hc] at hd
    cases hd
    have zn : ¬ Z T := fun z => by
      obtain ⟨o, h⟩ := hz T z
      rw [hn] at h; cases h
    exact .tup (st_of (less_of zn upd_same)) (.cons (.int _) (.cons (.str _) .nil))) x
end
end U.N

end
section
/-! The common number divides every common multiple. -/
namespace U
open PySem PyProof.Rows L2 Evl
/-- numbers of a bits, the numbers below with a common multiple of N bits -/
structure CbB (a N : Nat) (ss : List Spot) : Prop where
  gd : ∀ s ∈ ss, Gds a s
  cm : ∃ c0 : Int, 0 < c0 ∧ (∀ s ∈ ss, ∀ f ∈ s, f.2 ∣ c0) ∧ Bd N c0
end U

end
section
/-! Corners round: plain geometry over the rationals. -/
namespace U.Hull
structure Pt where
  x : Rat
  y : Rat
deriving DecidableEq
noncomputable def sub (a b : Pt) : Pt := ⟨a.x - b.x, a.y - b.y⟩
/-- the area by which two steps span -/
noncomputable def cr (u v : Pt) : Rat := u.x * v.y - u.y * v.x
/-- > 0: c lies to the left of a → b -/
noncomputable def tn (a b c : Pt) : Rat := cr (sub b a) (sub c a)
/-! ### one side -/
/-! ### edges -/
end U.Hull

end
section
namespace U.Hull
/-- q lies between h and r -/
noncomputable def Btw (h r q : Pt) : Prop := (q.x - h.x) * (q.x - r.x) ≤ 0 ∧ (q.y - h.y) * (q.y - r.y) ≤ 0 ∧ tn h r q = 0
/-- q follows h round the spots P -/
noncomputable def Nx (P : List Pt) (h q : Pt) : Prop := q ∈ P ∧ q ≠ h ∧ (∀ r ∈ P, 0 ≤ tn h q r) ∧ ∀ r ∈ P, r ≠ q → ¬ Btw h r q
end U.Hull

end
section
namespace U.Hull
end U.Hull

end
section
/-! Corners round, of spots. -/
namespace U.Hull
open U
end U.Hull

end
section
/-! The body of spots in order. -/
namespace U.Hull
open U
/-! ### on a line -/
end U.Hull

end
section
/-! Land by sides and by threes. -/
namespace U.Hull
open U
end U.Hull

end
section
/-! The third layer: fields of what a name holds; calls of plain defs by arguments that change the store. -/
namespace U.N
open PySem PyProof.Rows L2 Evl
theorem iop_addI {X : Cx} : InOp X .Add rAddI := by unfold rAddI; exact fun pins s σ H x y u v Q I r1 r2 h => ip_add pins s σ H x y u v Q I r1 r2 h
theorem op_addI_go {k j : Int} {H : Hp} {Q : VK} (q : Q (.int (k + j)) H) : rAddI (.int k) (.int j) H Q := by unfold rAddI; exact ⟨k, j, rfl, rfl, q⟩
/-- a class's own facts: its attributes are none of these -/
structure ClsO (K : Fg) (C : Addr) (nm : List Str) : Prop where
  c : Cls K C
  n : ∀ f ∈ nm, NoAttr K C f
section
variable {K : Fg} {cs : Cs} {W : WX} {G G' : Gam} {O O1 O2 : Sto} {te tf ta tb : TE} {t : TT} {tu tz : TS} {tA tB : TA} {φ : En → Sto → Prop} {ε : Xw → Sto → Prop} {α : List En → Sto → Prop} {Φ : OutO → Prop}
variable {Wd : Addr → Prop} {B : Bt} {ad : Nat → Addr} {H0 H H1 H2 : Hp} {σ : St} {c : Own} {a C dx : Addr} {P : Pr} {nm : List Str} {fs : Fs} {f : Str} {i : Nat} {dvs : List V} {des : List PyData}
theorem oe_fldV {fv : Fv} (hi : G[i]? = some (.vl (.ref a))) (ho : O a = some (ins C dx fs)) (hc : ClsO K C nm) (hf : f ∈ nm) (hl : fs.lookup f = some fv) (p : φ fv.en O) : EO K cs W (tFld K (tVar i) f) G O φ ε :=
  oe_fld (oe_vl hi ⟨a, C, dx, fs, fv, rfl, ho, hc.c, hc.n f hf, hl, p⟩)
theorem os_fldV (hi : G[i]? = some (.vl (.ref a))) (h : EO K cs W tf G O (fun e O1 => ∃ (fv : Fv) (C dx : Addr) (fs : Fs) (nm : List Str), e = fv.en ∧ O1 a = some (ins C dx fs) ∧ ClsO K C nm ∧ f ∈ nm ∧ fs.length < 1000 ∧ Φ (.nx G (updO O1 a (ins C dx (putFs f fv fs))))) (fun e O1 => Φ (.ex e G O1))) : SO K cs W (sFld K (tVar i) tf f) G O Φ :=
  os_fld (oe_mono h fun e O1 ⟨fv, C, dx, fs, nm, ee, ho, hc, hf, hl, p⟩ => ⟨fv, ee, oe_vl hi ⟨a, C, dx, fs, rfl, ho, hc.c, hc.n f hf, hl, p⟩⟩)
theorem os_fldInc {k j : Int} (hi : G[i]? = some (.vl (.ref a))) (ho : O a = some (ins C dx fs)) (hc : ClsO K C nm) (hf : f ∈ nm) (hl : fs.lookup f = some (.d (.int k))) (hn : fs.length < 1000) (p : Φ (.nx G (updO O a (ins C dx (putFs f (.d (.int (k + j))) fs))))) :
    SO K cs W (sFldAug K (tVar i) (tC (.int j)) rAddI f) G O Φ := fun Wd B ad H0 H σ D S q => by
  obtain ⟨o, h1, h2⟩ := S.S.at_ i _ hi
  have h2 : o = some (V.ref a) := h2
  subst h2
  obtain ⟨us, g1, g2⟩ := S.ob a _ ho
  obtain ⟨w, l, d⟩ := fill_look g2 hl
  cases d
  refine ⟨_, h1, a, C, dx, fill fs us, _, rfl, g1, hc.c, hc.n f hf, l, ?_⟩
  refine op_addI_go ?_
  obtain ⟨ws, k1, k2⟩ := fill_put (n := f) (f := .d (.int (k + j))) g2 (.int _)
  refine ⟨dx, fill fs us, g1, by rw [fill_len g2]; exact hn, ?_⟩
  rw [k2]
  obtain ⟨S3, e3⟩ := S.chg (c' := ins C dx (putFs f (.d (.int (k + j))) fs)) (vs := ws) (by rw [ho]; simp) k1
  exact q _ p ad _ _ S3 e3
/-! ### plain defs and built-ins -/
theorem pop1 {Wd : Addr → Prop} {n : Nat} {es : List En} {σ : St} {H3 : Hp} {vs : List V} (S : Sta K Wd B ad H0 H σ G) (S4 : Sta K Wd B ad H0 H3 (σ ++ vs.map some) (G ++ es)) (hz : Zs Wd B ad (G ++ es) = Zs Wd B ad G) : Sta K Wd B ad H0 H3 σ G := qt_of (by simp (disch := with_unfolding_all
  refine ⟨S.len, fun i e h => ?_, S.inj, S.sep, S4.base, S4.bag, S4.wd, by rw [← hz]; exact S4.tab⟩
  have hi := (List.getElem?_eq_some_iff.mp h).1
  obtain ⟨o, g1, g2⟩ := S4.at_ i e (by rw [List.getElem?_append_left hi]; exact h)
  rw [List.getElem?_append_left (by rw [S.len]; exact hi)] at g1
  exact ⟨o, g1, by rw [← hz]; exact g2⟩
  ) only [↓qt_eq])
theorem oe_cb1 {r : List V → Hp → VK → Prop} (h : EO K cs W te G O (fun e O1 => ∃ x, e = .d x ∧ EW K cs W0 (tCB r (tCons (tVar G.length) tNil)) (G ++ [.d x]) (fun z => φ (.d z) O1) noX) ε) : EO K cs W (tCB r (tCons te tNil)) G O φ ε := fun Wd B ad H0 H σ S Q q x =>
  h Wd B ad H0 H σ S _ (fun e O1 ⟨y, z, p⟩ v H1 S1 x1 d1 => by
    subst z
    have d1 : Dp K _ v y := d1
    have dd : DpAll K (less H1 (ZO Wd B ad G O1)) [v] [y] := .cons d1 .nil
    obtain ⟨S3, ez⟩ := StaO.push S1.S dd
    have k := p (WO Wd O1) B ad H0 H1 _ S3 Q (fun y3 p v2 H3 S4 xb d => by
      have S5 := pop1 (n := 0) S1.S S4 ez
      have ez : Zs (WO Wd O1) B ad (G ++ [En.d y]) = Zs (WO Wd O1) B ad G := ez
      rw [ez] at d
      exact q _ _ p v2 H3 (S1.go S5 xb) (x1.trans (Xb.lz xb)) d) xp_no
    obtain ⟨v', g1, k⟩ := k
    have e1 : (σ ++ [v].map some)[G.length]? = some (some v) := by rw [← S1.S.len, List.getElem?_append_right (Nat.le_refl _), Nat.sub_self]; rfl
    rw [e1] at g1
    cases g1
    exact k) x
theorem oe_cb2 {r : List V → Hp → VK → Prop} (h : EO K cs W ta G O (fun e O1 => ∃ x, e = .d x ∧ EO K cs W tb G O1 (fun f O2 => ∃ y, f = .d y ∧ EW K cs W0 (tCB r (tCons (tVar G.length) (tCons (tVar (G.length + 1)) tNil))) (G ++ [.d x, .d y]) (fun z => φ (.d z) O2) noX) ε) ε) : EO K cs W (tCB r (tCons ta (tCons tb tNil))) G O φ ε := fun Wd B ad H0 H σ S Q q x =>
  h Wd B ad H0 H σ S _ (fun e O1 ⟨y, z, p⟩ v H1 S1 x1 d1 => by
    subst z
    refine p Wd B ad H0 H1 σ S1 _ (fun f O2 ⟨y2, z2, p2⟩ w H2 S2 x2 d2 => ?_) (x.go x1)
    subst z2
    have d1 : Dp K _ v y := d1
    have d2 : Dp K _ w y2 := d2
    have dd : DpAll K (less H2 (ZO Wd B ad G O2)) [v, w] [y, y2] := .cons (dp_mono x2 d1) (.cons d2 .nil)
    obtain ⟨S3, ez⟩ := StaO.push S2.S dd
    have k := p2 (WO Wd O2) B ad H0 H2 _ S3 Q (fun y3 p v H3 S4 xb d => by
      have S5 := pop1 (n := 0) S2.S S4 ez
      have ez : Zs (WO Wd O2) B ad (G ++ [En.d y, En.d y2]) = Zs (WO Wd O2) B ad G := ez
      rw [ez] at d
      exact q _ _ p v H3 (S2.go S5 xb) ((x1.trans x2).trans (Xb.lz xb)) d) xp_no
    obtain ⟨v', g1, w', g2, k⟩ := k
    have e1 : (σ ++ [v, w].map some)[G.length]? = some (some v) := by rw [← S2.S.len, List.getElem?_append_right (Nat.le_refl _), Nat.sub_self]; rfl
    have e2 : (σ ++ [v, w].map some)[G.length + 1]? = some (some w) := by rw [← S2.S.len, List.getElem?_append_right (Nat.le_succ _), show σ.length + 1 - σ.length = 1 by omega]; rfl
    rw [e1] at g1
    rw [e2] at g2
    cases g1
    cases g2
    exact k) x
theorem oe_callW {E : XK} (hd : ∀ H, DpAll K H dvs des) (h : AO K cs W tA G O (fun es O1 => ∃ ds : List PyData, es = ds.map .d ∧ P (ds ++ des) (rE (fun x => φ (.d x) O1) fun _ => False)) ε) : EO K cs W (tCall (spW0 K P) dvs E tA) G O φ ε := fun Wd B ad H0 H σ S Q q x =>
  h Wd B ad H0 H σ S _ (fun es O1 ⟨ds, ee, hp⟩ vs H1 S1 x1 d1 => by
    subst ee
    have dd := d1.data
    refine ⟨ZO Wd B ad G O1, ds ++ des, _, S1.S.there, dpa_app dd (hd _), hp, fun y p v H' e d => q _ O1 p v H' (S1.ext e) (x1.trans (less_mono e)) d, fun c p a us H' e hn ho d => ?_⟩
    obtain ⟨xs, rfl, p⟩ := p
    exact q _ O1 p _ H' (S1.ext e) (x1.trans (less_mono e)) (show Dp K _ _ _ from .lst (sq_of (less_of (S1.S.fresh hn).2.2 ho)) (dpa_mono (less_sub fun b z => .inl z) d))) x
theorem oe_callN {E : XK} {n m : Nat} (h : AO K cs W tA G O (fun es O1 => AO K cs W tB G O1 (fun fs O2 => ∃ ds ks : List PyData, es = ds.map .d ∧ fs = ks.map .d ∧ ds.length = n ∧ ks.length = m ∧ P (ds ++ ks) (rE (fun x => φ (.d x) O2) fun _ => False)) ε) ε) : EO K cs W (tCallN n m (spW0 K P) (fun vs zs => vs ++ zs) E tA tB) G O φ ε := fun Wd B ad H0 H σ S Q q x =>
  h Wd B ad H0 H σ S _ (fun es O1 h2 vs H1 S1 x1 d1 => h2 Wd B ad H0 H1 σ S1 _ (fun fs O2 ⟨ds, ks, ee, ef, hn, hm, hp⟩ zs H2 S2 x2 d2 => by
    subst ee
    subst ef
    have dd := (d1.mono x2).data
    have dk := d2.data
    refine ⟨(dpa_len dd).trans hn, (dpa_len dk).trans hm, ZO Wd B ad G O2, ds ++ ks, _, S2.S.there, dpa_app dd dk, hp, fun y p v H' e d => q _ O2 p v H' (S2.ext e) ((x1.trans x2).trans (less_mono e)) d, fun c p a us H' e hn ho d => ?_⟩
    obtain ⟨xs, rfl, p⟩ := p
    exact q _ O2 p _ H' (S2.ext e) ((x1.trans x2).trans (less_mono e)) (show Dp K _ _ _ from .lst (sq_of (less_of (S2.S.fresh hn).2.2 ho)) (dpa_mono (less_sub fun b z => .inl z) d))) (x.go x1)) x
end
end U.N

end
section
/-! A text among texts. -/
namespace U.N
open PySem PyProof.Rows L2 Evl
theorem dpa_strs {K : Fg} {M : Hp} : ∀ {ws : List Str} {vs : List V}, DpAll K M vs (ws.map PyData.str) → vs = ws.map V.str
  | [], _, h => by cases h; rfl
  | w :: ws, _, h => by
    cases h with
    | cons a t => cases a; rw [dpa_strs t]; rfl
theorem flat_strs : ∀ ws : List Str, (ws.map V.str).all flatV = true
  | [] => rfl
  | w :: ws => by rw [List.map_cons, List.all_cons, flat_strs ws]; rfl
theorem inV_strs (z : Str) : ∀ ws : List Str, inV (.str z) (ws.map V.str) = decide (z ∈ ws)
  | [] => by rfl
  | w :: ws => by
    have ih := inV_strs z ws
    unfold inV at ih ⊢
    rw [List.map_cons, List.any_cons, ih]
    show (decide (w = z) || _) = _
    by_cases e : w = z
    · subst e; simp
    · have : ¬ z = w := fun h => e h.symm
      simp [e, this]
@[irreducible] def rInT (K : Fg) (neg : Bool) : R2 := rIn K neg
theorem op_inT {X : Cx} : OpR X (compareOp .In) (rInT X.K false) := by unfold rInT; exact op_in_seq
theorem op_notInT {X : Cx} : OpR X (compareOp .NotIn) (rInT X.K true) := by unfold rInT; exact op_notIn_seq
section
variable {K : Fg} {cs : Cs} {W : WX} {G : Gam} {ta tb : TE} {φ : PyData → Prop} {ε : Xw → Prop}
theorem ew_inStr {neg : Bool} (h : EW K cs W ta G (fun x => ∃ z, x = .str z ∧ EW K cs W tb G (fun y => ∃ ws : List Str, itemsOf y = some (ws.map PyData.str) ∧ φ (.bool (if neg then !decide (z ∈ ws) else decide (z ∈ ws)))) ε) ε) : EW K cs W (tOp (rIn K neg) ta tb) G φ ε :=
  ew_op (ew_mono h fun x ⟨z, e, h⟩ => ew_mono h fun y ⟨ws, e2, p⟩ => fun Wd B ad H0 H σ v w S d1 d2 Q q => by
    subst e
    cases d1
    rcases items_cases e2 with rfl | rfl
    · cases d2 with
      | lst g t =>
        have e := dpa_strs t
        subst e
        exact ⟨_, _, rfl, .inl (ex_l less_ex g), rfl, flat_strs ws, by rw [inV_strs]; exact q _ p _ H S Xb.refl (.bl _)⟩
    · cases d2 with
      | tup g t =>
        have e := dpa_strs t
        subst e
        exact ⟨_, _, rfl, .inr (ex_t less_ex g), rfl, flat_strs ws, by rw [inV_strs]; exact q _ p _ H S Xb.refl (.bl _)⟩)
theorem ew_inT {neg : Bool} (h : EW K cs W ta G (fun x => ∃ z, x = .str z ∧ EW K cs W tb G (fun y => ∃ ws : List Str, itemsOf y = some (ws.map PyData.str) ∧ φ (.bool (if neg then !decide (z ∈ ws) else decide (z ∈ ws)))) ε) ε) : EW K cs W (tOp (rInT K neg) ta tb) G φ ε := by unfold rInT; exact ew_inStr h
end
end U.N

end
section
/-! What lies between the corners of a body. -/
namespace U.Hull
open U
/-! ### on a line -/
/-! ### bodies of more spots -/
/-! ### every spot lies in its body -/
end U.Hull

end
section
/-! replace, split into words; defs that want a token out. -/
namespace U.N
open PySem PySem.Spec PyProof.Rows L2 Evl
noncomputable def rWords : V → List V → Hp → VK → Prop := fun x xs H Q => ∃ a, x = .str a ∧ xs = [] ∧ a.length + 2 ≤ sizeLine ∧ rNewStrs (Txt.words a) H Q
section
variable {Pg : Program} {w : World} {K : Fg} {mg : Str → Option Value} {base : Heap} {cs : Cs} {gs : Gs} {W : WX} {G : Gam} {φ : PyData → Prop} {χ : Own → Prop} {ε : Xw → Prop} {te : TE}
theorem pet_wordsQ {X : Cx} {o : Expr} {to : TE} {apos pos : Pos} (ho : PET X o to) (hbase : attributeBase o "split" X.env (eval o X.env) = eval o X.env := by rfl) (hline : (apos.endLine == pos.line) = true := by rfl) :
    PET X (.Call (.Attribute o "split" apos) [] [] pos) (tM0 rWords to) := pet_words ho hbase hline
theorem dpa_ofStrs {M : Hp} : ∀ ws : List Str, DpAll K M (ws.map V.str) (ws.map PyData.str)
  | [] => .nil
  | w :: ws => .cons (.str w) (dpa_ofStrs ws)
theorem ef_words (h : EW K cs W te G (fun x => ∃ a : Str, x = .str a ∧ a.length + 2 ≤ sizeLine ∧ χ (ol ((Txt.words a).map PyData.str))) ε) : EF K cs W (tM0 rWords te) G χ ε := fun Wd B ad H0 H σ S Q q x =>
  h Wd B ad H0 H σ S _ (fun x1 ⟨a, e, hz, p⟩ v H2 S2 e2 d => by
    subst e
    cases d
    refine ⟨⟨a, rfl⟩, a, rfl, rfl, hz, fun b hb => ?_⟩
    refine q _ p b _ H2 S2 e2 hb ?_
    exact dpa_ofStrs (Txt.words a)) x
theorem ew_words_ (h : EW K cs W te G (fun x => ∃ a : Str, x = .str a ∧ a.length + 2 ≤ sizeLine ∧ φ (.list ((Txt.words a).map PyData.str))) ε) : EW K cs W (tM0 rWords te) G φ ε :=
  ew_ef (ef_words (ew_mono h fun x ⟨a, e, z, p⟩ => ⟨a, e, z, _, rfl, p⟩))
theorem ew_replC {y z : Str} (h : EW K cs W te G (fun x => ∃ a : Str, x = .str a ∧ a.length + (a.length + 1) * z.length ≤ 16777216 ∧ φ (.str (Txt.replace a y z))) ε) : EW K cs W (CwR.tReplC te y z) G φ ε := fun Wd B ad H0 H σ S Q q x =>
  h Wd B ad H0 H σ S _ (fun x1 ⟨a, e, hz, p⟩ v H2 S2 e2 d => by
    subst e
    cases d
    exact ⟨a, rfl, hz, q _ p _ H2 S2 e2 (.str _)⟩) x
/-- a def over data that wants a token out -/
theorem okWT {x qual : Str} {st : Stmt} {f : Addr} {fd : FuncData} {N ps : List Str} {k : Nat} {P : Pr} (cs : Cs) (F : Fun K x qual st f fd) (S : FnScope N ps (defScope st)) (hl : ∀ ds A, P ds A → ds.length = ps.length)
    (hb : ∀ ds A, P ds A → ∀ (cdv : Value) (Ar : Around) (outer : List Env) (sh : Shared) (H : Hp) (E : XK), Room k (Ar.deeper (envOfC qual (defScope st) sh.heap.objs.size f cdv)) →
      ∃ t, PSsT (cxOf CX0 Pg w K mg base N qual (defScope st) f cdv Ar outer sh H E).nox (defBody st) t ∧ SW K cs W0 t (frame N.length ds) (rts0 A)) : FnOkT Pg w K mg base CX0 (k + 1) f fd ps (spW0 K P) := qt_of (by simp (disch := with_unfolding_all
  refine fun_okT F S (fun vs H Q E h => ?_) (fun cdv Ar outer sh H vs Q E hr h => ?_)
  · obtain ⟨Wd, ds, A, _, hd, hp, _⟩ := h
    rw [dpa_len hd]
    exact hl ds A hp
  · obtain ⟨Wd, ds, A, hW, hd, hp, q⟩ := h
    obtain ⟨t, ht, g⟩ := hb ds A hp cdv Ar outer sh H E hr
    exact ⟨t, ht, run0 hW hd g q⟩
  ) only [↓qt_eq])
end
end U.N

end
section
/-! A text many times. -/
namespace U.N
open PySem PySem.Spec PyProof.Rows L2 Evl
/-- a text n times, as numbers -/
noncomputable def repT (n : Nat) (l : List Nat) : List Nat := (List.replicate n l).flatten
noncomputable def repSt (n : Nat) (a : Str) : Str := ⟨(repT n a.cps.toList).toArray⟩
noncomputable def rMulT : R2 := fun x y H Q => ∃ (a : Str) (n : Nat), x = .str a ∧ y = .int n ∧ a.length ≤ 10000 ∧ n ≤ 1000 ∧ Q (.str (repSt n a)) H
theorem rep_foldT (l : Array Nat) : ∀ (n : Nat) (acc : Array Nat), ((List.replicate n l).foldl (· ++ ·) acc).toList = acc.toList ++ repT n l.toList
  | 0, acc => by simp [repT]
  | n + 1, acc => by
    rw [List.replicate_succ, List.foldl_cons, rep_foldT l n, Array.toList_append, List.append_assoc]
    congr 1
theorem repT_nil : ∀ n : Nat, repT n [] = []
  | 0 => rfl
  | n + 1 => by show [] ++ repT n [] = []; rw [repT_nil]; rfl
theorem repT_len (l : List Nat) : ∀ n : Nat, (repT n l).length = n * l.length
  | 0 => by show 0 = 0 * _; rw [Nat.zero_mul]
  | n + 1 => by show (l ++ repT n l).length = _; rw [List.length_append, repT_len l n, Nat.succ_mul, Nat.add_comm]
theorem repSt_one (a : Str) : repSt 1 a = a := by
  unfold repSt repT
  show (⟨(a.cps.toList ++ []).toArray⟩ : Str) = a
  rw [List.append_nil]
section
variable {X : Cx} {K : Fg} {cs : Cs} {gs : Gs} {W : WX} {G : Gam} {φ : PyData → Prop} {ε : Xw → Prop} {ta tb : TE}
theorem op_mulT : OpR X (binaryOp .Mult) rMulT := by
  intro pins s σ H x y v u Q I rx ry h
  obtain ⟨a, n, rfl, rfl, h1, h2, q⟩ := h
  obtain ⟨t, rfl⟩ := rx
  obtain ⟨t', rfl⟩ := ry
  have e1 : (decide ((n : Int) < -(2 ^ 63 : Int)) || decide ((n : Int) ≥ 2 ^ 63)) = false := by
    have a : ¬ (n : Int) < -(2 ^ 63 : Int) := by omega
    have b : ¬ (n : Int) ≥ 2 ^ 63 := by omega
    rw [decide_eq_false a, decide_eq_false b]; rfl
  have hm : a.length * n ≤ 10000 * 1000 := Nat.mul_le_mul h1 h2
  refine PySem.P.mul_str e1 (fun h3 _ => ?_) (fun _ _ => ?_) ?_
  · have : (a.length : Int) ≤ (2 ^ 63 - 1) / n := by
      rw [Int.le_ediv_iff_mul_le (by omega)]
      have : ((a.length * n : Nat) : Int) ≤ 10000 * 1000 := by exact_mod_cast hm
      rw [Int.natCast_mul] at this
      omega
    omega
  · have : a.length * (n : Int).toNat ≤ sizeLine := Nat.le_trans (show a.length * (n : Int).toNat ≤ 10000 * 1000 from hm) (by decide)
    show decide (a.length * (n : Int).toNat > sizeLine) = false
    simp only [decide_eq_false_iff_not]
    omega
  · by_cases n0 : (n : Int) < 1
    · rw [if_pos n0]
      have : n = 0 := by omega
      subst this
      exact ⟨by decide, .str _, H, I.tok _, ⟨_, rfl⟩, q⟩
    · rw [if_neg n0]
      by_cases c : ((n : Int) == 1 || a.length == 0) = true
      · rw [if_pos c]
        have e : repSt n a = a := by
          simp only [Bool.or_eq_true, beq_iff_eq] at c
          rcases c with c | c
          · have : n = 1 := by omega
            rw [this]; exact repSt_one a
          · have : a.cps = #[] := Array.eq_empty_of_size_eq_zero c
            obtain ⟨a⟩ := a
            have this : a = #[] := this
            subst this
            show (⟨(repT n []).toArray⟩ : Str) = _
            rw [repT_nil]
        rw [e] at q
        exact ⟨.str a, H, I, ⟨_, rfl⟩, q⟩
      · rw [if_neg c]
        have e2 : (⟨(List.replicate (n : Int).toNat a.cps).foldl (· ++ ·) #[]⟩ : Str) = repSt n a := by
          unfold repSt
          congr 1
          apply Array.ext'
          rw [rep_foldT]
          simp
        rw [e2]
        refine ⟨?_, .str _, H, I.tok _, ⟨_, rfl⟩, q⟩
        show (repT n a.cps.toList).toArray.size ≤ _
        rw [List.size_toArray, repT_len]
        have : n * a.cps.toList.length ≤ 1000 * 10000 := Nat.mul_le_mul h2 (by rw [Array.length_toList]; exact h1)
        exact Nat.le_trans this (by decide)
theorem ew_mulT (h : EW K cs W ta G (fun x => ∃ a, x = .str a ∧ EW K cs W tb G (fun y => ∃ n : Nat, y = .int n ∧ a.length ≤ 10000 ∧ n ≤ 1000 ∧ φ (.str (repSt n a))) ε) ε) : EW K cs W (tOp rMulT ta tb) G φ ε :=
  ew_op (ew_mono h fun x ⟨a, e, h⟩ => ew_mono h fun y ⟨n, e2, h1, h2, p⟩ => fun Wd B ad H0 H σ v w S d1 d2 Q q => by
    subst e; subst e2
    cases d1; cases d2
    exact ⟨a, n, rfl, rfl, h1, h2, q _ p _ H S Xb.refl (.str _)⟩)
theorem no_O {P : PrO} {vs : List V} {H : Hp} {Q : VK} {E : XK} (n : ∀ es O A, P es O A → False) (h : spO K cs P vs H Q E) : False := by obtain ⟨_, _, _, _, _, _, h, _⟩ := h; exact n _ _ _ h
end
end U.N

end
namespace U.N
open PySem PyProof.Rows L2 Evl
section
local macro_rules | `(tactic| walk_at "sd") => `(tactic| first | with_reducible assumption | omega | rfl | decide | assumption | exact Gd.mono (by assumption) (by first | decide | omega) | (simp only [List.length_map, List.length_append, List.length_cons, List.length_nil]; omega) | (simp; done))
local macro_rules | `(tactic| walk_at "ca") => `(tactic| first
  | ((with_reducible apply c_pull); (case h0 => walk_at "sd"); (case h1 => walk_at "sd"); intro _ _ _)
  | ((with_reducible apply c_map); (case h1 => walk_at "sd"); (case h2 => walk_at "sd"); (case l1 => walk_at "sd"); (case l2 => walk_at "sd"); intro _ _))
local macro_rules | `(tactic| walk_at "s1") => `(tactic| first
  | ((with_reducible apply x_all); (case h => exact allB_map))
  | ((with_reducible apply x_any); (case h => exact anyB_map))
  | ((with_reducible apply x_sum); (case h => exact sumI_map))
  | ((with_reducible apply ew_glob); (case h => assumption))
  | ((with_reducible apply sw_app); (case hi => rfl); (case hl => walk_at "sd"))
  | ((with_reducible apply cw_elt); (case hm => walk_at "sd"))
  | ((with_reducible apply sw_clear); (case hi => rfl))
  | ((with_reducible apply x1_rng); (case hb => walk_at "sd"))
  | ((with_reducible apply x2_rng); (case hb => walk_at "sd"); (case hc => walk_at "sd"))
  | ((with_reducible apply ew_var); (case h => rfl))
  | ((with_reducible apply ew_lenO); (case hi => rfl))
  | ((with_reducible apply ew_tupO); (case hi => rfl))
  | ((with_reducible apply ew_callB); (case hi => rfl))
  | ((with_reducible apply ew_callWB); (case hi => rfl))
  | ((with_reducible apply at0); (case h => rfl))
  | ((with_reducible apply at1); (case h => rfl))
  | ((with_reducible apply xi_it); (case h => rfl))
  | ((with_reducible apply x1_it); (case h => rfl))
  | with_reducible refine ew_int ?_
  | with_reducible refine ew_bl ?_
  | with_reducible refine ew_str ?_
  | with_reducible refine ew_non ?_
  | with_reducible refine ew_tup1 ?_
  | with_reducible refine ew_tup2 ?_
  | with_reducible refine ew_tup3 ?_
  | with_reducible refine ew_tup ?_
  | with_reducible refine ew_lst0 ?_
  | with_reducible refine ew_lst1 ?_
  | with_reducible refine ew_lst2 ?_
  | with_reducible refine ew_lst ?_
  | with_reducible refine ew_add ?_
  | with_reducible refine ew_sub ?_
  | with_reducible refine ew_mul ?_
  | with_reducible refine ew_mod ?_
  | with_reducible refine ew_pow ?_
  | with_reducible refine ew_lt ?_
  | with_reducible refine ew_gt ?_
  | with_reducible refine ew_neg ?_
  | with_reducible refine ew_eq ?_
  | with_reducible refine ew_ne ?_
  | with_reducible refine ew_isNo ?_
  | with_reducible refine ew_noNo ?_
  | with_reducible refine ew_leLe ?_
  | with_reducible refine tw_test ?_
  | with_reducible refine tw_B ?_
  | with_reducible refine tw_yes ?_
  | with_reducible refine tw_not ?_
  | with_reducible refine tw_and ?_
  | with_reducible refine tw_or ?_
  | with_reducible refine ew_andV ?_
  | with_reducible refine ew_if ?_
  | with_reducible refine aw_nil ?_
  | with_reducible refine aw_cons ?_
  | with_reducible refine ew_cP ?_
  | with_reducible refine ew_c0 ?_
  | with_reducible refine ew_cW ?_
  | with_reducible refine ew_min ?_
  | with_reducible refine ew_intB ?_
  | with_reducible refine ew_len ?_
  | with_reducible refine ew_list ?_
  | with_reducible refine ew_all ?_
  | with_reducible refine ew_isi ?_
  | with_reducible refine ow_none ?_
  | with_reducible refine ow_some ?_
  | with_reducible refine ew_slL ?_
  | with_reducible refine ew_slA ?_
  | with_reducible refine ew_catL ?_
  | with_reducible refine ew_lc ?_
  | with_reducible refine ew_inS ?_
  | with_reducible refine iw_list ?_
  | with_reducible refine iw_tup ?_
  | with_reducible refine iw_rng1 ?_
  | with_reducible refine sq_nx ?_
  | with_reducible refine sq_rt ?_
  | with_reducible refine lp_nx ?_
  | with_reducible refine sw_next ?_
  | with_reducible refine sw_if ?_
  | with_reducible refine sw_ret ?_
  | with_reducible refine sw_for ?_
  | with_reducible refine sw_try ?_
  | with_reducible refine gsw_nil ?_
  | with_reducible refine gsw_cons ?_
  | with_reducible refine rE_ok ?_
  | with_reducible refine xi_int ?_
  | with_reducible refine xi_bool ?_
  | with_reducible refine xi_str ?_
  | with_reducible refine xi_tup ?_
  | with_reducible refine xi_list ?_
  | with_reducible refine x1_int ?_
  | with_reducible refine x1_bool ?_
  | with_reducible refine x2_int ?_
  | with_reducible refine sc_int ?_
  | with_reducible refine sc_str ?_
  | with_reducible refine x_ol ?_
  | with_reducible refine x_nx ?_
  | with_reducible refine ew_lenS ?_
  | with_reducible refine ew_intS ?_
  | with_reducible refine ew_strI ?_
  | with_reducible refine ew_addStr ?_
  | with_reducible refine ew_inSg ?_
  | with_reducible refine ew_ixS ?_
  | with_reducible refine ew_slS ?_
  | with_reducible refine iw_str ?_
  | with_reducible refine ew_partS ?_
  | with_reducible refine ew_joinS ?_
  | with_reducible refine ew_inT ?_
  | with_reducible refine iw_enumS ?_
  | with_reducible refine ew_mulT ?_
  | with_reducible refine ew_ix ?_
  | with_reducible refine ew_callNW ?_
  | with_reducible refine ew_callN ?_
  | with_reducible refine ew_callN0 ?_
  | with_reducible refine gw_name ?_
  | ((with_reducible refine gc_name ?wa ?_); (case wa => simp))
  | ((with_reducible refine gc_tup ?wa ?_); (case wa => rfl))
  | ((with_reducible refine gw_tup ?wa ?_); (case wa => rfl))
  | with_reducible refine cnd_t ?_
  | with_reducible refine cnd_f ?_
  | with_reducible refine cnd_nt ?_
  | with_reducible refine cnd_nf ?_
  | walk_at "ca"
  | ((with_reducible apply zip_f); (case hx => rfl); (case hy => rfl))
  | ((with_reducible apply zip_t); (case hx => rfl); (case hy => rfl); (case hl => walk_at "sd"))
  | with_reducible refine sw_asg ?_
  | ((with_reducible apply sw_dset); (case hi => rfl))
  | ((with_reducible apply sw_setI); (case hi => rfl))
  | with_reducible refine sw_asgT ?_
  | refine gsw_cons ?_
  | refine gsc_cons ?_
  | refine gsw_nil ?_
  | refine gsc_nil ?_
  | with_reducible exact trivial)
local macro_rules | `(tactic| walk_at "w1") => `(tactic| first | walk_at "s1" | with_reducible refine sw_seqA ?_ | with_reducible refine sw_seqD ?_ | with_reducible refine sw_seqF ?_ | with_reducible refine sw_seqP ?_ | with_reducible refine sw_seqG ?_ | with_reducible refine sw_seqW ?_)
local macro_rules | `(tactic| walk_at "s") => `(tactic| repeat walk_at "s1")
local macro_rules | `(tactic| walk_at "ef") => `(tactic| first
  | with_reducible refine ef_lst0 ?_
  | with_reducible refine ef_lst1 ?_
  | with_reducible refine ef_lst2 ?_
  | with_reducible refine ef_lst ?_
  | with_reducible refine ef_lc ?_
  | with_reducible refine ef_list ?_
  | with_reducible refine ef_slL ?_
  | with_reducible refine ef_catL ?_)
local macro_rules | `(tactic| walk_at "wi") => `(tactic| repeat (first | walk_at "w1" | with_reducible refine sw_seq ?_))
local macro_rules | `(tactic| walk_at "w") => `(tactic| repeat walk_at "w1")
section
open PySem PyProof.Rows L2 Evl

section
variable {K : Fg} {cs : Cs} {gs : Gs} {φ : PyData → Prop} {A : Rs → Prop} {ε : Xw → Prop} {w : World}
/-! ### spots in order -/
-- slots of common_below: 0 spots, 1 found, 2 spot, 3 above, 4 below
theorem c_gcd {a b : Int} (h : φ (.int (gI a b))) : ∃ r, P_gcd [.int a, .int b] r ∧ φ r := ⟨_, ⟨a, b, rfl, rfl⟩, h⟩
-- slots of whole_row: 0 spot, 1 common, 2 above, 3 below
-- slots of rising: 0 spots, 1 common, 2 by_worth, 3 spot, 4 key
/-! what a dict by a comprehension holds -/
section
variable {κ β γ : Type} [DecidableEq κ]
end
end


end
section
open PySem PyProof.Rows L2 Evl

section
variable {K : Fg} {cs : Cs} {gs : Gs} {φ : PyData → Prop} {A : Rs → Prop} {ε : Xw → Prop} {w : World}
/-! ### the law's own order -/
-- slots of _law_below: 0 _law_spots_here, 1 _law_found, 2 _law_spot_here, 3 _law_one
-- slots of _law_key: 0 _law_spots_here, 1 _law_below_here, 2 _law_found, 3 _law_spot_here, 4 _law_one
-- slots of _law_rising: 0 _law_spots_here, 1 _law_below_here, 2 _law_keys, 3 _law_found, 4 _law_key_here, 5 _law_spot_here, 6 _law_one
end


end
section
open PySem PyProof.Rows L2 Evl U.Hull

section
variable {K : Fg} {cs : Cs} {gs : Gs} {φ : PyData → Prop} {A : Rs → Prop} {ε : Xw → Prop} {w : World}
/-! ### corners round -/
-- slots of hull_side: 0 spots, 1 found, 2 spot
end


end
section
open PySem PyProof.Rows L2 Evl U.Hull

section
variable {K : Fg} {cs : Cs} {gs : Gs} {φ : PyData → Prop} {A : Rs → Prop} {ε : Xw → Prop} {w : World}
/-- spots of one room, of bounded numbers and bounded many -/
structure SpR (a r : Nat) (ss : List Spot) : Prop where
  hr : r = 1 ∨ r = 2
  gd : ∀ s ∈ ss, Gds a s ∧ s.length = r
  ne : ss ≠ []
  ha : a ≤ 900
  hl : ss.length ≤ 10000
  hb : ∃ N, N ≤ 6900 ∧ CbB a N ss
-- slots of corners_round: 0 spots, 1 row, 2 below, 3 above
end


end
section
open PySem PyProof.Rows L2 Evl U.Hull

section
variable {K : Fg} {cs : Cs} {gs : Gs} {φ : PyData → Prop} {A : Rs → Prop} {ε : Xw → Prop} {w : World}
/-! ### the law's own body -/
noncomputable instance (h r q : Pt) : Decidable (Btw h r q) := by unfold Btw; exact inferInstance
-- slots of _law_between: 0 _law_one, 1 _law_two, 2 _law_spot_here, 3 _law_at
/-! what follows a corner -/
noncomputable instance (P : List Pt) (h q : Pt) : Decidable (Nx P h q) := by unfold Nx; exact inferInstance
-- slots of _law_next: 0 _law_row, 1 _law_here, 2 _law_spot_here, 3 _law_one
end


end
section
open PySem PyProof.Rows L2 Evl U.Hull

section
variable {K : Fg} {cs : Cs} {gs : Gs} {φ : PyData → Prop} {A : Rs → Prop} {ε : Xw → Prop} {w : World}
-- slots of _law_body: 0 _law_spots_here, 1 _law_row, 2 _law_found, 3 _law_step, 4 _law_spot_here
end


end
section
open PySem PyProof.Rows L2 Evl U.Hull

section
variable {K : Fg} {cs : Cs} {gs : Gs} {φ : PyData → Prop} {A : Rs → Prop} {ε : Xw → Prop} {w : World}
/-! ### drawn rooms and spots -/
-- slots of _law_room: 0 _law_bag_here
/-- spots of a room -/
noncomputable def Sps (a r : Nat) (ss : List Spot) : Prop := ∀ s ∈ ss, Gds a s ∧ s.length = r
theorem atI_in {α : Type} {f : α → PyData} {xs : List α} {j : Int} (h0 : 0 ≤ j) (h1 : j < xs.length) : ∃ s ∈ xs, atI (xs.map f) j = some (f s) := by
  obtain ⟨k, rfl⟩ := Int.eq_ofNat_of_zero_le h0
  have hk : k < xs.length := by omega
  exact ⟨xs[k], List.getElem_mem _, atI_nat (by rw [List.getElem?_map, List.getElem?_eq_getElem hk]; rfl)⟩
-- slots of _law_spots: 0 _law_bag_here, 1 _law_rank, 2 _law_limit, 3 _law_many, 4 _law_found, 5 _law_kind, 6 _law_one, 7 _law_two, 8 _law_at
-- slots of _law_wide_spots: 0 _law_bag_here, 1 _law_rank, 2 _law_limit, 3 _law_found, 4 _law_k, 5 _law_at
end


end
section
open PySem PyProof.Rows L2 Evl U.Hull

section
variable {K : Fg} {cs : Cs} {gs : Gs} {φ : PyData → Prop} {A : Rs → Prop} {ε : Xw → Prop} {w : World}
/-! ### sides, land -/
-- slots of sides_of: 0 body, 1 at, 2 corner
-- slots of size_of: 0 body
-- slots of land_of: 0 body, 1 found, 2 x, 3 y, 4 right, 5 up
end


end
section
open PySem PyProof.Rows L2 Evl U.Hull

section
variable {K : Fg} {cs : Cs} {gs : Gs} {φ : PyData → Prop} {A : Rs → Prop} {ε : Xw → Prop} {w : World}
-- slots of _law_three_land: 0 _law_one, 1 _law_two, 2 _law_three, 3 _law_first, 4 _law_second, 5 _law_third
/-! what is needed of bodies -/
end


end
section
open PySem PyProof.Rows L2 Evl U.Hull

section
variable {K : Fg} {cs : Cs} {gs : Gs} {φ : PyData → Prop} {A : Rs → Prop} {ε : Xw → Prop} {w : World}
/-! ### bodies in order, faces -/
noncomputable abbrev Body := List Spot
-- slots of in_order: 0 bodies, 1 common, 2 by_worth, 3 body, 4 key, 5 corner, 6 number
end


end
section
open PySem PyProof.Rows L2 Evl U.Hull

section
variable {K : Fg} {cs : Cs} {gs : Gs} {φ : PyData → Prop} {A : Rs → Prop} {ε : Xw → Prop} {w : World}
/-! ### == of data by a type -/
/-! ### keys with places, sorted -/
/-! ### the law's own order of bodies -/
noncomputable def bits (a : Nat) (bs : List Body) : Nat := (bs.map fun b => 1 + b.length * (2 * a)).sum
-- slots of _law_in_order: 0 _law_bodies, 1 _law_limit, 2 _law_body_here, 3 _law_keys, 4 _law_found, 5 _law_key_here, 6 _law_at
end


end
section
open PySem PyProof.Rows L2 Evl U.Hull

section
variable {K : Fg} {cs : Cs} {gs : Gs} {φ : PyData → Prop} {A : Rs → Prop} {ε : Xw → Prop} {w : World}
/-! ### faces -/
-- slots of faces: 0 body, 1 found, 2 corner, 3 side
end


end
section
open PySem PyProof.Rows L2 Evl U.Hull

section
variable {K : Fg} {cs : Cs} {gs : Gs} {φ : PyData → Prop} {A : Rs → Prop} {ε : Xw → Prop} {w : World} {W : WX}
/-! ### the body of some spots -/
-- slots of body_of: 0 spots, 1 room, 2 first, 3 rest, 4 spot
/-! ### lots -/
-- slots of is_small: 0 number, 1 limit
-- slots of bounded: 0 lot, 1 weight, 2 body, 3 corner, 4 one, 5 number
end


end
section
open PySem PyProof.Rows L2 Evl U.Hull

section
variable {K : Fg} {cs : Cs} {gs : Gs} {φ : PyData → Prop} {A : Rs → Prop} {ε : Xw → Prop} {w : World} {W : WX}
/-! ### weights gathered -/
-- slots of gathered: 0 rows, 1 room, 2 weights, 3 left, 4 weight, 5 body
end


end
section
open PySem PyProof.Rows L2 Evl U.Hull

section
variable {K : Fg} {cs : Cs} {gs : Gs} {φ : PyData → Prop} {A : Rs → Prop} {ε : Xw → Prop} {w : World} {W : WX}
-- slots of settled_lot: 0 rows, 1 room
/-! ### lots of rows of spots -/
/-- a row: its weight, its spots, told as a list or a tuple -/
structure RowS where
  w : Int
  t : Bool
  ss : List Spot
-- slots of lot_of: 0 rows, 1 room, 2 found, 3 row, 4 body
end


end
section
open PySem PyProof.Rows L2 Evl U.Hull

section
variable {K : Fg} {cs : Cs} {gs : Gs} {φ : PyData → Prop} {A : Rs → Prop} {ε : Xw → Prop} {w : World} {W : WX}
/-! ### the law's own lot -/
-- slots of _law_lot: 0 _law_rows_here, 1 _law_rank, 2 _law_bodies, 3 _law_weights, 4 _law_corners, 5 _law_body_here, 6 _law_below_here, 7 _law_keys, 8 _law_ranked, 9 _law_weight, 10 _law_spots_here, 11 _law_at, 12 _law_key_here
theorem ixN_nat {n j : Nat} (h : j < n) : ixN n (j : Int) = some j := by
  unfold ixN
  rw [if_pos (by omega), if_pos (by omega), Int.toNat_natCast]
end


end
section
open PySem PyProof.Rows L2 Evl U.Hull

section
variable {K : Fg} {cs : Cs} {gs : Gs} {φ : PyData → Prop} {A : Rs → Prop} {ε : Xw → Prop} {w : World} {W : WX}
/-! ### drawn rows -/
structure DrR (a r C : Nat) (rs : List RowS) : Prop where
  wl : ∀ p ∈ rs, -7 ≤ p.w ∧ p.w ≤ 7
  tf : ∀ p ∈ rs, p.t = false
  sp : ∀ p ∈ rs, Sps a r p.ss ∧ 1 ≤ p.ss.length ∧ p.ss.length ≤ C
-- slots of _law_rows: 0 _law_bag_here, 1 _law_rank, 2 _law_limit, 3 _law_corners, 4 _law_found, 5 _law_at, 6 _law_weight, 7 _law_row
end


end
section
open PySem PyProof.Rows L2 Evl U.Hull

section
variable {K : Fg} {cs : Cs} {gs : Gs} {φ : PyData → Prop} {A : Rs → Prop} {ε : Xw → Prop} {w : World} {W : WX}
/-! ### lots in plain -/
/-! ### two lots -/
-- slots of same_room: 0 one, 1 other
-- slots of added: 0 one, 1 other
-- slots of scaled: 0 lot, 1 number, 2 weight, 3 body
-- slots of told23: 0 _law_one, 1 _law_other, 2 why
/-! ### drawn lots -/
end


end
section
open PySem PyProof.Rows L2 Evl U.Hull

section
variable {K : Fg} {cs : Cs} {gs : Gs} {φ : PyData → Prop} {A : Rs → Prop} {ε : Xw → Prop} {w : World} {W : WX}
/-! ### texts as rows of signs -/
noncomputable abbrev tx (l : List Nat) : Str := ⟨l.toArray⟩
theorem tx_of (z : Str) : z = tx (TL.tl z) := (TL.mk_tl z).symm
theorem tx_len (l : List Nat) : (tx l).length = l.length := by show l.toArray.size = _; simp
theorem tx_eq {l m : List Nat} : tx l = tx m ↔ l = m := ⟨fun h => congrArg TL.tl h, fun h => by rw [h]⟩
theorem tx_app (l m : List Nat) : tx l ++ tx m = tx (l ++ m) := TL.ext_tl (by rw [TL.tl_append])
theorem tx_minus : ("-" : Str) = tx [45] := TL.ext_tl (by rw [TL.tl_ofString] <;> rfl)
theorem tx_stroke : ("/" : Str) = tx [47] := TL.ext_tl (by rw [TL.tl_ofString] <;> rfl)
theorem tx_zero : ("0" : Str) = tx [48] := TL.ext_tl (by rw [TL.tl_ofString] <;> rfl)
theorem tx_none : ("" : Str) = tx [] := TL.ext_tl (by rw [TL.tl_ofString] <;> rfl)
theorem tx_ten : TL.tl ("0123456789" : Str) = [48, 49, 50, 51, 52, 53, 54, 55, 56, 57] := by rw [TL.tl_ofString]; rfl
noncomputable def dgt (c : Nat) : Bool := decide (48 ≤ c ∧ c ≤ 57)
theorem in_ten (c : Nat) : decide (c ∈ ("0123456789" : Str).cps.toList) = dgt c := by
  rw [show ("0123456789" : Str).cps.toList = [48, 49, 50, 51, 52, 53, 54, 55, 56, 57] from tx_ten]
  unfold dgt
  congr 1
  apply propext
  simp only [List.mem_cons, List.not_mem_nil, or_false]
  omega
theorem cut_hd (l : List Nat) : cutS (tx l) none (some 1) = tx (l.take 1) := qt_of (by simp (disch := with_unfolding_all
  unfold cutS
  rw [show (some (1 : Int)) = some ((1 : Nat) : Int) from rfl, HT.sIx_none, HT.sIx_nat, tx_len]
  show tx ((l.drop 0).take (min 1 l.length - 0)) = _
  rw [List.drop_zero, tx_eq]
  rcases l with _ | ⟨a, l⟩
  · rfl
  · rw [show min 1 (a :: l).length - 0 = 1 by simp]
  ) only [↓qt_eq])
theorem cut_from {l : List Nat} {k : Nat} (h : k ≤ l.length) : cutS (tx l) (some (k : Int)) none = tx (l.drop k) := qt_of (by simp (disch := with_unfolding_all
  unfold cutS
  rw [HT.sIx_none, HT.sIx_nat, tx_len]
  show tx ((l.drop (min k l.length)).take (l.length - min k l.length)) = _
  rw [tx_eq, show min k l.length = k by omega, List.take_of_length_le (by rw [List.length_drop]; omega)]
  ) only [↓qt_eq])
theorem cut_tl (l : List Nat) : cutS (tx l) (some 1) none = tx (l.drop 1) := by
  rcases l with _ | ⟨a, l⟩
  · rfl
  · exact cut_from (k := 1) (by simp)
/-! ### whole numbers in figures -/
noncomputable def optI : Option Int → PyData
  | none => .none
  | some n => .int n
noncomputable def figsL (l : List Nat) (m : Int) : Option Int := if 1 ≤ l.length ∧ (l.length : Int) ≤ m ∧ l.all dgt = true ∧ ¬ (l.head? = some 48 ∧ 1 < l.length) then some (NumText.digitsVal l : Nat) else none
theorem intText_of {l : List Nat} (h1 : 1 ≤ l.length) (h2 : l.length ≤ 640) (h3 : l.all dgt = true) : PySem.intText? (tx l) = some ((NumText.digitsVal l : Nat) : Int) := qt_of (by simp (disch := with_unfolding_all
  refine intText_digits (x := tx l) (fun c hc => ?_) (fun z => ?_) (by rw [tx_len]; omega)
  · have := List.all_eq_true.mp h3 c hc
    unfold dgt at this
    exact of_decide_eq_true this
  · have : l = [] := z
    rw [this] at h1
    simp at h1
  ) only [↓qt_eq])
noncomputable def P_figures : Pr := fun ds A => ∃ (l : List Nat) (m : Int), ds = [.str (tx l), .int m] ∧ l.length ≤ 100000 ∧ m ≤ 640 ∧ A (.ok (optI (figsL l m)))
noncomputable def t_figures_of (K : Fg) : TS := (tSeq (tIfS (tOr (tNot (tTest (tChain rLeI rLeI (tC (V.int 1)) (tCB rLenS (tCons (tVar 0) tNil)) (tVar 1)))) (tNot (tB (tCB (rAll K) (tCons (tLc (iStr (tVar 0)) (gName 2) tYes (tOp rInSg (tVar 2) (tC (V.str "0123456789"))) [2]) tNil))))) (tRet (tC V.non)) tNext)
  (tSeq (tIfS (tAnd (tTest (tOp rEq (tOp rIxS (tVar 0) (tC (V.int 0))) (tC (V.str "0")))) (tTest (tOp rGtI (tCB rLenS (tCons (tVar 0) tNil)) (tC (V.int 1))))) (tRet (tC V.non)) tNext)
  (tRet (tCB rIntS (tCons (tVar 0) tNil)))))
-- slots of figures_of: 0 text, 1 most, 2 sign
theorem ln_figures_of : ∀ ds A, P_figures ds A → ds.length = 2 := fun ds A h => by obtain ⟨_, _, rfl, _⟩ := h; rfl
theorem atI_zero {l : List Nat} (h : 1 ≤ l.length) : ∃ c, atI l 0 = some c ∧ l.head? = some c := by
  rcases l with _ | ⟨a, l⟩
  · simp at h
  · refine ⟨a, ?_, rfl⟩
    have : ixN (a :: l).length 0 = some 0 := by unfold ixN; rw [if_pos (by decide)]; simp
    unfold atI
    rw [this]
    rfl
theorem one_zero (c : Nat) : (⟨#[c]⟩ : Str) = "0" ↔ c = 48 := by
  rw [tx_zero]
  exact ⟨fun h => by have := congrArg TL.tl h; simpa using this, fun h => by rw [h]⟩
theorem rd_figures_of {ds A} (h : P_figures ds A) : SW K cs W0 (t_figures_of K) (frame 3 ds) (rts0 A) := qt_of (by simp (disch := with_unfolding_all
  obtain ⟨l, m, rfl, hl, hm, q⟩ := h
  have hz : (tx l).length ≤ sizeLine := by rw [tx_len]; exact Nat.le_trans hl (by decide)
  unfold t_figures_of
  refine sw_seq ?_
  walk_at "s"
  refine ⟨tx l, rfl, hz, ?_⟩
  rw [tx_len]
  walk_at "s"
  have none_ : figsL l m = none → A (.ok .none) := fun e => by rw [e] at q; exact q
  refine cnd_d (fun h1 => ?_) (fun h1 => ?_)
  rotate_left
  · refine ⟨_, rfl, cnd_nf (cnd_t ?_)⟩
    walk_at "s"
    exact none_ (if_neg fun z => h1 (by have := z.1; omega))
  walk_at "s"
  refine cnd_nd (fun h2 => cnd_t ?_) (fun h2 => ?_)
  · walk_at "s"
    exact none_ (if_neg fun z => h2 z.2.1)
  walk_at "s"
  refine lcM (f := sg) (fun c => .bool (dgt c)) (by show l.length ≤ _; omega) (unk1 rfl) (fun c _ => ?_) ?_
  · walk_at "s"
    refine ⟨c, rfl, ?_⟩
    walk_at "s"
    rw [in_ten]
  walk_at "s"
  cases hA : l.all dgt with
  | false =>
    refine cnd_T rfl ?_
    walk_at "s"
    exact none_ (if_neg fun z => by rw [hA] at z; simp at z)
  | true =>
  refine cnd_F rfl ?_
  walk_at "s"
  refine sw_seq ?_
  obtain ⟨c, c1, c2⟩ := atI_zero (l := l) (by omega)
  walk_at "s"
  refine ⟨hz, ?_⟩
  walk_at "s"
  refine ⟨0, c, rfl, c1, ?_⟩
  walk_at "s"
  have fin : ¬ (c = 48 ∧ 1 < l.length) → ∃ z n, [PyData.str (tx l)] = [PyData.str z] ∧ intText? z = some n ∧ z.length ≤ 640 ∧ rts0 A (Out.rt (PyData.int n)) := fun hn => by
    refine ⟨tx l, _, rfl, intText_of (by omega) (by omega) hA, by rw [tx_len]; omega, ?_⟩
    have e : figsL l m = some ((NumText.digitsVal l : Nat) : Int) := if_pos ⟨by omega, h2, hA, fun z => hn ⟨by have := c2.symm.trans z.1; cases this; rfl, z.2⟩⟩
    rw [e] at q
    exact q
  refine cnd_d (fun h3 => ?_) (fun h3 => cnd_f ?_)
  · walk_at "s"
    refine ⟨tx l, rfl, hz, ?_⟩
    rw [tx_len]
    walk_at "s"
    refine cnd_d (fun h4 => ?_) (fun h4 => ?_)
    · walk_at "s"
      exact none_ (if_neg fun z => z.2.2.2 ⟨by rw [c2, (one_zero c).mp h3], by omega⟩)
    · walk_at "w"
      exact fin fun z => h4 (by omega)
  · walk_at "w"
    exact fin fun z => h3 ((one_zero c).mpr z.1)
  ) only [↓qt_eq])
/-! ### a whole number with its sign -/
noncomputable def negW : Option Int → Option Int
  | some n => if n = 0 then none else some (-n)
  | none => none
noncomputable def wholeL (l : List Nat) (m : Int) : Option Int := if l.head? = some 45 then negW (figsL (l.drop 1) m) else figsL l m
noncomputable def P_wholeIn : Pr := fun ds A => ∃ (l : List Nat) (m : Int), ds = [.str (tx l), .int m] ∧ l.length ≤ 100000 ∧ m ≤ 640 ∧ A (.ok (optI (wholeL l m)))
noncomputable def t_whole_in (K : Fg) : TS := (tSeq (tIfS (tTest (tOp rNe (tSl rSlS (tVar 0) tNoPart (tPart (tC (V.int 1)))) (tC (V.str "-")))) (tRet (tCall (spW0 K P_figures) [] E0 (tCons (tVar 0) (tCons (tVar 1) tNil)))) tNext)
  (tSeq (tAsg (tCall (spW0 K P_figures) [] E0 (tCons (tSl rSlS (tVar 0) (tPart (tC (V.int 1))) tNoPart) (tCons (tVar 1) tNil))) (gName 2))
  (tRet (tIf (tOr (tTest (tOp rIsNo (tVar 2) (tC V.non))) (tTest (tOp rEq (tVar 2) (tC (V.int 0))))) (tC V.non) (tUn rNegI (tVar 2))))))
-- slots of whole_in: 0 text, 1 most, 2 found
theorem ln_whole_in : ∀ ds A, P_wholeIn ds A → ds.length = 2 := fun ds A h => by obtain ⟨_, _, rfl, _⟩ := h; rfl
theorem hd_minus (l : List Nat) : tx (l.take 1) = "-" ↔ l.head? = some 45 := by
  rw [tx_minus, tx_eq]
  rcases l with _ | ⟨a, l⟩ <;> simp
theorem rd_whole_in {ds A} (h : P_wholeIn ds A) : SW K cs W0 (t_whole_in K) (frame 3 ds) (rts0 A) := qt_of (by simp (disch := with_unfolding_all
  obtain ⟨l, m, rfl, hl, hm, q⟩ := h
  have hz : (tx l).length ≤ sizeLine := by rw [tx_len]; exact Nat.le_trans hl (by decide)
  unfold t_whole_in
  refine sw_seq ?_
  walk_at "s"
  refine ⟨hz, ?_⟩
  walk_at "s"
  rw [cut_hd]
  refine cnd_nd (fun h => ?_) (fun h => ?_)
  · walk_at "s"
    refine ⟨l, m, rfl, hl, hm, ?_⟩
    walk_at "s"
    have e : wholeL l m = figsL l m := if_neg fun z => h ((hd_minus l).mpr z)
    rw [e] at q
    exact q
  · walk_at "w"
    refine ⟨hz, ?_⟩
    walk_at "w"
    rw [cut_tl]
    refine ⟨l.drop 1, m, rfl, by rw [List.length_drop]; omega, hm, ?_⟩
    walk_at "w"
    have e : wholeL l m = negW (figsL (l.drop 1) m) := if_pos ((hd_minus l).mp h)
    rw [e] at q
    cases hf : figsL (l.drop 1) m with
    | none =>
      rw [hf] at q
      refine cnd_t ?_
      walk_at "s"
      exact q
    | some n =>
      rw [hf] at q
      have q : A (.ok (optI (if n = 0 then none else some (-n)))) := q
      refine cnd_f ?_
      rw [show optI (some n) = PyData.int n from rfl]
      walk_at "s"
      refine cnd_d (fun h0 => ?_) (fun h0 => ?_)
      · walk_at "s"
        rw [if_pos h0] at q
        exact q
      · walk_at "s"
        rw [if_neg h0] at q
        exact q
  ) only [↓qt_eq])
/-! ### a fraction -/
noncomputable def bef : List Nat → List Nat
  | [] => []
  | c :: l => if c = 47 then [] else c :: bef l
noncomputable def aft : List Nat → List Nat
  | [] => []
  | c :: l => if c = 47 then l else aft l
theorem bef_no : ∀ l : List Nat, 47 ∉ bef l
  | [], h => by cases h
  | c :: l, h => by
    unfold bef at h
    split at h
    · cases h
    · rcases List.mem_cons.mp h with h | h
      · omega
      · exact bef_no l h
theorem bef_all : ∀ {l : List Nat}, 47 ∉ l → bef l = l
  | [], _ => rfl
  | c :: l, h => by
    unfold bef
    rw [if_neg (fun z => h (by rw [z]; exact List.mem_cons_self)), bef_all fun z => h (List.mem_cons_of_mem _ z)]
theorem bef_aft : ∀ {l : List Nat}, 47 ∈ l → l = bef l ++ 47 :: aft l
  | [], h => by cases h
  | c :: l, h => by
    unfold bef aft
    by_cases e : c = 47
    · rw [if_pos e, if_pos e, e]; rfl
    · rw [if_neg e, if_neg e]
      have h : 47 ∈ l := (List.mem_cons.mp h).resolve_left fun z => e z.symm
      show c :: l = c :: (bef l ++ 47 :: aft l)
      rw [← bef_aft h]
theorem bef_len : ∀ l : List Nat, (bef l).length ≤ l.length
  | [] => Nat.le_refl _
  | c :: l => by
    unfold bef
    have := bef_len l
    split <;> simp <;> omega
theorem aft_len : ∀ l : List Nat, (aft l).length ≤ l.length
  | [] => Nat.le_refl _
  | c :: l => by
    unfold aft
    have := aft_len l
    split <;> simp <;> omega
theorem part_yes {l : List Nat} (h : 47 ∈ l) : Txt.partition (tx l) "/" = (tx (bef l), ("/" : Str), tx (aft l)) := qt_of (by simp (disch := with_unfolding_all
  have e : tx l = tx (bef l) ++ "/" ++ tx (aft l) := by
    rw [tx_stroke, tx_app, tx_app, tx_eq, List.append_assoc]
    exact bef_aft h
  rw [e]
  exact TL.partition_app (s := 47) (S := []) (by rw [tx_stroke]) (bef_no l)
  ) only [↓qt_eq])
theorem part_not {l : List Nat} (h : 47 ∉ l) : Txt.partition (tx l) "/" = (tx l, ("" : Str), ("" : Str)) :=
  TL.partition_none (y := "/") (s := 47) (S := []) (by rw [tx_stroke]) h
noncomputable def lowP (b : Bool) (u v : Int) : Option (Int × Int) := if (b = true ∧ v < 2) ∨ gI u v ≠ 1 then none else some (u, v)
noncomputable def partL (l : List Nat) (m : Int) : Option (Int × Int) :=
  match wholeL (bef l) m, (if 47 ∈ l then figsL (aft l) m else some 1) with
  | some u, some v => lowP (decide (47 ∈ l)) u v
  | _, _ => none
noncomputable def optP : Option (Int × Int) → PyData
  | none => .none
  | some p => fr p
noncomputable def P_partIn : Pr := fun ds A => ∃ (l : List Nat) (m : Int), ds = [.str (tx l), .int m] ∧ l.length ≤ 100000 ∧ m ≤ 640 ∧ A (.ok (optP (partL l m)))
noncomputable def t_part_in (K : Fg) : TS := (tSeq (tAsg (tM1 rPart (tVar 0) (tC (V.str "/"))) (gTup K 3 (gCons (gName 4) (gCons (gName 5) (gCons (gName 6) gNil)))))
  (tSeq (tAsg (tCallN 1 1 (spW0 K P_wholeIn) (fun vs zs => vs ++ zs) E0 (tCons (tVar 4) tNil) (tCons (tVar 1) tNil)) (gName 2))
  (tSeq (tAsg (tIf (tTest (tOp rEq (tVar 5) (tC (V.str "")))) (tC (V.int 1)) (tCall (spW0 K P_figures) [] E0 (tCons (tVar 6) (tCons (tVar 1) tNil)))) (gName 3))
  (tSeq (tIfS (tOr (tTest (tOp rIsNo (tVar 2) (tC V.non))) (tTest (tOp rIsNo (tVar 3) (tC V.non)))) (tRet (tC V.non)) tNext)
  (tSeq (tIfS (tOr (tAnd (tTest (tOp rNe (tVar 5) (tC (V.str "")))) (tTest (tOp rLtI (tVar 3) (tC (V.int 2))))) (tTest (tOp rNe (tCall (spP K P_gcd) [] E0 (tCons (tVar 2) (tCons (tVar 3) tNil))) (tC (V.int 1))))) (tRet (tC V.non)) tNext)
  (tRet (tTup (tCons (tVar 2) (tCons (tVar 3) tNil)))))))))
-- slots of part_in: 0 text, 1 most, 2 above, 3 below, 4 first, 5 stroke, 6 second
theorem ln_part_in : ∀ ds A, P_partIn ds A → ds.length = 2 := fun ds A h => by obtain ⟨_, _, rfl, _⟩ := h; rfl
theorem stroke_no : ¬ ("/" : Str) = "" := by rw [tx_stroke, tx_none, tx_eq]; simp
noncomputable def t_partTail (K : Fg) : TS := (tSeq (tIfS (tOr (tTest (tOp rIsNo (tVar 2) (tC V.non))) (tTest (tOp rIsNo (tVar 3) (tC V.non)))) (tRet (tC V.non)) tNext)
  (tSeq (tIfS (tOr (tAnd (tTest (tOp rNe (tVar 5) (tC (V.str "")))) (tTest (tOp rLtI (tVar 3) (tC (V.int 2))))) (tTest (tOp rNe (tCall (spP K P_gcd) [] E0 (tCons (tVar 2) (tCons (tVar 3) tNil))) (tC (V.int 1))))) (tRet (tC V.non)) tNext)
  (tRet (tTup (tCons (tVar 2) (tCons (tVar 3) tNil))))))
noncomputable def bothP (b : Bool) : Option Int → Option Int → Option (Int × Int)
  | some u, some v => lowP b u v
  | _, _ => none
theorem rd_partTail {x y : Option Int} {st : Str} {b : Bool} {e0 e1 e4 e6 : En} (hb : st = "" ↔ b = false) (q : A (.ok (optP (bothP b x y)))) : SW K cs W0 (t_partTail K) [e0, e1, .d (optI x), .d (optI y), e4, .d (.str st), e6] (rts0 A) := qt_of (by simp (disch := with_unfolding_all
  unfold t_partTail
  refine sw_seq ?_
  cases x with
  | none =>
    walk_at "s"
    refine cnd_t ?_
    walk_at "s"
    exact q
  | some u =>
  rw [show optI (some u) = PyData.int u from rfl]
  walk_at "s"
  refine cnd_f ?_
  cases y with
  | none =>
    walk_at "s"
    refine cnd_t ?_
    walk_at "s"
    exact q
  | some v =>
  rw [show optI (some v) = PyData.int v from rfl]
  have q : A (.ok (optP (if (b = true ∧ v < 2) ∨ gI u v ≠ 1 then none else some (u, v)))) := q
  walk_at "s"
  refine cnd_f ?_
  walk_at "w"
  refine sw_seq ?_
  walk_at "s"
  cases b with
  | false =>
    refine cnd_nd (fun z => absurd (hb.mpr rfl) z) (fun _ => cnd_f ?_)
    walk_at "s"
    refine c_gcd ?_
    walk_at "s"
    refine cnd_nd (fun h1 => ?_) (fun h1 => ?_)
    · walk_at "s"
      rw [if_pos (.inr h1)] at q
      exact q
    · walk_at "s"
      rw [if_neg (fun z => z.elim (fun z => by cases z.1) (fun z => z h1))] at q
      exact q
  | true =>
    refine cnd_nd (fun _ => ?_) (fun z => by have := hb.mp z; cases this)
    walk_at "s"
    refine cnd_d (fun h2 => cnd_t ?_) (fun h2 => ?_)
    · walk_at "s"
      rw [if_pos (.inl ⟨rfl, h2⟩)] at q
      exact q
    walk_at "s"
    refine c_gcd ?_
    walk_at "s"
    refine cnd_nd (fun h1 => ?_) (fun h1 => ?_)
    · walk_at "s"
      rw [if_pos (.inr h1)] at q
      exact q
    · walk_at "s"
      rw [if_neg (fun z => z.elim (fun z => h2 z.2) (fun z => z h1))] at q
      exact q
  ) only [↓qt_eq])
theorem rd_part_in {ds A} (h : P_partIn ds A) : SW K cs W0 (t_part_in K) (frame 7 ds) (rts0 A) := qt_of (by simp (disch := with_unfolding_all
  obtain ⟨l, m, rfl, hl, hm, q⟩ := h
  have hz : (tx l).length ≤ sizeLine := by rw [tx_len]; exact Nat.le_trans hl (by decide)
  have hb := bef_len l
  have ha := aft_len l
  unfold t_part_in
  walk_at "w"
  refine ⟨by rw [tx_stroke]; rfl, hz, ?_⟩
  by_cases h47 : 47 ∈ l
  · rw [part_yes h47]
    have ep : partL l m = bothP true (wholeL (bef l) m) (figsL (aft l) m) := by unfold partL; rw [if_pos h47, decide_eq_true h47]; cases wholeL (bef l) m <;> cases figsL (aft l) m <;> rfl
    walk_at "w"
    refine ⟨rfl, rfl, bef l, m, rfl, by omega, hm, ?_⟩
    walk_at "w"
    refine cnd_no stroke_no ?_
    walk_at "w"
    refine ⟨aft l, m, rfl, by omega, hm, ?_⟩
    walk_at "w"
    rw [ep] at q
    exact rd_partTail ⟨fun z => absurd z stroke_no, fun z => by cases z⟩ q
  · rw [part_not h47]
    have ep : partL l m = bothP false (wholeL l m) (some 1) := by unfold partL; rw [if_neg h47, decide_eq_false h47, bef_all h47]; cases wholeL l m <;> rfl
    walk_at "w"
    refine ⟨rfl, rfl, l, m, rfl, by omega, hm, ?_⟩
    walk_at "w"
    refine cnd_yes rfl ?_
    walk_at "w"
    rw [ep] at q
    exact rd_partTail ⟨fun z => rfl, fun z => rfl⟩ q
  ) only [↓qt_eq])
end


end
section
open PySem PyProof.Rows L2 Evl U.Hull

section
variable {K : Fg} {cs : Cs} {gs : Gs} {φ : PyData → Prop} {A : Rs → Prop} {ε : Xw → Prop} {w : World} {W : WX}
/-! ### read_part, by the program and by the law -/
-- slots of read_part: 0 text, 1 found
-- slots of _law_read: 0 _law_text, 1 why
end


end
section
open PySem PyProof.Rows L2 Evl U.Hull

section
variable {K : Fg} {cs : Cs} {gs : Gs} {φ : PyData → Prop} {A : Rs → Prop} {ε : Xw → Prop} {w : World} {W : WX}
/-! ### the first stroke, how many there are -/
/-! ### by the law -/
-- slots of _law_count: 0 _law_text, 1 _law_sign
end


end
section
open PySem PyProof.Rows L2 Evl U.Hull

section
variable {K : Fg} {cs : Cs} {gs : Gs} {φ : PyData → Prop} {A : Rs → Prop} {ε : Xw → Prop} {w : World} {W : WX}
/-! ### what is due by the law -/
-- slots of _law_due: 0 _law_text, 1 _law_at, 2 _law_first, 3 _law_below, 4 _law_signed, 5 _law_above
end


end
section
open PySem PyProof.Rows L2 Evl U.Hull

section
variable {K : Fg} {cs : Cs} {gs : Gs} {φ : PyData → Prop} {A : Rs → Prop} {ε : Xw → Prop} {w : World} {W : WX}
/-! ### how a fraction is written -/
noncomputable def intL (i : Int) : List Nat := if i < 0 then 45 :: TL.numL i.natAbs else TL.numL i.natAbs
theorem str_int (i : Int) : Str.ofString (toString i) = tx (intL i) := qt_of (by simp (disch := with_unfolding_all
  refine TL.ext_tl ?_
  show _ = intL i
  unfold intL
  by_cases h : i < 0
  · rw [if_pos h]
    obtain ⟨n, rfl⟩ : ∃ n : Nat, i = -((n + 1 : Nat) : Int) := ⟨i.natAbs - 1, by omega⟩
    rw [TL.tl_ofString]
    have e : toString (-((n + 1 : Nat) : Int)) = "-" ++ toString ((n + 1 : Nat) : Int) := rfl
    rw [e, String.toList_append, List.map_append]
    have e2 := TL.tl_num (n + 1)
    rw [TL.tl_ofString] at e2
    rw [e2, Int.natAbs_neg, Int.natAbs_natCast]
    rfl
  · rw [if_neg h]
    have e2 := TL.tl_num i.natAbs
    rw [show ((i.natAbs : Nat) : Int) = i by omega] at e2
    exact e2
  ) only [↓qt_eq])
theorem num_all (n : Nat) : (TL.numL n).all dgt = true := List.all_eq_true.mpr fun c hc => decide_eq_true (TL.numL_digits n c hc)
theorem num_hd : ∀ {n : Nat}, (TL.numL n).head? = some 48 → n = 0 := fun {n} => by
  induction n using Nat.strongRecOn with
  | _ n ih =>
    intro h
    by_cases l : n < 10
    · rw [TL.numL_lt l] at h
      have : 48 + n = 48 := by simpa using h
      omega
    · rw [TL.numL_step (by omega)] at h
      have ne := TL.numL_ne (n / 10)
      have : (TL.numL (n / 10)).head? = some 48 := by
        cases hn : TL.numL (n / 10) with
        | nil => exact absurd hn ne
        | cons a t => rw [hn] at h; exact h
      have := ih (n / 10) (by omega) this
      omega
theorem int_free (i : Int) : 47 ∉ intL i := fun h => by
  unfold intL at h
  split at h
  · rcases List.mem_cons.mp h with h | h
    · omega
    · exact TL.numL_free (by omega) h
  · exact TL.numL_free (by omega) h
theorem bef_app : ∀ {l m : List Nat}, 47 ∉ l → bef (l ++ 47 :: m) = l ∧ aft (l ++ 47 :: m) = m
  | [], m, _ => ⟨rfl, rfl⟩
  | c :: l, m, h => by
    have hc : ¬ c = 47 := fun z => h (by rw [z]; exact List.mem_cons_self)
    obtain ⟨i1, i2⟩ := bef_app (l := l) (m := m) fun z => h (List.mem_cons_of_mem _ z)
    constructor
    · show (if c = 47 then [] else c :: bef (l ++ 47 :: m)) = _
      rw [if_neg hc, i1]
    · show (if c = 47 then _ else aft (l ++ 47 :: m)) = _
      rw [if_neg hc, i2]
noncomputable def partT (p : Fr) : List Nat := if p.2 = 1 then intL p.1 else intL p.1 ++ 47 :: intL p.2
theorem intL_len {i : Int} (h : i.natAbs < 10 ^ 700) : (intL i).length ≤ 701 := by
  have := TL.numL_len (k := 700) (by decide) h
  unfold intL
  split
  · rw [List.length_cons]; omega
  · omega
theorem log_small {i : Int} (h : i.natAbs < 10 ^ 500) : i.natAbs.log2 < 1920 := by
  by_cases z : i.natAbs = 0
  · rw [z]; decide
  · rw [Nat.log2_lt z]
    exact Nat.lt_trans h (by decide +kernel)
-- slots of part_text: 0 one
end


end
section
open PySem PyProof.Rows L2 Evl U.Hull

section
variable {K : Fg} {cs : Cs} {gs : Gs} {φ : PyData → Prop} {A : Rs → Prop} {ε : Xw → Prop} {w : World} {W : WX}
/-! ### what a lot sums to -/
-- slots of tally: 0 lot, 1 weight, 2 body
-- slots of land: 0 lot, 1 found, 2 weight, 3 body
-- slots of _law_size: 0 _law_spots_here, 1 _law_body_here, 2 _law_total, 3 _law_at
end


end
section
open PySem PyProof.Rows L2 Evl U.Hull

section
variable {K : Fg} {cs : Cs} {gs : Gs} {φ : PyData → Prop} {A : Rs → Prop} {ε : Xw → Prop} {w : World} {W : WX}
/-! ### lots turned -/
-- slots of faced: 0 rows, 1 found, 2 weight, 3 body, 4 face
-- slots of turned: 0 lot
end


end
section
open U.Hull
/-! ### faces of faces -/
noncomputable def atS (b : Body) (i : Nat) : Spot := (b[i]?).getD []
theorem at_inj {b : Body} (nd : b.Nodup) {i j : Nat} (hi : i < b.length) (hj : j < b.length) (e : atS b i = atS b j) : i = j := qt_of (by simp (disch := with_unfolding_all
  unfold atS at e
  rw [List.getElem?_eq_getElem hi, List.getElem?_eq_getElem hj] at e
  have e : b[i] = b[j] := by simpa using e
  rcases Nat.lt_trichotomy i j with h | h | h
  · exact absurd e (List.pairwise_iff_getElem.mp nd i j hi hj h)
  · exact h
  · exact absurd e.symm (List.pairwise_iff_getElem.mp nd j i hj hi h)
  ) only [↓qt_eq])
theorem nx_lt {n i : Nat} (h : i < n) : (i + 1) % n < n := Nat.mod_lt _ (by omega)
theorem nx_cases {n i : Nat} (h : i < n) : (i + 1 < n ∧ (i + 1) % n = i + 1) ∨ (i + 1 = n ∧ (i + 1) % n = 0) := by
  by_cases e : i + 1 < n
  · exact .inl ⟨e, Nat.mod_eq_of_lt e⟩
  · have : i + 1 = n := by omega
    exact .inr ⟨this, by rw [this, Nat.mod_self]⟩
theorem at_ne {b : Body} (nd : b.Nodup) (h : 3 ≤ b.length) {i : Nat} (hi : i < b.length) : atS b i ≠ atS b ((i + 1) % b.length) := fun e => by
  have := at_inj nd hi (nx_lt hi) e
  rcases nx_cases hi with ⟨h1, h2⟩ | ⟨h1, h2⟩ <;> omega
end
section
open PySem PyProof.Rows L2 Evl U.Hull

section
variable {K : Fg} {cs : Cs} {gs : Gs} {φ : PyData → Prop} {A : Rs → Prop} {ε : Xw → Prop} {w : World} {W : WX}
/-! ### lots turned: calls -/
end


end
section
open U.Hull
/-! ### what a body holds, in plain -/
/-! ### the law's own way -/
noncomputable def T3 (p q u s : Pt) : Prop := tn p q u ≠ 0 ∧ ((0 ≤ tn p q s ∧ 0 ≤ tn q u s ∧ 0 ≤ tn u p s) ∨ (tn p q s ≤ 0 ∧ tn q u s ≤ 0 ∧ tn u p s ≤ 0))
noncomputable instance (p q u s : Pt) : Decidable (T3 p q u s) := by unfold T3; exact inferInstance
end
section
open PySem PyProof.Rows L2 Evl U.Hull

section
variable {K : Fg} {cs : Cs} {gs : Gs} {φ : PyData → Prop} {A : Rs → Prop} {ε : Xw → Prop} {w : World} {W : WX}
/-! ### what a body holds -/
noncomputable def tf (p : Prop) : Bool := @decide p (Classical.propDecidable p)
-- slots of spot_order: 0 one, 1 other, 2 first, 3 second, 4 found
-- slots of between: 0 spot, 1 low, 2 high
-- slots of holds: 0 body, 1 spot, 2 rim, 3 least, 4 start, 5 end
end


end
section
open PySem PyProof.Rows L2 Evl U.Hull

section
variable {K : Fg} {cs : Cs} {gs : Gs} {φ : PyData → Prop} {A : Rs → Prop} {ε : Xw → Prop} {w : World} {W : WX}
/-! ### the law's own way of telling what is within -/
-- slots of _law_in_three: 0 _law_one, 1 _law_two, 2 _law_three, 3 _law_spot_here, 4 _law_sides
-- slots of _law_in: 0 _law_spots_here, 1 _law_spot_here, 2 _law_at, 3 _law_to, 4 _law_k
end


end
section
open PySem PyProof.Rows L2 Evl U.Hull

section
variable {K : Fg} {cs : Cs} {gs : Gs} {φ : PyData → Prop} {A : Rs → Prop} {ε : Xw → Prop} {w : World} {W : WX}
/-! ### weights at spots -/
-- slots of weight_at: 0 lot, 1 spot, 2 weight, 3 body
-- slots of told21: 0 _law_lot, 1 _law_spot_here, 2 why
-- slots of _law_weight: 0 _law_rows_here, 1 _law_spot_here, 2 _law_weight_here, 3 _law_spots_here
/-! ### spots looked at -/
-- slots of _law_all_spots: 0 _law_rows_here, 1 _law_found, 2 _law_weight_here, 3 _law_spots_here
-- slots of _law_look: 0 _law_bag_here, 1 _law_spots_here, 2 _law_rank, 3 _law_one, 4 _law_two
-- slots of _law_some_spots: 0 _law_bag_here, 1 _law_rows_here, 2 _law_rank, 3 _law_many, 4 _law_spots_here, 5 _law_at
end


end
section
open PySem PyProof.Rows L2 Evl

section
variable {K : Fg} {cs : Cs} {gs : Gs} {φ : PyData → Prop} {A : Rs → Prop} {ε : Xw → Prop}
/-! ### maps that lead -/
-- slots of room_from: 0 way
-- slots of summed: 0 row, 1 spot, 2 last, 3 step, 4 one, 5 steps
-- slots of led: 0 way, 1 spot, 2 row
/-! ### the law's own -/
-- slots of _law_led: 0 _law_kind, 1 _law_spot_here, 2 _law_found, 3 _law_row, 4 _law_total, 5 _law_at
-- slots of told16: 0 _law_map_rows, 1 _law_spot_here, 2 why
end


end
section
open PySem PyProof.Rows L2 Evl U.Hull

section
variable {K : Fg} {cs : Cs} {gs : Gs} {φ : PyData → Prop} {A : Rs → Prop} {ε : Xw → Prop} {w : World} {W : WX}
/-! ### bodies carried -/
-- slots of carried: 0 lot, 1 way, 2 rows, 3 weight, 4 body, 5 corner
-- slots of _law_carried: 0 _law_rows_here, 1 _law_table, 2 _law_weight, 3 _law_spots_here, 4 _law_spot_here
-- slots of told25: 0 _law_lot_here, 1 _law_table, 2 why
end


end
section
open PySem PyProof.Rows L2 Evl U.Hull

section
variable {K : Fg} {cs : Cs} {gs : Gs} {φ : PyData → Prop} {A : Rs → Prop} {ε : Xw → Prop} {w : World} {W : WX}
/-! ### bodies laid -/
-- slots of sum_of: 0 spot, 1 other, 2 one, 3 two
-- slots of laid_bodies: 0 one, 1 other, 2 corner, 3 beside
-- slots of laid: 0 one, 1 other, 2 room, 3 rows, 4 weight, 5 body, 6 times, 7 beside
-- slots of told26: 0 _law_one, 1 _law_other, 2 why
-- slots of _law_sums: 0 _law_spots_here, 1 _law_others, 2 _law_found, 3 _law_spot_here, 4 _law_one, 5 _law_at
-- slots of _law_laid: 0 _law_rows_here, 1 _law_others, 2 _law_found, 3 _law_weight, 4 _law_spots_here, 5 _law_beside, 6 _law_more
/-! ### lots laid, in plain -/
section
variable {r : Nat} {rs qs : List RowS} (hr : r = 1 ∨ r = 2) (h : DrR 14 r 4 rs) (k : DrR 14 r 4 qs) (l1 : rs.length ≤ 4) (l2 : qs.length ≤ 4)
include hr h l1
include k l2
end
end


end
section
open PySem PyProof.Rows L2 Evl U.Hull

section
variable {K : Fg} {cs : Cs} {gs : Gs} {φ : PyData → Prop} {A : Rs → Prop} {ε : Xw → Prop} {w : World} {W : WX}
/-! ### rows with their bounds -/
/-! ### laying in any order -/
end


end
section
open PySem PyProof.Rows L2 Evl U.Hull

section
variable {K : Fg} {cs : Cs} {gs : Gs} {φ : PyData → Prop} {A : Rs → Prop} {ε : Xw → Prop} {w : World} {W : WX}
-- slots of _law_threes: 0 _law_bag_here, 1 _law_rank, 2 _law_limit, 3 _law_found, 4 _law_at, 5 _law_spots, 6 _law_corner
/-! ### straight maps -/
end


end
section
open PySem PyProof.Rows L2 Evl U.Hull

section
variable {K : Fg} {cs : Cs} {gs : Gs} {φ : PyData → Prop} {A : Rs → Prop} {ε : Xw → Prop} {w : World} {W : WX}
/-! ### true bounds: D times the worth is whole, the worth lies from -V to V -/
structure LV (D V : Nat) (f : Fr) : Prop where
  wh : ∃ z : Int, (D : Rat) * val f = (z : Rat)
  lo : -(V : Rat) ≤ val f
  hi : val f ≤ (V : Rat)
-- slots of lspotsL: 0 _law_bag_here, 1 _law_rank, 2 _law_limit, 3 _law_many, 4 _law_found, 5 _law_kind, 6 _law_one, 7 _law_two, 8 _law_at
-- slots of lrowsL: 0 _law_bag_here, 1 _law_rank, 2 _law_limit, 3 _law_corners, 4 _law_found, 5 _law_at, 6 _law_weight, 7 _law_row
end


end
section
open PySem PyProof.Rows L2 Evl U.Hull

section
variable {K : Fg} {cs : Cs} {gs : Gs} {φ : PyData → Prop} {A : Rs → Prop} {ε : Xw → Prop} {w : World} {W : WX}
/-! ### a map behind a map -/
noncomputable def mkStep (made : List Fr) (p : Fr × List Fr) : List Fr := List.zipWith (fun one other => addF one (mulF p.1 other)) made p.2
noncomputable def mkA (acc : List Fr) (ps : List (Fr × List Fr)) : List Fr := ps.foldl mkStep acc
noncomputable def zrow (st : Nat) : List Fr := List.replicate (st + 1) (0, 1)
noncomputable def mkM (st : Nat) (m : List (List Fr)) (row : List Fr) : List Fr := mkA (zrow st) (row.dropLast.zip m)
noncomputable def behRow (st : Nat) (m : List (List Fr)) (row : List Fr) : List Fr := (mkM st m row).dropLast ++ [addF ((mkM st m row).getLastD (0, 1)) (row.getLastD (0, 1))]
noncomputable def behF (st : Nat) (m k : List (List Fr)) : List (List Fr) := k.map (behRow st m)
-- slots of behind: 0 first, 1 then, 2 found, 3 row, 4 made, 5 last, 6 step, 7 inner, 8 steps, 9 one, 10 other
/-! ### bounds carried -/
end


end
section
open PySem PyProof.Rows L2 Evl U.Hull

section
variable {K : Fg} {cs : Cs} {gs : Gs} {φ : PyData → Prop} {A : Rs → Prop} {ε : Xw → Prop} {w : World} {W : WX}
/-! ### a spot lies deep where each small step on leads not out -/
end


end
section
open PySem PyProof.Rows L2 Evl U.Hull

section
variable {K : Fg} {cs : Cs} {gs : Gs} {φ : PyData → Prop} {A : Rs → Prop} {ε : Xw → Prop} {w : World} {W : WX}
-- slots of lookL: 0 _law_bag_here, 1 _law_spots_here, 2 _law_rank, 3 _law_one, 4 _law_two
-- slots of someL: 0 _law_bag_here, 1 _law_rows_here, 2 _law_rank, 3 _law_many, 4 _law_spots_here, 5 _law_at
-- slots of wideL: 0 _law_bag_here, 1 _law_rank, 2 _law_limit, 3 _law_found, 4 _law_k, 5 _law_at
-- slots of _law_deep: 0 _law_spots_here, 1 _law_spot_here, 2 _law_tiny, 3 _law_start
end


end
section
open PySem PyProof.Rows L2 Evl U.Hull
/-! ### corners and sides: what lies on a side's line -/
/-! ### Euler: the faces that hold a spot, with their signs -/
end
section
open PySem PyProof.Rows L2 Evl U.Hull
/-! ### what two bodies have in common, plain -/
end
section
open PySem PyProof.Rows L2 Evl U.Hull
/-! ### two bodies of the plane: all that both hold lies between corners and crossings -/
end
section
open PySem PyProof.Rows L2 Evl U.Hull

section
variable {K : Fg} {cs : Cs} {gs : Gs} {φ : PyData → Prop} {A : Rs → Prop} {ε : Xw → Prop} {w : World} {W : WX}
/-! ### what is drawn, told tightly -/
-- slots of lspotsT: 0 _law_bag_here, 1 _law_rank, 2 _law_limit, 3 _law_many, 4 _law_found, 5 _law_kind, 6 _law_one, 7 _law_two, 8 _law_at
-- slots of lrowsT: 0 _law_bag_here, 1 _law_rank, 2 _law_limit, 3 _law_corners, 4 _law_found, 5 _law_at, 6 _law_weight, 7 _law_row
end


end
section
open PySem PyProof.Rows L2 Evl U.Hull

section
variable {K : Fg} {cs : Cs} {gs : Gs} {φ : PyData → Prop} {A : Rs → Prop} {ε : Xw → Prop} {w : World} {W : WX}
/-! ### crossings of small spots are small -/
noncomputable def lv2 (p : Sp2) : Prop := LV 48 6 p.x ∧ LV 48 6 p.y
end


end
section
open PySem PyProof.Rows L2 Evl U.Hull

section
variable {K : Fg} {cs : Cs} {gs : Gs} {φ : PyData → Prop} {A : Rs → Prop} {ε : Xw → Prop} {w : World} {W : WX}
/-! ### the body of all that two hold -/
noncomputable def sp2 (s : Spot) : Sp2 := ⟨(s[0]?).getD (0, 1), (s[1]?).getD (0, 1)⟩
-- slots of common: 0 one, 1 other, 2 found, 3 corner, 4 start, 5 end, 6 other_start, 7 other_end, 8 spot
end


end
section
open PySem PyProof.Rows L2 Evl U.Hull

section
variable {K : Fg} {cs : Cs} {gs : Gs} {φ : PyData → Prop} {A : Rs → Prop} {ε : Xw → Prop} {w : World} {W : WX}
/-! ### lots met -/
-- slots of met: 0 one, 1 other, 2 room, 3 found, 4 weight, 5 body, 6 other_weight, 7 other_body, 8 shared_body
-- slots of told24: 0 _law_one, 1 _law_other, 2 why
end


end
section
open PySem PyProof.Rows L2 Evl U.Hull

section
variable {K : Fg} {cs : Cs} {gs : Gs} {φ : PyData → Prop} {A : Rs → Prop} {ε : Xw → Prop} {w : World} {W : WX}
/-! ### the law's own crossing -/
-- slots of _law_cross: 0 _law_one, 1 _law_two, 2 _law_three, 3 _law_four, 4 _law_first, 5 _law_second, 6 _law_span, 7 _law_step, 8 _law_share
/-! ### the law's own meeting -/
noncomputable def prevS (b : Body) (i : Nat) : Spot := if i = 0 then atS b (b.length - 1) else atS b (i - 1)
noncomputable def cy (b : Body) (i : Nat) : Spot × Spot := (prevS b i, atS b i)
-- slots of _law_meeting: 0 _law_one, 1 _law_other, 2 _law_found, 3 _law_at, 4 _law_to, 5 _law_spot_here
end


end
section
open PySem PyProof.Rows L2 Evl U.Hull
/-! ### the body of what two have in common, plain -/
/-! ### crossings by their values -/
structure Gp (p : Spot × Spot) : Prop where
  g1 : (sp2 p.1).g 100
  g2 : (sp2 p.2).g 100
  l1 : p.1.length = 2
  l2 : p.2.length = 2
  v1 : lv2 (sp2 p.1)
  v2 : lv2 (sp2 p.2)
/-! ### all that both hold -/
end
section
open PySem PyProof.Rows L2 Evl U.Hull

section
variable {K : Fg} {cs : Cs} {gs : Gs} {φ : PyData → Prop} {A : Rs → Prop} {ε : Xw → Prop} {w : World} {W : WX}
/-! ### looks, told tightly; spots of rows of all kinds -/
-- slots of lookT: 0 _law_bag_here, 1 _law_spots_here, 2 _law_rank, 3 _law_one, 4 _law_two
-- slots of allspM: 0 _law_rows_here, 1 _law_found, 2 _law_weight_here, 3 _law_spots_here
-- slots of someM: 0 _law_bag_here, 1 _law_rows_here, 2 _law_rank, 3 _law_many, 4 _law_spots_here, 5 _law_at
end


end
section
open PySem PyProof.Rows L2 Evl U.Hull
/-! ### numbers below, told tightly -/
/-! ### rows of small spots -/
structure TR (r n : Nat) (rs : List RowS) : Prop where
  wl : ∀ p ∈ rs, -7 ≤ p.w ∧ p.w ≤ 7
  sp : ∀ p ∈ rs, Sps 31 r p.ss ∧ 1 ≤ p.ss.length ∧ p.ss.length ≤ 5
  lv : ∀ p ∈ rs, ∀ s ∈ p.ss, ∀ f ∈ s, LV 48 6 f
  ln : rs.length ≤ n
/-! ### the pairs -/
section
variable {r n m : Nat} {rs qs : List RowS} (hr : r = 1 ∨ r = 2) (hn : n ≤ 100) (hm : m ≤ 100) (h1 : TR r n rs) (h2 : TR r m qs)
include hr hn hm h1 h2
end
/-! ### weights of what is met -/
end
section
open PySem PyProof.Rows L2 Evl U.Hull
/-! ### what a body has on a line, plain -/
structure Ln (k : Spot × Spot) : Prop where
  gp : Gp k
  ne : k.1 ≠ k.2
/-! ### times of corners and of crossings -/
end
section
open PySem PyProof.Rows L2 Evl U.Hull

section
variable {K : Fg} {cs : Cs} {gs : Gs} {φ : PyData → Prop} {A : Rs → Prop} {ε : Xw → Prop} {w : World} {W : WX}
/-! ### faces by the law, mirrored bodies -/
-- slots of _law_faces: 0 _law_spots_here, 1 _law_body_here, 2 _law_found, 3 _law_corner, 4 _law_at
-- slots of _law_turned: 0 _law_rows_here, 1 _law_found, 2 _law_weight, 3 _law_spots_here, 4 _law_sign_here, 5 _law_face
/-! ### mirrored -/
-- slots of mirrored: 0 body, 1 corner, 2 one
-- slots of unlaid: 0 body
end


end
section
open PySem PyProof.Rows L2 Evl U.Hull

section
variable {K : Fg} {cs : Cs} {gs : Gs} {φ : PyData → Prop} {A : Rs → Prop} {ε : Xw → Prop} {w : World} {W : WX}
/-! ### the program's spots on a line -/
/-! ### the law's spots on a line -/
structure SB (ss : List Spot) : Prop where
  sp : SpR 31 2 ss
  l5 : ss.length ≤ 100
  lv : ∀ s ∈ ss, ∀ f ∈ s, LV 48 6 f
end


end
section
open PySem PyProof.Rows L2 Evl U.Hull

section
variable {K : Fg} {cs : Cs} {gs : Gs} {φ : PyData → Prop} {A : Rs → Prop} {ε : Xw → Prop} {w : World} {W : WX}
/-! ### sliced -/
-- slots of time_of: 0 spot, 1 step, 2 corner, 3 at
-- slots of slice_of: 0 body, 1 spot, 2 step, 3 ahead, 4 found, 5 at, 6 corner, 7 last, 8 one
/-! the lot -/
-- slots of sliced: 0 lot, 1 spot, 2 step, 3 rows, 4 weight, 5 body, 6 row
end


end
section
open PySem PyProof.Rows L2 Evl U.Hull

section
variable {K : Fg} {cs : Cs} {gs : Gs} {φ : PyData → Prop} {A : Rs → Prop} {ε : Xw → Prop} {w : World} {W : WX}
/-! ### paired -/
-- slots of paired: 0 one, 1 other, 2 rows, 3 weight, 4 body, 5 beside, 6 upright, 7 spot, 8 high
-- slots of lpair28: 0 _law_one, 1 _law_other, 2 why
-- slots of lslice28: 0 _law_lot_here, 1 _law_spot_here, 2 _law_step, 3 why
end


end
section
open PySem PyProof.Rows L2 Evl U.Hull

section
variable {K : Fg} {cs : Cs} {gs : Gs} {φ : PyData → Prop} {A : Rs → Prop} {ε : Xw → Prop} {w : World} {W : WX}
/-! ### the law's own times -/
-- slots of _law_times: 0 _law_spots_here, 1 _law_spot_here, 2 _law_ahead, 3 _law_found, 4 _law_at, 5 _law_to, 6 _law_near, 7 _law_one, 8 _law_two, 9 _law_cut
end


end
section
open PySem PyProof.Rows L2 Evl U.Hull

section
variable {K : Fg} {cs : Cs} {gs : Gs} {φ : PyData → Prop} {A : Rs → Prop} {ε : Xw → Prop} {w : World} {W : WX}
-- slots of someT: 0 _law_bag_here, 1 _law_rows_here, 2 _law_rank, 3 _law_many, 4 _law_spots_here, 5 _law_at
/-! ### rows paired, plain -/
/-! ### rows sliced, plain -/
section
variable {k : Spot × Spot} {rs : List RowS} (hL : Ln k) (hS : ∀ p ∈ rs, SB p.ss ∧ p.ss.length ≤ 5) (hn : rs.length ≤ 5)
include hL hS hn
end
end


end
section
open PySem PyProof.Rows L2 Evl U.Hull
/-! ### Euler on a line: places less open stretches -/
end
section
open PySem PyProof.Rows L2 Evl U.Hull

section
variable {K : Fg} {cs : Cs} {gs : Gs} {φ : PyData → Prop} {A : Rs → Prop} {ε : Xw → Prop} {w : World} {W : WX}
/-! ### the law's tally on a line -/
-- slots of _law_both: 0 _law_rows_here, 1 _law_others, 2 _law_spot_here
-- slots of _law_line_tally: 0 _law_rows_here, 1 _law_others, 2 _law_one, 3 _law_two, 4 _law_cuts, 5 _law_places, 6 _law_total, 7 _law_at, 8 _law_weight_here, 9 _law_spots_here, 10 _law_gap, 11 _law_place
end


end
section
open PySem PyProof.Rows L2 Evl U.Hull
/-! ### lines as three whole numbers, plain -/
end
section
open PySem PyProof.Rows L2 Evl U.Hull

section
variable {K : Fg} {cs : Cs} {gs : Gs} {φ : PyData → Prop} {A : Rs → Prop} {ε : Xw → Prop} {w : World} {W : WX}
/-! ### lines, read -/
-- slots of line_by: 0 lean, 1 spot, 2 divisor, 3 right, 4 up, 5 last, 6 below
-- slots of line_through: 0 spot, 1 other, 2 right, 3 up
-- slots of told48: 0 _law_one, 1 _law_two, 2 why
end


end
section
open PySem PyProof.Rows L2 Evl U.Hull

section
variable {K : Fg} {cs : Cs} {gs : Gs} {φ : PyData → Prop} {A : Rs → Prop} {ε : Xw → Prop} {w : World} {W : WX}
/-! ### the law's line -/
-- slots of _law_line: 0 _law_one, 1 _law_two, 2 _law_first, 3 _law_second, 4 _law_a, 5 _law_b, 6 _law_c, 7 _law_divisor
end


end
section
open PySem PyProof.Rows L2 Evl U.Hull

section
variable {K : Fg} {cs : Cs} {gs : Gs} {φ : PyData → Prop} {A : Rs → Prop} {ε : Xw → Prop} {w : World} {W : WX}
/-! ### what a line hits -/
/-! readings -/
-- slots of side_on: 0 line, 1 corner, 2 found
-- slots of _law_side: 0 _law_line_here, 1 _law_spot_here, 2 _law_place, 3 _law_gap
-- slots of line_tally: 0 lot, 1 line, 2 found, 3 weight, 4 body, 5 seen, 6 corner
-- slots of flat48: 0 _law_lot, 1 _law_line_here, 2 why
-- slots of _law_line_weight: 0 _law_rows_here, 1 _law_line_here, 2 _law_total, 3 _law_weight_here, 4 _law_spots_here, 5 _law_sides, 6 _law_spot_here
end


end
section
open PySem PyProof.Rows L2 Evl
/-! ### lists of one's own within a list of one's own -/
section
variable {K : Fg} {cs : Cs} {W : WX} {Wd : Addr → Prop} {B : Bt} {ad : Nat → Addr} {H0 H H2 : Hp} {σ : St} {G G' : Gam} {i : Nat} {a0 : Addr} {as : List Addr} {xss : List (List PyData)} {φ : PyData → Prop}
/-! ### statements beside such lists -/
variable {Ψ : Gam → List (List PyData) → Prop} {tu tv tb : TS} {te tf : TE} {k : Nat}
end


end
section
open PySem PyProof.Rows L2 Evl U.Hull

section
variable {K : Fg} {cs : Cs} {gs : Gs} {φ : PyData → Prop} {A : Rs → Prop} {ε : Xw → Prop} {w : World} {W : WX}
/-! ### the law's map behind a map -/
-- slots of _law_ends: 0 _law_first, 1 _law_then, 2 _law_start, 3 _law_none, 4 _law_last, 5 _law_found, 6 _law_at, 7 _law_unit, 8 _law_there, 9 _law_row
end


end
section
open PySem PyProof.Rows L2 Evl U.Hull

section
variable {K : Fg} {cs : Cs} {gs : Gs} {φ : PyData → Prop} {A : Rs → Prop} {ε : Xw → Prop} {w : World} {W : WX}
-- slots of told17: 0 _law_first, 1 _law_then, 2 why
end


end
section
/-! Likeness of deeper data. -/
open PySem PyProof.Rows L2 Evl
noncomputable abbrev t_like16 := @t__law_like
theorem ln_like16 {n : Nat} : ∀ ds r, P_like (n + 1) ds r → ds.length = 2 := ln__law_like
theorem rd_like16 {K : Fg} {n : Nat} {ds r} (h : P_like (n + 1) ds r) (b : Bag) : SG K (t_like16 K n) (U.frame 3 ds) b (.rt r b) := rd__law_like h b
theorem c_like16 {φ : PyData → Prop} {x y : PyData} (e : x = y) (hy : okD 15 y = true) (h : φ (.bool true)) : ∃ r, P_like 16 [x, y] r ∧ φ r := by
  subst e
  exact ⟨_, ⟨x, rfl, hy, rfl⟩, h⟩


end
end
section
local macro_rules | `(tactic| walk_at "sd") => `(tactic| first | with_reducible assumption | omega | rfl | decide | assumption | exact Gd.mono (by assumption) (by first | decide | omega) | (simp only [List.length_map, List.length_append, List.length_cons, List.length_nil]; omega) | (simp; done))
local macro_rules | `(tactic| walk_at "ca") => `(tactic| first
  | ((with_reducible apply c_pull); (case h0 => walk_at "sd"); (case h1 => walk_at "sd"); intro _ _ _)
  | ((with_reducible apply c_map); (case h1 => walk_at "sd"); (case h2 => walk_at "sd"); (case l1 => walk_at "sd"); (case l2 => walk_at "sd"); intro _ _))
local macro_rules | `(tactic| walk_at "keo") => `(tactic| first
  | with_reducible refine ew_add ?_
  | with_reducible refine ew_sub ?_
  | with_reducible refine ew_mul ?_
  | with_reducible refine ew_mod ?_
  | with_reducible refine ew_pow ?_
  | with_reducible refine ew_lt ?_
  | with_reducible refine ew_gt ?_
  | with_reducible refine ew_eq ?_
  | with_reducible refine ew_ne ?_
  | with_reducible refine ew_isNo ?_
  | with_reducible refine ew_noNo ?_
  | with_reducible refine ew_catL ?_
  | with_reducible refine ew_inS ?_
  | with_reducible refine ew_addStr ?_
  | with_reducible refine ew_inSg ?_
  | with_reducible refine ew_ixS ?_
  | with_reducible refine ew_inT ?_
  | with_reducible refine ew_mulT ?_
  | with_reducible refine ew_ix ?_)
local macro_rules | `(tactic| walk_at "keb") => `(tactic| first
  | ((with_reducible apply ew_lenO); (case hi => rfl))
  | ((with_reducible apply ew_tupO); (case hi => rfl))
  | with_reducible refine ew_min ?_
  | with_reducible refine ew_intB ?_
  | with_reducible refine ew_len ?_
  | with_reducible refine ew_list ?_
  | with_reducible refine ew_all ?_
  | with_reducible refine ew_isi ?_
  | with_reducible refine ew_lenS ?_
  | with_reducible refine ew_intS ?_
  | with_reducible refine ew_strI ?_)
local macro_rules | `(tactic| walk_at "kec") => `(tactic| first
  | ((with_reducible apply ew_glob); (case h => assumption))
  | with_reducible refine ew_int ?_
  | with_reducible refine ew_bl ?_
  | with_reducible refine ew_str ?_
  | with_reducible refine ew_non ?_)
local macro_rules | `(tactic| walk_at "kev") => `(tactic| first
  | ((with_reducible apply ew_var); (case h => rfl)))
local macro_rules | `(tactic| walk_at "kex") => `(tactic| first
  | ((with_reducible apply ew_callB); (case hi => rfl))
  | ((with_reducible apply ew_callWB); (case hi => rfl))
  | with_reducible refine ew_tup1 ?_
  | with_reducible refine ew_tup2 ?_
  | with_reducible refine ew_tup3 ?_
  | with_reducible refine ew_tup ?_
  | with_reducible refine ew_lst0 ?_
  | with_reducible refine ew_lst1 ?_
  | with_reducible refine ew_lst2 ?_
  | with_reducible refine ew_lst ?_
  | with_reducible refine ew_neg ?_
  | with_reducible refine ew_leLe ?_
  | with_reducible refine ew_andV ?_
  | with_reducible refine ew_if ?_
  | with_reducible refine ew_cP ?_
  | with_reducible refine ew_c0 ?_
  | with_reducible refine ew_cW ?_
  | with_reducible refine ew_slL ?_
  | with_reducible refine ew_slA ?_
  | with_reducible refine ew_lc ?_
  | with_reducible refine ew_slS ?_
  | with_reducible refine ew_partS ?_
  | with_reducible refine ew_joinS ?_
  | with_reducible refine ew_callNW ?_
  | with_reducible refine ew_callN ?_
  | with_reducible refine ew_callN0 ?_)
local macro_rules | `(tactic| walk_at "kew") => `(tactic| first
  | ((with_reducible show EW _ _ _ (tVar _) _ _ _); walk_at "kev")
  | ((with_reducible show EW _ _ _ (tOp _ _ _) _ _ _); walk_at "keo")
  | ((with_reducible show EW _ _ _ (tC _) _ _ _); walk_at "kec")
  | ((with_reducible show EW _ _ _ (tCB _ _) _ _ _); walk_at "keb")
  | walk_at "kex")
local macro_rules | `(tactic| walk_at "ksw") => `(tactic| first
  | ((with_reducible apply sw_app); (case hi => rfl); (case hl => walk_at "sd"))
  | ((with_reducible apply sw_clear); (case hi => rfl))
  | with_reducible refine sw_next ?_
  | with_reducible refine sw_if ?_
  | with_reducible refine sw_ret ?_
  | with_reducible refine sw_for ?_
  | with_reducible refine sw_try ?_
  | with_reducible refine sw_asg ?_
  | ((with_reducible apply sw_dset); (case hi => rfl))
  | ((with_reducible apply sw_setI); (case hi => rfl))
  | with_reducible refine sw_asgT ?_)
local macro_rules | `(tactic| walk_at "ktw") => `(tactic| first
  | with_reducible refine tw_test ?_
  | with_reducible refine tw_B ?_
  | with_reducible refine tw_yes ?_
  | with_reducible refine tw_not ?_
  | with_reducible refine tw_and ?_
  | with_reducible refine tw_or ?_)
local macro_rules | `(tactic| walk_at "kaw") => `(tactic| first
  | with_reducible refine aw_nil ?_
  | with_reducible refine aw_cons ?_)
local macro_rules | `(tactic| walk_at "kiw") => `(tactic| first
  | with_reducible refine iw_list ?_
  | with_reducible refine iw_tup ?_
  | with_reducible refine iw_rng1 ?_
  | with_reducible refine iw_str ?_
  | with_reducible refine iw_enumS ?_)
local macro_rules | `(tactic| walk_at "kow") => `(tactic| first
  | with_reducible refine ow_none ?_
  | with_reducible refine ow_some ?_)
local macro_rules | `(tactic| walk_at "km") => `(tactic| first
  | ((with_reducible apply x_all); (case h => exact allB_map))
  | ((with_reducible apply x_any); (case h => exact anyB_map))
  | ((with_reducible apply x_sum); (case h => exact sumI_map))
  | ((with_reducible apply cw_elt); (case hm => walk_at "sd"))
  | ((with_reducible apply x1_rng); (case hb => walk_at "sd"))
  | ((with_reducible apply x2_rng); (case hb => walk_at "sd"); (case hc => walk_at "sd"))
  | ((with_reducible apply at0); (case h => rfl))
  | ((with_reducible apply at1); (case h => rfl))
  | ((with_reducible apply xi_it); (case h => rfl))
  | ((with_reducible apply x1_it); (case h => rfl))
  | with_reducible refine sq_nx ?_
  | with_reducible refine sq_rt ?_
  | with_reducible refine lp_nx ?_
  | with_reducible refine gsw_nil ?_
  | with_reducible refine gsw_cons ?_
  | with_reducible refine rE_ok ?_
  | with_reducible refine xi_int ?_
  | with_reducible refine xi_bool ?_
  | with_reducible refine xi_str ?_
  | with_reducible refine xi_tup ?_
  | with_reducible refine xi_list ?_
  | with_reducible refine x1_int ?_
  | with_reducible refine x1_bool ?_
  | with_reducible refine x2_int ?_
  | with_reducible refine sc_int ?_
  | with_reducible refine sc_str ?_
  | with_reducible refine x_ol ?_
  | with_reducible refine x_nx ?_
  | with_reducible refine gw_name ?_
  | ((with_reducible refine gc_name ?wa ?_); (case wa => simp))
  | ((with_reducible refine gc_tup ?wa ?_); (case wa => rfl))
  | ((with_reducible refine gw_tup ?wa ?_); (case wa => rfl))
  | with_reducible refine cnd_t ?_
  | with_reducible refine cnd_f ?_
  | with_reducible refine cnd_nt ?_
  | with_reducible refine cnd_nf ?_
  | walk_at "ca"
  | ((with_reducible apply zip_f); (case hx => rfl); (case hy => rfl))
  | ((with_reducible apply zip_t); (case hx => rfl); (case hy => rfl); (case hl => walk_at "sd"))
  | refine gsw_cons ?_
  | refine gsc_cons ?_
  | refine gsw_nil ?_
  | refine gsc_nil ?_
  | with_reducible exact trivial)
local macro_rules | `(tactic| walk_at "s1") => `(tactic| first
  | ((with_reducible show EW _ _ _ _ _ _ _); walk_at "kew")
  | ((with_reducible show SW _ _ _ _ _ _); walk_at "ksw")
  | ((with_reducible show TW _ _ _ _ _ _ _); walk_at "ktw")
  | ((with_reducible show AW _ _ _ _ _ _ _); walk_at "kaw")
  | ((with_reducible show IW _ _ _ _ _ _ _); walk_at "kiw")
  | ((with_reducible show OW _ _ _ _ _ _ _); walk_at "kow")
  | walk_at "km")
local macro_rules | `(tactic| walk_at "w1") => `(tactic| first | ((with_reducible show SW _ _ _ _ _ _); first | walk_at "ksw" | with_reducible refine sw_seqA ?_ | with_reducible refine sw_seqD ?_ | with_reducible refine sw_seqF ?_ | with_reducible refine sw_seqP ?_ | with_reducible refine sw_seqG ?_ | with_reducible refine sw_seqW ?_) | walk_at "s1")
local macro_rules | `(tactic| walk_at "s") => `(tactic| repeat walk_at "s1")
local macro_rules | `(tactic| walk_at "ef") => `(tactic| first
  | with_reducible refine ef_lst0 ?_
  | with_reducible refine ef_lst1 ?_
  | with_reducible refine ef_lst2 ?_
  | with_reducible refine ef_lst ?_
  | with_reducible refine ef_lc ?_
  | with_reducible refine ef_list ?_
  | with_reducible refine ef_slL ?_
  | with_reducible refine ef_catL ?_)
local macro_rules | `(tactic| walk_at "wi") => `(tactic| repeat (first | walk_at "w1" | with_reducible refine sw_seq ?_))
local macro_rules | `(tactic| walk_at "w") => `(tactic| repeat walk_at "w1")
section
/-! The words and brackets of a text. -/
open PySem PyProof.Rows L2 Evl

noncomputable def sepC (c : Nat) : Bool := decide (c = 32 ∨ c = 40 ∨ c = 41)
/-- a word that ends before a place -/
noncomputable def flu (w : List Nat) (at_ : Nat) : List (List Nat × Nat) := if w = [] then [] else [(w, at_ - w.length)]
noncomputable def tkw : List Nat → Nat → List Nat → List (List Nat × Nat)
  | [], p, w => flu w p
  | c :: l, p, w => if sepC c then flu w p ++ ((if c = 32 then [] else [([c], p)]) ++ tkw l (p + 1) []) else tkw l (p + 1) (w ++ [c])
noncomputable def toks (l : List Nat) : List (List Nat × Nat) := tkw l 0 [] ++ [([], l.length)]
theorem tkw_blank : ∀ {l : List Nat} {p : Nat} {w : List Nat}, tkw (l ++ [32]) p w = tkw l p w
  | [], p, w => by
    show (if sepC 32 then flu w p ++ ((if 32 = 32 then [] else _) ++ flu [] (p + 1)) else _) = flu w p
    rw [if_pos (by decide), if_pos rfl]
    show flu w p ++ ([] ++ []) = _
    simp
  | c :: l, p, w => by
    show (if sepC c then flu w p ++ ((if c = 32 then [] else [([c], p)]) ++ tkw (l ++ [32]) (p + 1) []) else tkw (l ++ [32]) (p + 1) (w ++ [c])) = _
    rw [tkw_blank, tkw_blank]
    rfl
noncomputable def tokD (t : List Nat × Nat) : PyData := .tuple [.str (tx t.1), .int (t.2 : Nat)]
theorem tx_blank : (" " : Str) = tx [32] := TL.ext_tl (by rw [TL.tl_ofString] <;> rfl)
theorem tx_seps : TL.tl (" ()" : Str) = [32, 40, 41] := by rw [TL.tl_ofString]; rfl
theorem in_seps (c : Nat) : decide (c ∈ (" ()" : Str).cps.toList) = sepC c := by
  rw [show (" ()" : Str).cps.toList = [32, 40, 41] from tx_seps]
  unfold sepC
  congr 1
  apply propext
  simp only [List.mem_cons, List.not_mem_nil, or_false]
section
variable {K : Fg} {cs : Cs} {gs : Gs} {φ : PyData → Prop} {A : Rs → Prop} {ε : Xw → Prop} {w : World}
noncomputable def P_tokens : Pr := fun ds A => ∃ l : List Nat, ds = [.str (tx l)] ∧ l.length ≤ 3000000 ∧ A (.ok (.list ((toks l).map tokD)))
noncomputable def t_tokens_of (K : Fg) : TS := (tSeq (tAsg (tLst tNil) (gName 1))
  (tSeq (tAsg (tC (V.str "")) (gName 2))
  (tSeq (tFor (iEnumS (tCons (tOp rAddStr (tVar 0) (tC (V.str " "))) tNil)) (gTup K 2 (gCons (gName 3) (gCons (gName 4) gNil))) (tIfS (tTest (tOp rInSg (tVar 4) (tC (V.str " ()")))) (tSeq (tIfS (tTest (tOp rNe (tVar 2) (tC (V.str "")))) (tDrop (tBM K "list" rAppend (tVar 1) (tCons (tTup (tCons (tVar 2) (tCons (tOp rSubI (tVar 3) (tCB rLenS (tCons (tVar 2) tNil))) tNil))) tNil))) tNext)
  (tSeq (tAsg (tC (V.str "")) (gName 2))
  (tIfS (tTest (tOp rNe (tVar 4) (tC (V.str " ")))) (tDrop (tBM K "list" rAppend (tVar 1) (tCons (tTup (tCons (tVar 4) (tCons (tVar 3) tNil))) tNil))) tNext))) (tAug 2 (tVar 4) rAddStr)))
  (tRet (tOp (rCatL K) (tVar 1) (tLst (tCons (tTup (tCons (tC (V.str "")) (tCons (tCB rLenS (tCons (tVar 0) tNil)) tNil))) tNil)))))))
-- slots of tokens_of: 0 text, 1 found, 2 word, 3 at, 4 sign
theorem ln_tokens_of : ∀ ds A, P_tokens ds A → ds.length = 1 := fun ds A h => by obtain ⟨_, rfl, _⟩ := h; rfl
theorem rd_tokens_of {ds A} (h : P_tokens ds A) : SW K cs W0 (t_tokens_of K) (frame 5 ds) (rts0 A) := qt_of (by simp (disch := with_unfolding_all
  obtain ⟨l, rfl, hl, h⟩ := h
  unfold t_tokens_of
  have hz : ∀ {m : List Nat}, m.length ≤ 3000010 → (tx m).length ≤ sizeLine := fun {m} h => by rw [tx_len]; exact Nat.le_trans h (by decide)
  refine sw_seq (sw_asgF (ef_lst0 ?_))
  walk_at "s"
  refine sw_seq ?_
  walk_at "s"
  refine sw_seq (sw_for (iw_enumS ?_))
  walk_at "s"
  rw [tx_blank]
  refine ⟨by rw [tx_len, tx_len]; exact Nat.le_trans (Nat.add_le_add_right hl 1) (by decide), aw_nil ⟨tx (l ++ [32]), by rw [tx_app], ?_⟩⟩
  have hL : (l ++ [32]).length = l.length + 1 := by simp
  refine ⟨fun i G => ∃ (a : List (List Nat × Nat)) (u : List Nat) (e3 e4 : En), a ++ tkw ((l ++ [32]).drop i) i u = tkw l 0 [] ∧ u.length ≤ i ∧ a.length ≤ 2 * i ∧ (i = l.length + 1 → u = []) ∧ i ≤ l.length + 1 ∧ G = [.d (.str (tx l)), .ow (ol (a.map tokD)), .d (.str (tx u)), e3, e4], ⟨[], [], _, _, by rw [List.nil_append, List.drop_zero, tkw_blank], Nat.le_refl _, Nat.le_refl _, fun _ => rfl, Nat.zero_le _, by rw [← tx_none]; rfl⟩, ?_, ?_⟩
  · rintro i x _ hx ⟨a, u, e3, e4, he, hu, ha, hb, hi, rfl⟩
    rw [enD_at, List.getElem?_map] at hx
    have hx : ((l ++ [32])[i]?.map sg).map (fun x => PyData.tuple [.int (i : Nat), x]) = some x := hx
    obtain ⟨c, hc⟩ : ∃ c, (l ++ [32])[i]? = some c := by
      cases e : (l ++ [32])[i]? with
      | none => rw [e] at hx; cases hx
      | some c => exact ⟨c, rfl⟩
    rw [hc] at hx
    cases hx
    have il : i < l.length + 1 := by rw [← hL]; exact (List.getElem?_eq_some_iff.mp hc).1
    have ed : (l ++ [32]).drop i = c :: (l ++ [32]).drop (i + 1) := by
      obtain ⟨h1, h2⟩ := List.getElem?_eq_some_iff.mp hc
      rw [← h2]; exact (List.getElem_cons_drop h1).symm
    rw [ed] at he
    have he : a ++ (if sepC c then flu u i ++ ((if c = 32 then [] else [([c], i)]) ++ tkw ((l ++ [32]).drop (i + 1)) (i + 1) []) else tkw ((l ++ [32]).drop (i + 1)) (i + 1) (u ++ [c])) = tkw l 0 [] := he
    have zero : sepC c = false → i + 1 ≠ l.length + 1 := fun hs z => by
      have : i = l.length := by omega
      rw [this, List.getElem?_append_right (Nat.le_refl _), Nat.sub_self] at hc
      cases hc
      exact absurd hs (by decide)
    refine gw_tup rfl ?_
    walk_at "s"
    refine ⟨c, rfl, ?_⟩
    walk_at "s"
    rw [in_seps]
    cases hs : sepC c with
    | true =>
      rw [if_pos hs] at he
      refine cnd_t ?_
      refine sw_cut (fun G => G = [.d (.str (tx l)), .ow (ol ((a ++ flu u i).map tokD)), .d (.str (tx u)), .d (.int (i : Nat)), .d (sg c)]) ?_ ?_
      · walk_at "s"
        rw [tx_none]
        refine cnd_nd (fun hne => ?_) fun hne => ?_
        · have un : u ≠ [] := fun z => hne (by rw [z])
          refine sw_app (i := 1) rfl (by rw [List.length_map]; omega) ?_
          walk_at "s"
          refine ⟨tx u, rfl, hz (by omega), ?_⟩
          rw [tx_len]
          walk_at "s"
          have e1 : flu u i = [(u, i - u.length)] := if_neg un
          rw [e1, List.map_append]
          show [_, En.ow (ol (a.map tokD ++ [_])), _, _, _] = [_, En.ow (ol (a.map tokD ++ [tokD (u, i - u.length)])), _, _, _]
          rw [show tokD (u, i - u.length) = .tuple [.str (tx u), .int ((i : Int) - (u.length : Nat))] by unfold tokD; rw [show (((i - u.length : Nat) : Int)) = (i : Int) - (u.length : Nat) by omega]]
        · have un : u = [] := tx_eq.mp hne
          walk_at "s"
          rw [un, show flu [] i = [] from if_pos rfl, List.append_nil]
          rfl
      · rintro _ rfl
        have fl : (flu u i).length ≤ 1 := by unfold flu; split <;> simp
        walk_at "s"
        refine sw_seq ?_
        walk_at "s"
        refine cnd_nd (fun hne => ?_) fun hne => ?_
        · have cn : c ≠ 32 := fun z => hne (by rw [z])
          rw [if_neg cn] at he
          refine sw_app (i := 1) rfl (by rw [List.length_map, List.length_append]; omega) ?_
          walk_at "s"
          refine ⟨a ++ flu u i ++ [([c], i)], [], .d (.int (i : Nat)), .d (sg c), ?_, Nat.zero_le _, ?_, fun _ => rfl, by omega, ?_⟩
          · rw [← he]; simp
          · simp only [List.length_append, List.length_singleton]; omega
          · rw [List.map_append (l₂ := [([c], i)]), ← tx_none]; rfl
        · have cn : c = 32 := by
            have := tx_eq.mp (show tx [c] = tx [32] from hne)
            simpa using this
          rw [if_pos cn] at he
          walk_at "s"
          refine ⟨a ++ flu u i, [], .d (.int (i : Nat)), .d (sg c), ?_, Nat.zero_le _, ?_, fun _ => rfl, by omega, ?_⟩
          · rw [← he]; simp
          · simp only [List.length_append]; omega
          · rw [← tx_none]; rfl
    | false =>
      rw [if_neg (by rw [hs]; decide)] at he
      refine cnd_f ?_
      refine sw_augStr (i := 2) (tx u) rfl ?_
      walk_at "s"
      refine ⟨by rw [tx_len]; exact Nat.le_trans (Nat.add_le_add hu (Nat.le_refl 1)) (Nat.le_trans (show i + 1 ≤ 3000010 by omega) (by decide)), ?_⟩
      walk_at "s"
      refine ⟨a, u ++ [c], .d (.int (i : Nat)), .d (sg c), he, by rw [List.length_append, List.length_singleton]; omega, by omega, fun z => absurd z (zero hs), by omega, ?_⟩
      rw [← tx_app]
      rfl
  · rintro _ ⟨a, u, e3, e4, he, hu, ha, hb, hi, rfl⟩
    rw [enD_len, List.length_map] at *
    have hn : (tx (l ++ [32])).cps.toList.length = l.length + 1 := hL
    rw [hn] at he hb
    have hb := hb rfl
    subst hb
    rw [List.drop_eq_nil_of_le (by rw [hL]; exact Nat.le_refl _)] at he
    have he : a ++ [] = tkw l 0 [] := he
    rw [List.append_nil] at he
    refine sw_freeze (i := 1) rfl ?_
    walk_at "s"
    refine ⟨tx l, rfl, hz (by omega), ?_⟩
    walk_at "s"
    refine ⟨by rw [List.length_map]; simp; omega, ?_⟩
    rw [show toks l = a ++ [([], l.length)] by unfold toks; rw [he], List.map_append] at h
    rw [tx_len, tx_none]
    exact h
  ) only [↓qt_eq])
end


end
section
/-! Trees: their form, parts, rows. -/
open PySem PyProof.Rows L2 Evl

inductive Tr where
  | nm (s : Str)
  | tm (n : Int) (t : Tr)
  | tn (t : Tr)
  | cy (m : List (List Fr)) (t : Tr)
  | pr (w : Str) (t u : Tr)
namespace Tr
noncomputable def enc : Tr → PyData
  | nm s => .tuple [.str "name", .str s]
  | tm n t => .tuple [.str "times", .int n, enc t]
  | tn t => .tuple [.str "turn", enc t]
  | cy m t => .tuple [.str "carry", mp m, enc t]
  | pr w t u => .tuple [.str w, enc t, enc u]
noncomputable def kids : Tr → List Tr
  | nm _ => []
  | tm _ t => [t]
  | tn t => [t]
  | cy _ t => [t]
  | pr _ t u => [t, u]
noncomputable def depth : Tr → Nat
  | nm _ => 0
  | tm _ t => depth t + 1
  | tn t => depth t + 1
  | cy _ t => depth t + 1
  | pr _ t u => max (depth t) (depth u) + 1
/-- the words of two trees -/
noncomputable def pairs : List Str := ["add", "take", "meet", "least", "most", "lay"]
/-- its words and maps are such -/
noncomputable def Wf : Tr → Prop
  | nm _ => True
  | tm _ t => Wf t
  | tn t => Wf t
  | cy m t => (∃ gl st, Mp 10 gl st m ∧ 0 < gl ∧ gl ≤ 2 ∧ 0 < st ∧ st ≤ 2) ∧ Wf t
  | pr w t u => w ∈ pairs ∧ Wf t ∧ Wf u
theorem kid_depth {t k : Tr} (m : k ∈ t.kids) : k.depth < t.depth := qt_of (by simp (disch := with_unfolding_all
  cases t with
  | nm s => cases m
  | tm n t => rw [List.mem_singleton.mp m]; exact Nat.lt_succ_self _
  | tn t => rw [List.mem_singleton.mp m]; exact Nat.lt_succ_self _
  | cy n t => rw [List.mem_singleton.mp m]; exact Nat.lt_succ_self _
  | pr w t u =>
    rcases List.mem_cons.mp m with rfl | m
    · show _ < max _ _ + 1; omega
    · rw [List.mem_singleton.mp m]; show _ < max _ _ + 1; omega
  ) only [↓qt_eq])
noncomputable def word : Tr → Str
  | nm _ => "name"
  | tm _ _ => "times"
  | tn _ => "turn"
  | cy _ _ => "carry"
  | pr w _ _ => w
noncomputable def rest : Tr → List PyData
  | nm s => [.str s]
  | tm n t => [.int n, enc t]
  | tn t => [enc t]
  | cy m t => [mp m, enc t]
  | pr _ t u => [enc t, enc u]
theorem enc_eq (t : Tr) : t.enc = .tuple (.str t.word :: t.rest) := by cases t <;> rfl
theorem pairs_ne {w : Str} (h : w ∈ pairs) : w ≠ "name" ∧ w ≠ "times" ∧ w ≠ "carry" ∧ w ≠ "turn" := by
  simp only [pairs, List.mem_cons, List.not_mem_nil, or_false] at h
  rcases h with rfl | rfl | rfl | rfl | rfl | rfl <;> exact ⟨by decide, by decide, by decide, by decide⟩
end Tr
theorem eqv_strD (i j : Str) : PyData.eqv (.str i) (.str j) = decide (i = j) := by
  unfold PyData.eqv
  by_cases h : i = j
  · simp [h]
  · simp [h]
theorem in2 {w a b : Str} {P Q : Prop} (hs : SeqAt.shaped (.str w) = true) (hl : SeqAt.shaped (.list [.str a, .str b]) = true) (h1 : (w = a ∨ w = b) → P) (h2 : ¬ (w = a ∨ w = b) → Q) : SeqAt.shaped (.str w) = true ∧ SeqAt.shaped (.list [.str a, .str b]) = true ∧ ∃ c, PyData.bool (if false = true then !([PyData.str a, .str b].any fun z => PyData.eqv z (.str w)) else [PyData.str a, .str b].any fun z => PyData.eqv z (.str w)) = .bool c ∧ Cnd c P Q := qt_of (by simp (disch := with_unfolding_all
  refine ⟨hs, hl, _, rfl, ?_⟩
  rw [if_neg (by decide)]
  simp only [List.any_cons, List.any_nil, eqv_strD, Bool.or_false]
  by_cases e1 : w = a
  · rw [decide_eq_true e1.symm]; exact cnd_t (h1 (.inl e1))
  · rw [decide_eq_false (fun z => e1 z.symm), Bool.false_or]
    by_cases e2 : w = b
    · rw [decide_eq_true e2.symm]; exact cnd_t (h1 (.inr e2))
    · rw [decide_eq_false (fun z => e2 z.symm)]; exact cnd_f (h2 fun z => z.elim e1 e2)
  ) only [↓qt_eq])
section
variable {K : Fg} {cs : Cs} {gs : Gs} {φ : PyData → Prop} {A : Rs → Prop} {ε : Xw → Prop} {w : World}
-- slots of inner_of: 0 tree, 1 word, 2 rest
-- slots of row_of: 0 tree
/-! the parts, in the order of their ends -/
-- slots of parts_of: 0 tree, 1 found, 2 inner
/-! rows -/
-- slots of rows_of: 0 tree, 1 one
/-! the names, as they come first -/
-- slots of names_in: 0 tree, 1 found, 2 one
/-! the law's own -/
-- slots of _law_inner: 0 _law_tree_here
-- slots of _law_row: 0 _law_tree_here
-- slots of _law_parts: 0 _law_tree_here, 1 _law_found, 2 _law_inner_here
end


end
section
/-! Trees drawn. -/
open PySem PyProof.Rows L2 Evl

namespace Tr
/-- its names stand in a list -/
noncomputable def Ns (ns : List Str) : Tr → Prop
  | nm s => s ∈ ns
  | tm _ t => Ns ns t
  | tn t => Ns ns t
  | cy _ t => Ns ns t
  | pr _ t u => Ns ns t ∧ Ns ns u
end Tr
section
variable {K : Fg} {cs : Cs} {gs : Gs} {φ : PyData → Prop} {A : Rs → Prop} {ε : Xw → Prop} {w : World}
theorem menu_at {xs : List PyData} {v : Int} (h0 : 0 ≤ v) (h1 : v < xs.length) : ∃ z ∈ xs, atI xs v = some z := by
  obtain ⟨k, rfl⟩ := Int.eq_ofNat_of_zero_le h0
  have hk : k < xs.length := by omega
  exact ⟨xs[k], List.getElem_mem _, atI_nat (List.getElem?_eq_getElem hk)⟩
-- slots of _law_tree: 0 _law_bag_here, 1 _law_deep, 2 _law_names, 3 _law_kind, 4 _law_word, 5 _law_number, 6 _law_table
/-! trees whose rooms fit -/
noncomputable def unitM (r : Nat) : List (List Fr) := (List.range r).map fun i => ((List.range (r + 1)).map fun _ => ((0, 1) : Fr)).set i (1, 1)
-- slots of _law_unit: 0 _law_rank_here, 1 _law_found, 2 _law_at, 3 _law_row_here, 4 _law_to
-- slots of _law_fit_tree: 0 _law_bag_here, 1 _law_deep, 2 _law_rank_here, 3 _law_names, 4 _law_kind, 5 _law_word, 6 _law_first, 7 _law_fitting, 8 _law_start, 9 _law_table, 10 _law_name, 11 _law_size
end


end
section
/-! What is a name; how a text is read, plain. -/
open PySem PyProof.Rows L2 Evl

noncomputable def wordsS : List Str := ["add", "take", "meet", "least", "most", "lay", "times", "turn", "carry"]
noncomputable abbrev wordsD : PyData := .tuple [.str "add", .str "take", .str "meet", .str "least", .str "most", .str "lay", .str "times", .str "turn", .str "carry"]
noncomputable abbrev pairsD : PyData := .tuple [.str "add", .str "take", .str "meet", .str "least", .str "most", .str "lay"]
noncomputable def lowC (c : Nat) : Bool := decide (97 ≤ c ∧ c ≤ 122)
noncomputable def isNameL (l : List Nat) : Bool := decide (1 ≤ l.length ∧ l.length ≤ 12) && !decide (tx l ∈ wordsS) && lowC (l.headD 0) && l.all fun c => lowC c || dgt c
noncomputable abbrev abcT : List Nat := [97, 98, 99, 100, 101, 102, 103, 104, 105, 106, 107, 108, 109, 110, 111, 112, 113, 114, 115, 116, 117, 118, 119, 120, 121, 122]
theorem tx_abc : TL.tl ("abcdefghijklmnopqrstuvwxyz" : Str) = abcT := by rw [TL.tl_ofString]; rfl
theorem mem_range {l : List Nat} {a b c : Nat} (h : l = (List.range (b + 1 - a)).map (· + a)) : c ∈ l ↔ a ≤ c ∧ c ≤ b := by
  subst h
  rw [List.mem_map]
  constructor
  · rintro ⟨i, hi, rfl⟩
    have := List.mem_range.mp hi
    omega
  · intro h
    exact ⟨c - a, List.mem_range.mpr (by omega), by omega⟩
theorem in_abc (c : Nat) : decide (c ∈ ("abcdefghijklmnopqrstuvwxyz" : Str).cps.toList) = lowC c := by
  rw [show ("abcdefghijklmnopqrstuvwxyz" : Str).cps.toList = abcT from tx_abc]
  unfold lowC
  congr 1
  exact propext (mem_range (a := 97) (b := 122) (by decide))
theorem in_abc9 (c : Nat) : decide (c ∈ (("abcdefghijklmnopqrstuvwxyz" : Str) ++ "0123456789").cps.toList) = (lowC c || dgt c) := qt_of (by simp (disch := with_unfolding_all
  rw [show (("abcdefghijklmnopqrstuvwxyz" : Str) ++ "0123456789").cps.toList = abcT ++ [48, 49, 50, 51, 52, 53, 54, 55, 56, 57] from by
    show TL.tl _ = _
    rw [TL.tl_append, tx_abc, tx_ten]]
  have h1 : c ∈ abcT ↔ 97 ≤ c ∧ c ≤ 122 := mem_range (a := 97) (b := 122) (by decide)
  have h2 : c ∈ ([48, 49, 50, 51, 52, 53, 54, 55, 56, 57] : List Nat) ↔ 48 ≤ c ∧ c ≤ 57 := mem_range (a := 48) (b := 57) (by decide)
  unfold lowC dgt
  rw [decide_eq_decide.mpr (show c ∈ abcT ++ [48, 49, 50, 51, 52, 53, 54, 55, 56, 57] ↔ (97 ≤ c ∧ c ≤ 122) ∨ (48 ≤ c ∧ c ≤ 57) by rw [List.mem_append, h1, h2])]
  exact Bool.decide_or _ _
  ) only [↓qt_eq])
/-! ### how a text is read -/
noncomputable abbrev Tok1 := List Nat × Nat
noncomputable def hdT (r : List Tok1) : List Nat := (r.headD ([], 0)).1
noncomputable def plT (r : List Tok1) : Nat := (r.headD ([], 0)).2
noncomputable def sndT : List Tok1 → List Nat
  | _ :: t :: _ => t.1
  | [t] => t.1
  | [] => []
noncomputable def thn1 {α β : Type} (a : Except Nat α) (f : α → Except Nat β) : Except Nat β := match a with
  | .error e => .error e
  | .ok x => f x
/-- the next word, which must fit -/
noncomputable def takeT (fits : Bool) (r : List Tok1) : Except Nat (List Tok1) := if fits = true then .ok (r.drop 1) else .error (plT r)
noncomputable def numT (r : List Tok1) : Except Nat (Int × List Tok1) := match wholeL (hdT r) 18 with
  | some n => .ok (n, r.drop 1)
  | none => .error (plT r)
noncomputable def moreT (size : Option Nat) (f : List Fr) (r : List Tok1) : Bool := decide (f.length < size.getD 2) || (decide (size = none) && (decide (f.length < 3) && !decide (hdT r = [41])))
noncomputable def restT (size : Option Nat) : Nat → List Fr → List Tok1 → Except Nat (List Fr × List Tok1)
  | 0, f, r => .ok (f, r)
  | n + 1, f, r => if moreT size f r then (match partL (hdT r) 18 with
    | some p => restT size n (f ++ [p]) (r.drop 1)
    | none => .error (plT r)) else .ok (f, r)
noncomputable def rowT (size : Option Nat) (r : List Tok1) : Except Nat (List Fr × List Tok1) :=
  thn1 (takeT (decide (hdT r = [40])) r) fun r1 => thn1 (restT size 4 [] r1) fun q => thn1 (takeT (decide (hdT q.2 = [41])) q.2) fun r3 => .ok (q.1, r3)
noncomputable def wayT (r : List Tok1) : Except Nat (List (List Fr) × List Tok1) :=
  thn1 (rowT none r) fun q => if hdT q.2 = [40] ∧ tx (sndT q.2) ∉ wordsS then thn1 (rowT (some q.1.length) q.2) fun q2 => .ok ([q.1, q2.1], q2.2) else .ok ([q.1], q.2)
noncomputable def treeT : Nat → Nat → List Tok1 → Except Nat (Tr × List Tok1)
  | 0, _, _ => .error 0
  | n + 1, deep, r => if hdT r = [40] then
      thn1 (takeT (decide (deep < 12)) r) fun r1 => thn1 (takeT (decide (tx (hdT r1) ∈ wordsS)) r1) fun r2 =>
        thn1 (if tx (hdT r1) ∈ Tr.pairs then thn1 (treeT n (deep + 1) r2) fun q => thn1 (treeT n (deep + 1) q.2) fun q2 => .ok (Tr.pr (tx (hdT r1)) q.1 q2.1, q2.2)
          else if tx (hdT r1) = "turn" then thn1 (treeT n (deep + 1) r2) fun q => .ok (Tr.tn q.1, q.2)
          else if tx (hdT r1) = "times" then thn1 (numT r2) fun q => thn1 (treeT n (deep + 1) q.2) fun q2 => .ok (Tr.tm q.1 q2.1, q2.2)
          else thn1 (wayT r2) fun q => thn1 (treeT n (deep + 1) q.2) fun q2 => .ok (Tr.cy q.1 q2.1, q2.2)) fun q =>
        thn1 (takeT (decide (hdT q.2 = [41])) q.2) fun r5 => .ok (q.1, r5)
    else thn1 (takeT (isNameL (hdT r)) r) fun r1 => .ok (Tr.nm (tx (hdT r)), r1)
noncomputable def readT (l : List Nat) : Except Nat Tr := thn1 (treeT 14 0 (toks l)) fun q => thn1 (takeT (decide (hdT q.2 = [])) q.2) fun _ => .ok q.1
section
variable {K : Fg} {cs : Cs} {gs : Gs} {φ : PyData → Prop} {A : Rs → Prop} {ε : Xw → Prop} {w : World}
/-- whether a thing is a name -/
noncomputable def isNameD : PyData → Bool
  | .str z => isNameL (TL.tl z)
  | _ => false
noncomputable def P_isName : Pr := fun ds A => ∃ x : PyData, ds = [x] ∧ (∃ b, kitB (tyN x) "str" = some b ∧ (b = true → ∃ l : List Nat, x = .str (tx l) ∧ l.length ≤ 3000000) ∧ (b = false → isNameD x = false)) ∧ A (.ok (.bool (isNameD x)))
noncomputable def t_is_name (K : Fg) (gs : Gs) : TS := (tSeq (tIfS (tOr (tNot (tB (tCB (rIsi K) (tCons (tVar 0) (tCons (tC (V.ty "str")) tNil))))) (tOr (tNot (tTest (tChain rLeI rLeI (tC (V.int 1)) (tCB rLenS (tCons (tVar 0) tNil)) (tC (V.int 12))))) (tTest (tOp (rInT K false) (tVar 0) (tC (gs "WORDS")))))) (tRet (tC (V.bl false))) tNext)
  (tRet (tAndV (tOp rInSg (tOp rIxS (tVar 0) (tC (V.int 0))) (tC (V.str "abcdefghijklmnopqrstuvwxyz"))) (tCB (rAll K) (tCons (tLc (iStr (tVar 0)) (gName 1) tYes (tOp rInSg (tVar 1) (tOp rAddStr (tC (V.str "abcdefghijklmnopqrstuvwxyz")) (tC (V.str "0123456789")))) [1]) tNil)))))
-- slots of is_name: 0 thing, 1 sign
theorem ln_is_name : ∀ ds A, P_isName ds A → ds.length = 1 := fun ds A h => by obtain ⟨_, rfl, _⟩ := h; rfl
theorem rd_is_name {ds A} (gd : ∀ H, Dp K H (gs "WORDS") wordsD) (h : P_isName ds A) : SW K cs W0 (t_is_name K gs) (frame 2 ds) (rts0 A) := qt_of (by simp (disch := with_unfolding_all
  obtain ⟨x, rfl, ⟨b, hb, hy, hn⟩, h⟩ := h
  unfold t_is_name
  refine sw_seq ?_
  walk_at "s"
  refine ⟨b, hb, _, rfl, ?_⟩
  cases b with
  | false =>
    rw [hn rfl] at h
    refine cnd_nf (cnd_t ?_)
    walk_at "s"
    exact h
  | true =>
    obtain ⟨l, rfl, hl⟩ := hy rfl
    have hz : (tx l).length ≤ sizeLine := by rw [tx_len]; exact Nat.le_trans hl (by decide)
    refine cnd_nt ?_
    walk_at "s"
    refine ⟨tx l, rfl, hz, _, rfl, ?_⟩
    rw [tx_len]
    have h : A (.ok (.bool (isNameL l))) := h
    have none_ : isNameL l = false → A (.ok (.bool false)) := fun e => by rw [e] at h; exact h
    refine cnd_d (fun h1 => ?_) fun h1 => ?_
    rotate_left
    · refine ⟨_, rfl, ?_⟩
      refine cnd_nf (cnd_t ?_)
      walk_at "s"
      exact none_ (by unfold isNameL; rw [decide_eq_false (fun z => h1 (by have := z.1; omega))]; rfl)
    walk_at "s"
    refine cnd_nd (fun h2 => cnd_t ?_) fun h2 => ?_
    · walk_at "s"
      exact none_ (by unfold isNameL; rw [decide_eq_false (fun z => h2 (by have := z.2; omega))]; rfl)
    have hlen : 1 ≤ l.length ∧ l.length ≤ 12 := ⟨by omega, by omega⟩
    walk_at "s"
    refine ⟨wordsS, rfl, ?_⟩
    walk_at "s"
    refine cnd_d (fun h3 => ?_) fun h3 => ?_
    · walk_at "s"
      exact none_ (by unfold isNameL; rw [decide_eq_true h3]; simp)
    walk_at "s"
    obtain ⟨c, l', rfl⟩ : ∃ c l', l = c :: l' := by
      cases l with
      | nil => simp at hlen
      | cons c l' => exact ⟨c, l', rfl⟩
    refine ⟨hz, ?_⟩
    walk_at "s"
    obtain ⟨c', e1, e2⟩ := atI_zero (l := c :: l') (by simp)
    cases e2
    refine ⟨0, c, rfl, e1, ?_⟩
    refine ⟨c, rfl, ?_⟩
    walk_at "s"
    rw [in_abc]
    have hd : isNameL (c :: l') = (lowC c && (c :: l').all fun c => lowC c || dgt c) := by
      unfold isNameL
      rw [decide_eq_true hlen, decide_eq_false h3]
      rfl
    cases hc : lowC c with
    | false =>
      refine cnd_f ?_
      walk_at "s"
      exact none_ (by rw [hd, hc]; rfl)
    | true =>
      refine cnd_t ?_
      walk_at "s"
      refine lcM (f := sg) (fun c => .bool (lowC c || dgt c)) (by show (c :: l').length ≤ _; omega) (unk1 rfl) (fun a _ => ?_) ?_
      · refine gc_name (by simp) ?_
        walk_at "s"
        refine ⟨a, rfl, ?_⟩
        walk_at "s"
        refine ⟨by decide, ?_⟩
        walk_at "s"
        rw [in_abc9]
      walk_at "s"
      have e : isNameL (c :: l') = (c :: l').all fun c => lowC c || dgt c := by rw [hd, hc]; rfl
      rw [e] at h
      exact h
  ) only [↓qt_eq])
end


end
section
/-! The reader's small steps. -/
open PySem PyProof.Rows L2 Evl

section
variable {K : Fg} {cs : Cs} {gs : Gs} {w : World} {W : WX}
noncomputable abbrev rdNm : List Str := ["tokens", "spent"]
noncomputable abbrev rdFs (ts : List Tok1) (k : Nat) : Fs := [("tokens", .d (.list (ts.map tokD))), ("spent", .d (.int (k : Nat)))]
/-- a reader -/
noncomputable abbrev rdg (cs : Cs) (dx : Addr) (ts : List Tok1) (k : Nat) : Own := ins (cs "Reading") dx (rdFs ts k)
/-- it stands at a word; the last one is the end -/
structure AtT (ts : List Tok1) (k : Nat) (r : List Tok1) : Prop where
  r : r = ts.drop k
  k : k < ts.length
  e : (ts.getLast?.map (·.1)) = some []
  s : ts.length ≤ 15000000
  w : ∀ t ∈ ts, t.1.length ≤ 100000
noncomputable def xAt (c : Str) (p : Nat) : Xw := ⟨c, [("at", .int p), ("word", .str c)]⟩
noncomputable def P_rdInit (cs : Cs) : PrO := fun es O A => ∃ (a dx : Addr) (l : List Nat), es = [.vl (.ref a), .d (.str (tx l))] ∧ O a = some (ins (cs "Reading") dx []) ∧ l.length ≤ 3000000 ∧ A (.ok (.d .none) (updO O a (rdg cs dx (toks l) 0)))
noncomputable def t_Reading___init__ (K : Fg) : TS := (tSeq (sFld K (tVar 0) (tCall (spW0 K P_tokens) [] E0 (tCons (tVar 1) tNil)) "tokens")
  (sFld K (tVar 0) (tC (V.int 0)) "spent"))
-- slots of Reading.__init__: 0 self, 1 text
theorem ln_Reading___init__ : ∀ es O A, P_rdInit cs es O A → es.length = 2 := fun es O A h => by obtain ⟨_, _, _, rfl, _⟩ := h; rfl
theorem rd_Reading___init__ {es O A} (co : ClsO K (cs "Reading") rdNm) (h : P_rdInit cs es O A) : SO K cs W0 (t_Reading___init__ K) (frameE 2 es) O (rtsO0 A) := qt_of (by simp (disch := with_unfolding_all
  obtain ⟨a, dx, l, rfl, ho, hl, h⟩ := h
  unfold t_Reading___init__
  refine os_seq (os_fldV rfl (oe_callW (fun _ => .nil) (oa_cons (oe_w (ew_var rfl ?_)))))
  refine oa_nil ⟨[.str (tx l)], rfl, l, rfl, hl, ?_⟩
  refine ⟨.d (.list ((toks l).map tokD)), _, dx, _, rdNm, rfl, ho, co, by decide, by decide, ?_⟩
  refine os_fldV rfl (oe_w (ew_int ?_))
  refine ⟨.d (.int 0), _, dx, _, rdNm, rfl, updO_same, co, by decide, show 1 < 1000 by decide, ?_⟩
  rw [updO_updO]
  exact h
  ) only [↓qt_eq])
theorem AtT.ne {ts : List Tok1} {k : Nat} {r : List Tok1} (h : AtT ts k r) : ∃ t r', r = t :: r' ∧ ts[k]? = some t := by
  obtain ⟨rfl, hk, _, _, _⟩ := h
  refine ⟨ts[k], ts.drop (k + 1), (List.getElem_cons_drop hk).symm, List.getElem?_eq_getElem hk⟩
/-- what is seen -/
noncomputable def seenT (r : List Tok1) : Nat → List Nat
  | 0 => hdT r
  | _ => sndT r
theorem seen_at {ts : List Tok1} {k j : Nat} {r : List Tok1} (h : AtT ts k r) (hj : j ≤ 1) : ∃ t, ts[min (k + j) (ts.length - 1)]? = some t ∧ seenT r j = t.1 := qt_of (by simp (disch := with_unfolding_all
  obtain ⟨rfl, hk, _, _, _⟩ := h
  have e : ts.drop k = ts[k] :: ts.drop (k + 1) := (List.getElem_cons_drop hk).symm
  rcases Nat.le_one_iff_eq_zero_or_eq_one.mp hj with rfl | rfl
  · refine ⟨ts[k], ?_, ?_⟩
    · rw [show min (k + 0) (ts.length - 1) = k by omega]; exact List.getElem?_eq_getElem hk
    · show hdT (ts.drop k) = _
      rw [e]; rfl
  · by_cases h1 : k + 1 < ts.length
    · refine ⟨ts[k + 1], ?_, ?_⟩
      · rw [show min (k + 1) (ts.length - 1) = k + 1 by omega]; exact List.getElem?_eq_getElem h1
      · show sndT (ts.drop k) = _
        rw [e, show ts.drop (k + 1) = ts[k + 1] :: ts.drop (k + 1 + 1) from (List.getElem_cons_drop h1).symm]; rfl
    · refine ⟨ts[k], ?_, ?_⟩
      · rw [show min (k + 1) (ts.length - 1) = k by omega]; exact List.getElem?_eq_getElem hk
      · show sndT (ts.drop k) = _
        rw [e, List.drop_eq_nil_of_le (by omega)]; rfl
  ) only [↓qt_eq])
noncomputable def P_seen (cs : Cs) : PrO := fun es O A => ∃ (a dx : Addr) (ts : List Tok1) (k : Nat) (r : List Tok1) (j : Nat), es = [.vl (.ref a), .d (.int (j : Nat))] ∧ O a = some (rdg cs dx ts k) ∧ AtT ts k r ∧ j ≤ 1 ∧ A (.ok (.d (.str (tx (seenT r j)))) O)
noncomputable def t_Reading_seen (K : Fg) : TS := (tRet (tOp (rIx K) (tOp (rIx K) (tFld K (tVar 0) "tokens") (tCB rMn (tCons (tOp rAddI (tFld K (tVar 0) "spent") (tVar 1)) (tCons (tOp rSubI (tCB (rLenQ K) (tCons (tFld K (tVar 0) "tokens") tNil)) (tC (V.int 1))) tNil)))) (tC (V.int 0))))
-- slots of Reading.seen: 0 self, 1 ahead
theorem ln_Reading_seen : ∀ es O A, P_seen cs es O A → es.length = 2 := fun es O A h => by obtain ⟨_, _, _, _, _, _, rfl, _⟩ := h; rfl
theorem rd_Reading_seen {es O A} (co : ClsO K (cs "Reading") rdNm) (h : P_seen cs es O A) : SO K cs W0 (t_Reading_seen K) (frameE 2 es) O (rtsO0 A) := qt_of (by simp (disch := with_unfolding_all
  obtain ⟨a, dx, ts, k, r, j, rfl, ho, hr, hj, h⟩ := h
  unfold t_Reading_seen
  have ft : ∀ {φ : En → Sto → Prop} {ε : Xw → Sto → Prop}, φ (.d (.list (ts.map tokD))) O → EO K cs W0 (tFld K (tVar 0) "tokens") (frameE 2 [.vl (.ref a), .d (.int (j : Nat))]) O φ ε := fun p => oe_fldV rfl ho co (by decide) rfl p
  have fs : ∀ {φ : En → Sto → Prop} {ε : Xw → Sto → Prop}, φ (.d (.int (k : Nat))) O → EO K cs W0 (tFld K (tVar 0) "spent") (frameE 2 [.vl (.ref a), .d (.int (j : Nat))]) O φ ε := fun p => oe_fldV rfl ho co (by decide) rfl p
  have hk := hr.k
  have hs := hr.s
  have step : ∀ {i : Nat}, i < ts.length → atI (ts.map tokD) (i : Nat) = (ts[i]?).map tokD := fun {i} hi => by
    rw [← List.getElem?_map]
    have : (ts.map tokD)[i]? = some (tokD ts[i]) := by rw [List.getElem?_map, List.getElem?_eq_getElem hi]; rfl
    rw [this]
    exact atI_nat this
  refine os_ret ?_
  refine oe_op ?_
  refine oe_op (ft ⟨_, rfl, ?_⟩)
  refine oe_cb2 ?_
  refine oe_op (fs ⟨_, rfl, oe_w (ew_var rfl ⟨_, rfl, ?_⟩)⟩)
  walk_at "s"
  refine ⟨_, rfl, ?_⟩
  refine oe_op ?_
  refine oe_cb1 (ft ⟨_, rfl, ?_⟩)
  walk_at "s"
  refine ⟨_, rfl, oe_w (ew_int ⟨_, rfl, ?_⟩)⟩
  walk_at "s"
  refine ⟨_, rfl, ?_⟩
  walk_at "s"
  obtain ⟨t, e1, e2⟩ := seen_at hr hj
  rw [e2] at h
  have em : minI ((k : Int) + (j : Int)) (((ts.map tokD).length : Int) - 1) = ((min (k + j) (ts.length - 1) : Nat) : Int) := by
    unfold minI
    rw [List.length_map]
    split <;> omega
  rw [em]
  refine ⟨_, rfl, ?_⟩
  walk_at "s"
  refine ⟨tokD t, atI_nat (by rw [List.getElem?_map, e1]; rfl), _, rfl, oe_w (ew_int ⟨_, rfl, ?_⟩)⟩
  show EW K cs W0 _ [_, _, .d (.tuple [.str (tx t.1), .int (t.2 : Nat)]), _] _ _
  walk_at "s"
  exact h
  ) only [↓qt_eq])
noncomputable def P_taken (cs : Cs) : PrO := fun es O A => ∃ (a dx : Addr) (ts : List Tok1) (k : Nat) (r : List Tok1) (b : Bool), es = [.vl (.ref a), .d (.bool b)] ∧ O a = some (rdg cs dx ts k) ∧ AtT ts k r ∧
  (b = false → A (.er (xAt "Unread" (plT r)) O)) ∧ (b = true → A (.ok (.d (.str (tx (hdT r)))) (updO O a (rdg cs dx ts (k + 1)))))
noncomputable def t_Reading_taken (K : Fg) (cs : Cs) (W : WX) : TS := (tSeq (tAsg (tOp (rIx K) (tFld K (tVar 0) "tokens") (tFld K (tVar 0) "spent")) (gTup K 2 (gCons (gName 2) (gCons (gName 3) gNil))))
  (tSeq (tIfS (tNot (tB (tVar 1))) (tRaiseX (cs "Unread") (spIn K ["word", "at"] (gAt "Unread")) [] (tCons (tVar 3) tNil) W) tNext)
  (tSeq (sFldAug K (tVar 0) (tC (V.int 1)) rAddI "spent")
  (tRet (tVar 2)))))
-- slots of Reading.taken: 0 self, 1 fits, 2 word, 3 place
theorem ln_Reading_taken : ∀ es O A, P_taken cs es O A → es.length = 2 := fun es O A h => by obtain ⟨_, _, _, _, _, _, rfl, _⟩ := h; rfl
theorem rd_Reading_taken {es O A} (co : ClsO K (cs "Reading") rdNm) (cf : ClsF K cs "Unread" ["word", "at"]) (h : P_taken cs es O A) (W : WX) : SO K cs W (t_Reading_taken K cs W) (frameE 4 es) O (rtsO A) := qt_of (by simp (disch := with_unfolding_all
  obtain ⟨a, dx, ts, k, r, b, rfl, ho, hr, hf, ht⟩ := h
  unfold t_Reading_taken
  have ft : ∀ {φ : En → Sto → Prop} {ε : Xw → Sto → Prop}, φ (.d (.list (ts.map tokD))) O → EO K cs W (tFld K (tVar 0) "tokens") (frameE 4 [.vl (.ref a), .d (.bool b)]) O φ ε := fun p => oe_fldV rfl ho co (by decide) rfl p
  have fs : ∀ {φ : En → Sto → Prop} {ε : Xw → Sto → Prop}, φ (.d (.int (k : Nat))) O → EO K cs W (tFld K (tVar 0) "spent") (frameE 4 [.vl (.ref a), .d (.bool b)]) O φ ε := fun p => oe_fldV rfl ho co (by decide) rfl p
  obtain ⟨t, r', rfl, et⟩ := hr.ne
  refine os_seq (os_asgT ?_)
  refine oe_op (ft ⟨_, rfl, fs ⟨_, rfl, ?_⟩⟩)
  walk_at "s"
  refine ⟨tokD t, atI_nat (by rw [List.getElem?_map, et]; rfl), _, rfl, ?_⟩
  show GW K _ _ (.tuple [.str (tx t.1), .int (t.2 : Nat)]) _
  walk_at "s"
  refine os_seq (os_if (ot_w ?_))
  walk_at "s"
  cases b with
  | false =>
    refine cnd_nf ?_
    refine os_w (sw_raise1 cf ?_)
    walk_at "s"
    refine ⟨_, _, rfl, rfl, ?_⟩
    exact hf rfl
  | true =>
    refine cnd_nt ?_
    refine os_next ?_
    refine os_seq (os_fldInc (k := (k : Nat)) rfl ho co (by decide) rfl (show 2 < 1000 by decide) ?_)
    refine os_ret (oe_w (ew_var rfl ?_))
    exact ht rfl
  ) only [↓qt_eq])
end


end
section
/-! The reader: a number, the rows of a map. -/
open PySem PyProof.Rows L2 Evl

section
variable {K : Fg} {cs : Cs} {gs : Gs} {w : World} {W : WX} {G : Gam} {O : Sto} {φ : En → Sto → Prop} {ε : Xw → Sto → Prop} {te : TE} {i : Nat} {a dx : Addr} {ts : List Tok1} {k : Nat} {r : List Tok1}
theorem AtT.next (h : AtT ts k r) (n : hdT r ≠ []) : AtT ts (k + 1) (r.drop 1) := qt_of (by simp (disch := with_unfolding_all
  obtain ⟨rfl, hk, he, hs, hw⟩ := h
  refine ⟨by rw [List.drop_drop], ?_, he, hs, hw⟩
  by_cases h1 : k + 1 < ts.length
  · exact h1
  · exfalso
    apply n
    have e : ts.drop k = ts[k] :: ts.drop (k + 1) := (List.getElem_cons_drop hk).symm
    have el : ts.getLast? = some ts[k] := by
      rw [List.getLast?_eq_getElem?, show ts.length - 1 = k by omega]
      exact List.getElem?_eq_getElem hk
    rw [el] at he
    show hdT (ts.drop k) = []
    rw [e]
    exact Option.some.inj he
  ) only [↓qt_eq])
theorem AtT.hd (h : AtT ts k r) : (hdT r).length ≤ 100000 := by
  obtain ⟨t, r', rfl, et⟩ := h.ne
  exact h.w t (List.mem_of_getElem? et)
noncomputable abbrev SEEN (K : Fg) (cs : Cs) (i : Nat) : TE := tMeth (cs "Reading") "seen" (spO0 K (P_seen cs)) [V.int 0] E0 (tVar i) tNil
theorem oe_seen (hi : G[i]? = some (.vl (.ref a))) (ho : O a = some (rdg cs dx ts k)) (hr : AtT ts k r) (p : φ (.d (.str (tx (hdT r)))) O) : EO K cs W (SEEN K cs i) G O φ ε :=
  oe_meth0 (des := [.int 0]) (fun _ => .cons (.int 0) .nil) (oe_vl hi ⟨a, ⟨dx, _, rfl, ho, rfl⟩, oa_nil ⟨a, dx, ts, k, r, 0, rfl, ho, hr, by decide, p⟩⟩)
theorem oe_seen1 (hi : G[i]? = some (.vl (.ref a))) (ho : O a = some (rdg cs dx ts k)) (hr : AtT ts k r) (p : φ (.d (.str (tx (sndT r)))) O) : EO K cs W (tMeth (cs "Reading") "seen" (spO0 K (P_seen cs)) [] E0 (tVar i) (tCons (tC (V.int 1)) tNil)) G O φ ε :=
  oe_meth0 (des := []) (fun _ => .nil) (oe_vl hi ⟨a, ⟨dx, _, rfl, ho, rfl⟩, oa_cons (oe_w (ew_int (oa_nil ⟨a, dx, ts, k, r, 1, rfl, ho, hr, by decide, p⟩)))⟩)
theorem oe_seenEq {s : Str} {l : List Nat} (hs : s = tx l) (hi : G[i]? = some (.vl (.ref a))) (ho : O a = some (rdg cs dx ts k)) (hr : AtT ts k r) (p : φ (.d (.bool (decide (hdT r = l)))) O) : EO K cs W (tOp rEq (SEEN K cs i) (tC (V.str s))) G O φ ε := qt_of (by simp (disch := with_unfolding_all
  subst hs
  refine oe_op (oe_seen hi ho hr ⟨_, rfl, oe_w (ew_str ⟨_, rfl, ?_⟩)⟩)
  refine ew_eq (ew_var (by rw [List.getElem?_append_right (Nat.le_refl _), Nat.sub_self]; rfl) (ew_var (by rw [List.getElem?_append_right (Nat.le_succ _), show G.length + 1 - G.length = 1 by omega]; rfl) ⟨_, rfl, ?_⟩))
  rw [decide_eq_decide.mpr (tx_eq (l := hdT r) (m := l))]
  exact p
  ) only [↓qt_eq])
theorem oe_seenNe {s : Str} {l : List Nat} (hs : s = tx l) (hi : G[i]? = some (.vl (.ref a))) (ho : O a = some (rdg cs dx ts k)) (hr : AtT ts k r) (p : φ (.d (.bool (!decide (hdT r = l)))) O) : EO K cs W (tOp rNe (SEEN K cs i) (tC (V.str s))) G O φ ε := qt_of (by simp (disch := with_unfolding_all
  subst hs
  refine oe_op (oe_seen hi ho hr ⟨_, rfl, oe_w (ew_str ⟨_, rfl, ?_⟩)⟩)
  refine ew_ne (ew_var (by rw [List.getElem?_append_right (Nat.le_refl _), Nat.sub_self]; rfl) (ew_var (by rw [List.getElem?_append_right (Nat.le_succ _), show G.length + 1 - G.length = 1 by omega]; rfl) ⟨_, rfl, ?_⟩))
  rw [decide_eq_decide.mpr (tx_eq (l := hdT r) (m := l))]
  exact p
  ) only [↓qt_eq])
theorem words_items : itemsOf wordsD = some (wordsS.map PyData.str) := rfl
theorem oe_seenIn (gd : ∀ H, Dp K H (gs "WORDS") wordsD) (hi : G[i]? = some (.vl (.ref a))) (ho : O a = some (rdg cs dx ts k)) (hr : AtT ts k r) (p : φ (.d (.bool (decide (tx (hdT r) ∈ wordsS)))) O) : EO K cs W (tOp (rInT K false) (SEEN K cs i) (tC (gs "WORDS"))) G O φ ε := qt_of (by simp (disch := with_unfolding_all
  refine oe_op (oe_seen hi ho hr ⟨_, rfl, oe_w (ew_glob gd ⟨_, rfl, ?_⟩)⟩)
  refine ew_inT (ew_var (by rw [List.getElem?_append_right (Nat.le_refl _), Nat.sub_self]; rfl) ⟨_, rfl, ew_var (by rw [List.getElem?_append_right (Nat.le_succ _), show G.length + 1 - G.length = 1 by omega]; rfl) ⟨_, words_items, ?_⟩⟩)
  rw [if_neg (by decide)]
  exact p
  ) only [↓qt_eq])
theorem oe_seen1Not (gd : ∀ H, Dp K H (gs "WORDS") wordsD) (hi : G[i]? = some (.vl (.ref a))) (ho : O a = some (rdg cs dx ts k)) (hr : AtT ts k r) (p : φ (.d (.bool (!decide (tx (sndT r) ∈ wordsS)))) O) : EO K cs W (tOp (rInT K true) (tMeth (cs "Reading") "seen" (spO0 K (P_seen cs)) [] E0 (tVar i) (tCons (tC (V.int 1)) tNil)) (tC (gs "WORDS"))) G O φ ε := qt_of (by simp (disch := with_unfolding_all
  refine oe_op (oe_seen1 hi ho hr ⟨_, rfl, oe_w (ew_glob gd ⟨_, rfl, ?_⟩)⟩)
  refine ew_inT (ew_var (by rw [List.getElem?_append_right (Nat.le_refl _), Nat.sub_self]; rfl) ⟨_, rfl, ew_var (by rw [List.getElem?_append_right (Nat.le_succ _), show G.length + 1 - G.length = 1 by omega]; rfl) ⟨_, words_items, ?_⟩⟩)
  rw [if_pos rfl]
  exact p
  ) only [↓qt_eq])
theorem oe_taken (hi : G[i]? = some (.vl (.ref a))) (h : EO K cs W te G O (fun e O1 => ∃ b dx ts k r, e = .d (.bool b) ∧ O1 a = some (rdg cs dx ts k) ∧ AtT ts k r ∧ (b = false → ε (xAt "Unread" (plT r)) O1) ∧ (b = true → φ (.d (.str (tx (hdT r)))) (updO O1 a (rdg cs dx ts (k + 1))))) ε) (hl : ∃ dx ts k, O a = some (rdg cs dx ts k)) :
    EO K cs W (tMethX (cs "Reading") "taken" (spO K cs (P_taken cs)) [] (WE W) (tVar i) (tCons te tNil)) G O φ ε := qt_of (by simp (disch := with_unfolding_all
  obtain ⟨dx0, ts0, k0, ho0⟩ := hl
  exact oe_methX (des := []) (fun _ => .nil) (oe_vl hi ⟨a, ⟨dx0, _, rfl, ho0, rfl⟩, oa_cons (oe_mono h fun e O1 ⟨b, dx, ts, k, r, ee, ho, hr, hf, ht⟩ => by
    subst ee
    exact oa_nil ⟨a, dx, ts, k, r, b, rfl, ho, hr, hf, ht⟩)⟩)
  ) only [↓qt_eq])
/-- the outcome of a step, told by what is left -/
noncomputable def Out1 (cs : Cs) (A : RsO → Prop) (O : Sto) (a dx : Addr) (ts : List Tok1) {α : Type} (res : Except Nat (α × List Tok1)) (enc : α → PyData) : Prop :=
  (∀ p k', res = .error p → A (.er (xAt "Unread" p) (updO O a (rdg cs dx ts k')))) ∧ ∀ x r' k', res = .ok (x, r') → AtT ts k' r' → A (.ok (.d (enc x)) (updO O a (rdg cs dx ts k')))
theorem Out1.er {A : RsO → Prop} {α : Type} {res : Except Nat (α × List Tok1)} {enc : α → PyData} {p : Nat} (h : Out1 cs A O a dx ts res enc) (ho : O a = some (rdg cs dx ts k)) (e : res = .error p) : A (.er (xAt "Unread" p) O) := by
  have := h.1 p k e
  rw [updO_self ho] at this
  exact this
theorem whole_ne {l : List Nat} {n : Int} {m : Int} (h : wholeL l m = some n) : l ≠ [] := by
  rintro rfl
  have : wholeL [] m = none := by
    unfold wholeL
    rw [if_neg (by simp)]
    unfold figsL
    rw [if_neg (by simp)]
  rw [this] at h
  cases h
noncomputable def P_number (cs : Cs) : PrO := fun es O A => ∃ (a dx : Addr) (ts : List Tok1) (k : Nat) (r : List Tok1), es = [.vl (.ref a)] ∧ O a = some (rdg cs dx ts k) ∧ AtT ts k r ∧ Out1 cs A O a dx ts (numT r) PyData.int
noncomputable def t_Reading_number (K : Fg) (cs : Cs) (W : WX) : TS := (tSeq (tAsg (tCallN 1 1 (spW0 K P_wholeIn) (fun vs zs => vs ++ zs) E0 (tCons (tMeth (cs "Reading") "seen" (spO0 K (P_seen cs)) [V.int 0] E0 (tVar 0) tNil) tNil) (tCons (tC (V.int 18)) tNil)) (gName 1))
  (tSeq (tDrop (tMethX (cs "Reading") "taken" (spO K cs (P_taken cs)) [] (WE W) (tVar 0) (tCons (tOp rNoNo (tVar 1) (tC V.non)) tNil)))
  (tRet (tVar 1))))
-- slots of Reading.number: 0 self, 1 found
theorem ln_Reading_number : ∀ es O A, P_number cs es O A → es.length = 1 := fun es O A h => by obtain ⟨_, _, _, _, _, rfl, _⟩ := h; rfl
theorem rd_Reading_number {es O A} (h : P_number cs es O A) (W : WX) : SO K cs W (t_Reading_number K cs W) (frameE 2 es) O (rtsO A) := qt_of (by simp (disch := with_unfolding_all
  obtain ⟨a, dx, ts, k, r, rfl, ho, hr, h⟩ := h
  unfold t_Reading_number
  refine os_seq (os_asg (oe_callN (oa_cons (oe_seen rfl ho hr (oa_nil (oa_cons (oe_w (ew_int (oa_nil ⟨[_], [_], rfl, rfl, rfl, rfl, hdT r, 18, rfl, hr.hd, by decide, ?_⟩)))))))))
  refine os_seq (os_drop (oe_taken rfl (oe_w ?_) ⟨_, _, _, ho⟩))
  cases e : wholeL (hdT r) 18 with
  | none =>
    have en : numT r = .error (plT r) := by unfold numT; rw [e]
    show EW K cs W _ [.vl (.ref a), .d .none] _ _
    walk_at "s"
    exact ⟨false, dx, ts, k, r, rfl, ho, hr, fun _ => h.er ho en, fun z => by cases z⟩
  | some n =>
    have en : numT r = .ok (n, r.drop 1) := by unfold numT; rw [e]
    show EW K cs W _ [.vl (.ref a), .d (.int n)] _ _
    walk_at "s"
    refine ⟨true, dx, ts, k, r, rfl, ho, hr, fun z => (by cases z), fun _ => ?_⟩
    refine os_ret (oe_w (ew_var rfl ?_))
    exact h.2 n _ (k + 1) en (hr.next (whole_ne e))
  ) only [↓qt_eq])
end


end
section
/-! The reader: a row of a map. -/
open PySem PyProof.Rows L2 Evl

section
variable {K : Fg} {cs : Cs} {gs : Gs} {w : World} {W : WX} {G : Gam} {O : Sto} {φ : En → Sto → Prop} {ε : Xw → Sto → Prop} {ψ : Bool → Sto → Prop} {te : TE} {i : Nat} {a dx : Addr} {ts : List Tok1} {k : Nat} {r : List Tok1}
theorem tx_open : ("(" : Str) = tx [40] := TL.ext_tl (by rw [TL.tl_ofString] <;> rfl)
theorem tx_close : (")" : Str) = tx [41] := TL.ext_tl (by rw [TL.tl_ofString] <;> rfl)
theorem AtT.c (h : AtT ts k r) {c : Nat} (e : hdT r = [c]) : AtT ts (k + 1) (r.drop 1) := h.next (by rw [e]; simp)
theorem part_ne {l : List Nat} {p : Fr} (h : partL l 18 = some p) : l ≠ [] := by
  rintro rfl
  have : partL [] 18 = none := by decide +kernel
  rw [this] at h
  cases h
noncomputable def sizeD : Option Nat → PyData
  | none => .none
  | some s => .int (s : Nat)
noncomputable def P_rdRow (cs : Cs) : PrO := fun es O A => ∃ (a dx : Addr) (ts : List Tok1) (k : Nat) (r : List Tok1) (size : Option Nat), es = [.vl (.ref a), .d (sizeD size)] ∧ O a = some (rdg cs dx ts k) ∧ AtT ts k r ∧ size.getD 2 ≤ 3 ∧ Out1 cs A O a dx ts (rowT size r) frs
noncomputable def t_Reading_row (K : Fg) (cs : Cs) (W : WX) : TS := (tSeq (tDrop (tMethX (cs "Reading") "taken" (spO K cs (P_taken cs)) [] (WE W) (tVar 0) (tCons (tOp rEq (tMeth (cs "Reading") "seen" (spO0 K (P_seen cs)) [V.int 0] E0 (tVar 0) tNil) (tC (V.str "("))) tNil)))
  (tSeq (tAsg (tLst tNil) (gName 2))
  (tSeq (tWhile (tOr (tTest (tOp rLtI (tCB (rLenQ K) (tCons (tVar 2) tNil)) (tIf (tTest (tOp rIsNo (tVar 1) (tC V.non))) (tC (V.int 2)) (tVar 1)))) (tAnd (tTest (tOp rIsNo (tVar 1) (tC V.non))) (tAnd (tTest (tOp rLtI (tCB (rLenQ K) (tCons (tVar 2) tNil)) (tC (V.int 3)))) (tTest (tOp rNe (tMeth (cs "Reading") "seen" (spO0 K (P_seen cs)) [V.int 0] E0 (tVar 0) tNil) (tC (V.str ")"))))))) (tSeq (tAsg (tCallN 1 1 (spW0 K P_partIn) (fun vs zs => vs ++ zs) E0 (tCons (tMeth (cs "Reading") "seen" (spO0 K (P_seen cs)) [V.int 0] E0 (tVar 0) tNil) tNil) (tCons (tC (V.int 18)) tNil)) (gName 3))
  (tSeq (tDrop (tMethX (cs "Reading") "taken" (spO K cs (P_taken cs)) [] (WE W) (tVar 0) (tCons (tOp rNoNo (tVar 3) (tC V.non)) tNil)))
  (tDrop (tBM K "list" rAppend (tVar 2) (tCons (tVar 3) tNil))))))
  (tSeq (tDrop (tMethX (cs "Reading") "taken" (spO K cs (P_taken cs)) [] (WE W) (tVar 0) (tCons (tOp rEq (tMeth (cs "Reading") "seen" (spO0 K (P_seen cs)) [V.int 0] E0 (tVar 0) tNil) (tC (V.str ")"))) tNil)))
  (tRet (tCB (rTupQ K) (tCons (tVar 2) tNil)))))))
-- slots of Reading.row: 0 self, 1 size, 2 found, 3 one
theorem ln_Reading_row : ∀ es O A, P_rdRow cs es O A → es.length = 2 := fun es O A h => by obtain ⟨_, _, _, _, _, _, rfl, _⟩ := h; rfl
theorem row_test {size : Option Nat} {f : List Fr} {e3 : En} (ho : O a = some (rdg cs dx ts k)) (hr : AtT ts k r) (p : ψ (moreT size f r) O) :
    TO K cs W (tOr (tTest (tOp rLtI (tCB (rLenQ K) (tCons (tVar 2) tNil)) (tIf (tTest (tOp rIsNo (tVar 1) (tC V.non))) (tC (V.int 2)) (tVar 1)))) (tAnd (tTest (tOp rIsNo (tVar 1) (tC V.non))) (tAnd (tTest (tOp rLtI (tCB (rLenQ K) (tCons (tVar 2) tNil)) (tC (V.int 3)))) (tTest (tOp rNe (SEEN K cs 0) (tC (V.str ")")))))))
      [.vl (.ref a), .d (sizeD size), .ow (ol (f.map fr)), e3] O ψ ε := qt_of (by simp (disch := with_unfolding_all
  cases size with
  | some s =>
    have e : moreT (some s) f r = decide (f.length < s) := by unfold moreT; simp
    rw [e] at p
    show TO K cs W _ [.vl (.ref a), .d (.int (s : Nat)), .ow (ol (f.map fr)), e3] O ψ ε
    refine ot_or (ot_w ?_)
    walk_at "s"
    rw [List.length_map]
    refine cnd_f ?_
    walk_at "s"
    by_cases h : f.length < s
    · refine cnd_yes (by omega) ?_
      rw [decide_eq_true h] at p
      exact p
    · refine cnd_no (by omega) ?_
      rw [decide_eq_false h] at p
      refine ot_and (ot_w ?_)
      walk_at "s"
      exact cnd_f p
  | none =>
    show TO K cs W _ [.vl (.ref a), .d .none, .ow (ol (f.map fr)), e3] O ψ ε
    refine ot_or (ot_w ?_)
    walk_at "s"
    rw [List.length_map]
    refine cnd_t ?_
    walk_at "s"
    by_cases h : f.length < 2
    · refine cnd_yes (by omega) ?_
      have e : moreT none f r = true := by unfold moreT; rw [decide_eq_true (show f.length < (none : Option Nat).getD 2 from h)]; rfl
      rw [e] at p
      exact p
    · refine cnd_no (by omega) ?_
      have e : moreT none f r = (decide (f.length < 3) && !decide (hdT r = [41])) := by unfold moreT; rw [decide_eq_false (show ¬ f.length < (none : Option Nat).getD 2 from h)]; rfl
      rw [e] at p
      refine ot_and (ot_w ?_)
      walk_at "s"
      refine cnd_t ?_
      refine ot_and (ot_w ?_)
      walk_at "s"
      rw [List.length_map]
      by_cases h3 : f.length < 3
      · refine cnd_yes (by omega) ?_
        rw [decide_eq_true h3, Bool.true_and] at p
        exact ot_test (oe_seenNe tx_close rfl ho hr ⟨_, rfl, p⟩)
      · refine cnd_no (by omega) ?_
        rw [decide_eq_false h3, Bool.false_and] at p
        exact p
  ) only [↓qt_eq])
theorem rd_Reading_row {es O A} (h : P_rdRow cs es O A) (W : WX) : SO K cs W (t_Reading_row K cs W) (frameE 4 es) O (rtsO A) := qt_of (by simp (disch := with_unfolding_all
  obtain ⟨a, dx, ts, k, r, size, rfl, ho, hr, hs, h⟩ := h
  unfold t_Reading_row
  refine os_seq (os_drop (oe_taken rfl (oe_seenEq tx_open rfl ho hr ⟨_, dx, ts, k, r, rfl, ho, hr, fun z => ?_, fun z => ?_⟩) ⟨_, _, _, ho⟩))
  · exact h.er ho (by unfold rowT takeT; rw [z]; rfl)
  have h40 := of_decide_eq_true z
  have e0 : rowT size r = thn1 (restT size 4 [] (r.drop 1)) fun q => thn1 (takeT (decide (hdT q.2 = [41])) q.2) fun r3 => .ok (q.1, r3) := by unfold rowT; rw [z]; rfl
  refine os_seq (os_w (sw_asgF (ef_lst0 ?_)))
  refine os_seq (os_while (fun n G1 O1 => ∃ (f : List Fr) (k' : Nat) (r' : List Tok1) (e3 : En), restT size n f r' = restT size 4 [] (r.drop 1) ∧ AtT ts k' r' ∧ O1 = updO O a (rdg cs dx ts k') ∧ f.length + n = 4 ∧ G1 = [.vl (.ref a), .d (sizeD size), .ow (ol (f.map fr)), e3]) 4 ⟨[], k + 1, r.drop 1, _, rfl, hr.c h40, rfl, rfl, rfl⟩ ?_)
  rintro n _ _ ⟨f, k', r', e3, he, hr', rfl, hn, rfl⟩
  refine row_test updO_same hr' ?_
  cases hm : moreT size f r' with
  | true =>
    refine cnd_t ?_
    obtain ⟨m, rfl⟩ : ∃ m, n = m + 1 := by
      cases n with
      | succ m => exact ⟨m, rfl⟩
      | zero =>
        exfalso
        have : f.length = 4 := hn
        unfold moreT at hm
        rw [decide_eq_false (show ¬ f.length < size.getD 2 by omega), decide_eq_false (show ¬ f.length < 3 by omega)] at hm
        simp at hm
    have he : (if moreT size f r' then (match partL (hdT r') 18 with | some p => restT size m (f ++ [p]) (r'.drop 1) | none => .error (plT r')) else .ok (f, r')) = restT size 4 [] (r.drop 1) := he
    rw [if_pos hm] at he
    refine os_seq (os_asg (oe_callN (oa_cons (oe_seen rfl updO_same hr' (oa_nil (oa_cons (oe_w (ew_int (oa_nil ⟨[_], [_], rfl, rfl, rfl, rfl, hdT r', 18, rfl, hr'.hd, by decide, ?_⟩)))))))))
    refine os_seq (os_drop (oe_taken rfl (oe_w ?_) ⟨_, _, _, updO_same⟩))
    cases e : partL (hdT r') 18 with
    | none =>
      rw [e] at he
      show EW K cs W _ [_, _, _, .d .none] _ _
      walk_at "s"
      refine ⟨false, dx, ts, k', r', rfl, updO_same, hr', fun _ => ?_, fun z => (by cases z)⟩
      exact h.1 _ k' (by rw [e0, ← he]; rfl)
    | some p =>
      rw [e] at he
      show EW K cs W _ [_, _, _, .d (fr p)] _ _
      walk_at "s"
      refine ⟨true, dx, ts, k', r', rfl, updO_same, hr', fun z => (by cases z), fun _ => ?_⟩
      refine os_w (sw_app (i := 2) rfl (by rw [List.length_map]; omega) ?_)
      walk_at "s"
      refine ⟨m, Nat.lt_succ_self m, f ++ [p], k' + 1, r'.drop 1, .d (fr p), he, hr'.next (part_ne e), by rw [updO_updO], by rw [List.length_append, List.length_singleton]; omega, ?_⟩
      rw [List.map_append]
      rfl
  | false =>
    refine cnd_f ?_
    have he2 : restT size n f r' = .ok (f, r') := by
      cases n with
      | zero => rfl
      | succ n => show (if moreT size f r' then _ else _) = _; rw [if_neg (by rw [hm]; decide)]
    rw [he2] at he
    rw [← he] at e0
    have e0 : rowT size r = thn1 (takeT (decide (hdT r' = [41])) r') fun r3 => .ok (f, r3) := e0
    refine os_seq (os_drop (oe_taken rfl (oe_seenEq tx_close rfl updO_same hr' ⟨_, dx, ts, k', r', rfl, updO_same, hr', fun z => ?_, fun z => ?_⟩) ⟨_, _, _, updO_same⟩))
    · exact h.1 _ k' (by rw [e0]; unfold takeT; rw [z]; rfl)
    rw [updO_updO]
    refine os_w (sw_ret ?_)
    walk_at "s"
    exact h.2 f _ (k' + 1) (by rw [e0]; unfold takeT; rw [z]; rfl) (hr'.c (of_decide_eq_true z))
  ) only [↓qt_eq])
end


end
section
/-! The reader: a map; a tree. -/
open PySem PyProof.Rows L2 Evl

section
variable {K : Fg} {cs : Cs} {gs : Gs} {w : World} {W : WX} {G : Gam} {O : Sto} {φ : En → Sto → Prop} {ε : Xw → Sto → Prop} {ψ : Bool → Sto → Prop} {te : TE} {tu tz : TS} {Φ : OutO → Prop} {i : Nat} {a dx : Addr} {ts : List Tok1} {k : Nat} {r : List Tok1}
/-- what joins behind an if -/
noncomputable def cto (J : Gam → Sto → Prop) (Φ : OutO → Prop) : OutO → Prop
  | .nx G O => J G O
  | .rt x O => Φ (.rt x O)
  | .rl c O => Φ (.rl c O)
  | .bk G O => Φ (.bk G O)
  | .ct G O => Φ (.ct G O)
  | .ex e G O => Φ (.ex e G O)
theorem os_cut (J : Gam → Sto → Prop) (h : SO K cs W tu G O (cto J Φ)) (h2 : ∀ G1 O1, J G1 O1 → SO K cs W tz G1 O1 Φ) : SO K cs W (tSeq tu tz) G O Φ := os_seq (os_mono h fun o p => by
  cases o with
  | nx G1 O1 => exact h2 G1 O1 p
  | rt x O1 => exact p
  | rl c O1 => exact p
  | bk G1 O1 => exact p
  | ct G1 O1 => exact p
  | ex e G1 O1 => exact p)
theorem oe_row {size : Option Nat} (hi : G[i]? = some (.vl (.ref a))) (ho : O a = some (rdg cs dx ts k)) (hr : AtT ts k r) (hs : size.getD 2 ≤ 3) (h : EO K cs W te G O (fun e O1 => e = .d (sizeD size) ∧ O1 = O ∧ Out1 cs (rO φ ε) O a dx ts (rowT size r) frs) ε) :
    EO K cs W (tMethX (cs "Reading") "row" (spO K cs (P_rdRow cs)) [] (WE W) (tVar i) (tCons te tNil)) G O φ ε :=
  oe_methX (des := []) (fun _ => .nil) (oe_vl hi ⟨a, ⟨dx, _, rfl, ho, rfl⟩, oa_cons (oe_mono h fun e O1 ⟨ee, eo, p⟩ => by
    subst ee
    subst eo
    exact oa_nil ⟨a, dx, ts, k, r, size, rfl, ho, hr, hs, p⟩)⟩)
theorem rest_len : ∀ {n : Nat} {f f' : List Fr} {r r' : List Tok1}, f.length ≤ 3 → restT none n f r = .ok (f', r') → f'.length ≤ 3
  | 0, f, f', r, r', h, e => by cases e; exact h
  | n + 1, f, f', r, r', h, e => by
    have e : (if moreT none f r then (match partL (hdT r) 18 with | some p => restT none n (f ++ [p]) (r.drop 1) | none => .error (plT r)) else .ok (f, r)) = Except.ok (f', r') := e
    by_cases hm : moreT none f r = true
    · rw [if_pos hm] at e
      cases hp : partL (hdT r) 18 with
      | none => rw [hp] at e; cases e
      | some p =>
        rw [hp] at e
        refine rest_len ?_ e
        have : f.length < 3 := by
          unfold moreT at hm
          simp only [Option.getD_none, Bool.or_eq_true, Bool.and_eq_true, decide_eq_true_eq] at hm
          omega
        rw [List.length_append, List.length_singleton]
        omega
    · rw [if_neg hm] at e
      cases e
      exact h
theorem thn1_ok {α β : Type} {x : Except Nat α} {f : α → Except Nat β} {y : β} (h : thn1 x f = .ok y) : ∃ z, x = .ok z ∧ f z = .ok y := by
  cases x with
  | error e => cases h
  | ok z => exact ⟨z, rfl, h⟩
theorem row_len {r r' : List Tok1} {f : List Fr} (h : rowT none r = .ok (f, r')) : f.length ≤ 3 := qt_of (by simp (disch := with_unfolding_all
  unfold rowT at h
  obtain ⟨r1, _, h⟩ := thn1_ok h
  obtain ⟨q, hq, h⟩ := thn1_ok h
  obtain ⟨r3, _, h⟩ := thn1_ok h
  cases h
  exact rest_len (f := []) (by simp) (show restT none 4 [] r1 = .ok (q.1, q.2) from hq)
  ) only [↓qt_eq])
noncomputable def P_rdWay (cs : Cs) : PrO := fun es O A => ∃ (a dx : Addr) (ts : List Tok1) (k : Nat) (r : List Tok1), es = [.vl (.ref a)] ∧ O a = some (rdg cs dx ts k) ∧ AtT ts k r ∧ Out1 cs A O a dx ts (wayT r) mp
noncomputable def t_Reading_way (K : Fg) (cs : Cs) (gs : Gs) (W : WX) : TS := (tSeq (tAsg (tMethX (cs "Reading") "row" (spO K cs (P_rdRow cs)) [] (WE W) (tVar 0) (tCons (tC V.non) tNil)) (gName 1))
  (tSeq (tIfS (tAnd (tTest (tOp rEq (tMeth (cs "Reading") "seen" (spO0 K (P_seen cs)) [V.int 0] E0 (tVar 0) tNil) (tC (V.str "(")))) (tTest (tOp (rInT K true) (tMeth (cs "Reading") "seen" (spO0 K (P_seen cs)) [] E0 (tVar 0) (tCons (tC (V.int 1)) tNil)) (tC (gs "WORDS"))))) (tRet (tTup (tCons (tVar 1) (tCons (tMethX (cs "Reading") "row" (spO K cs (P_rdRow cs)) [] (WE W) (tVar 0) (tCons (tCB (rLenQ K) (tCons (tVar 1) tNil)) tNil)) tNil)))) tNext)
  (tRet (tTup (tCons (tVar 1) tNil)))))
-- slots of Reading.way: 0 self, 1 first
theorem ln_Reading_way : ∀ es O A, P_rdWay cs es O A → es.length = 1 := fun es O A h => by obtain ⟨_, _, _, _, _, rfl, _⟩ := h; rfl
theorem rd_Reading_way {es O A} (gd : ∀ H, Dp K H (gs "WORDS") wordsD) (h : P_rdWay cs es O A) (W : WX) : SO K cs W (t_Reading_way K cs gs W) (frameE 2 es) O (rtsO A) := qt_of (by simp (disch := with_unfolding_all
  obtain ⟨a, dx, ts, k, r, rfl, ho, hr, h⟩ := h
  unfold t_Reading_way
  refine os_seq (os_asg (oe_row (size := none) rfl ho hr (by decide) (oe_w (ew_non ⟨rfl, rfl, ?_, ?_⟩))))
  · intro p k' e
    exact h.1 p k' (by unfold wayT; rw [e]; rfl)
  intro f r' k' e hr'
  have e0 : wayT r = if hdT r' = [40] ∧ tx (sndT r') ∉ wordsS then thn1 (rowT (some f.length) r') fun q2 => .ok ([f, q2.1], q2.2) else .ok ([f], r') := by unfold wayT; rw [e]; rfl
  have fl := row_len e
  have fin : ¬ (hdT r' = [40] ∧ tx (sndT r') ∉ wordsS) → SO K cs W (tRet (tTup (tCons (tVar 1) tNil))) [.vl (.ref a), .d (frs f)] (updO O a (rdg cs dx ts k')) (rtsO A) := fun hn => by
    refine os_w ?_
    walk_at "s"
    exact h.2 [f] r' k' (by rw [e0, if_neg hn]) hr'
  refine os_seq (os_if (ot_and (ot_test (oe_seenEq tx_open rfl updO_same hr' ⟨_, rfl, ?_⟩))))
  refine cnd_d (fun h1 => ?_) fun h1 => ?_
  · refine ot_test (oe_seen1Not gd rfl updO_same hr' ⟨_, rfl, ?_⟩)
    refine cnd_nd (fun h2 => ?_) fun h2 => ?_
    · refine os_ret (oe_tup (oa_cons (oe_w (ew_var rfl (oa_cons (oe_row (size := some f.length) rfl updO_same hr' fl (oe_w ?_)))))))
      show EW K cs W _ [.vl (.ref a), .d (.tuple (f.map fr))] _ _
      walk_at "s"
      rw [List.length_map]
      rw [if_pos ⟨h1, h2⟩] at e0
      refine ⟨rfl, rfl, fun p k2 e2 => ?_, fun f2 r2 k2 e2 hr2 => ?_⟩
      · rw [updO_updO]
        exact h.1 p k2 (by rw [e0, e2]; rfl)
      · rw [updO_updO]
        refine oa_nil ⟨[frs f, frs f2], rfl, by simp, ?_⟩
        exact h.2 [f, f2] r2 k2 (by rw [e0, e2]; rfl) hr2
    · exact os_next (fin fun z => z.2 h2)
  · exact cnd_f (os_next (fin fun z => h1 z.1))
  ) only [↓qt_eq])
end


end
section
/-! The reader: a tree. -/
open PySem PyProof.Rows L2 Evl

section
variable {K : Fg} {cs : Cs} {gs : Gs} {w : World} {W : WX} {G : Gam} {O : Sto} {φ : En → Sto → Prop} {ε : Xw → Sto → Prop} {ψ : Bool → Sto → Prop} {te : TE} {tu tz : TS} {Φ : OutO → Prop} {i : Nat} {a dx : Addr} {ts : List Tok1} {k : Nat} {r : List Tok1}
noncomputable def P_rdTree (cs : Cs) : Nat → PrO
  | 0 => fun _ _ _ => False
  | n + 1 => fun es O A => ∃ (a dx : Addr) (ts : List Tok1) (k : Nat) (r : List Tok1) (deep : Nat), es = [.vl (.ref a), .d (.int (deep : Nat))] ∧ O a = some (rdg cs dx ts k) ∧ AtT ts k r ∧ 12 ≤ deep + n ∧ Out1 cs A O a dx ts (treeT (n + 1) deep r) Tr.enc
noncomputable def t_Reading_tree (K : Fg) (n : Nat) (cs : Cs) (gs : Gs) (W : WX) : TS := (tSeq (tIfS (tTest (tOp rNe (tMeth (cs "Reading") "seen" (spO0 K (P_seen cs)) [V.int 0] E0 (tVar 0) tNil) (tC (V.str "(")))) (tRet (tTup (tCons (tC (V.str "name")) (tCons (tMethX (cs "Reading") "taken" (spO K cs (P_taken cs)) [] (WE W) (tVar 0) (tCons (tCall (spW0 K P_isName) [] E0 (tCons (tMeth (cs "Reading") "seen" (spO0 K (P_seen cs)) [V.int 0] E0 (tVar 0) tNil) tNil)) tNil)) tNil)))) tNext)
  (tSeq (tDrop (tMethX (cs "Reading") "taken" (spO K cs (P_taken cs)) [] (WE W) (tVar 0) (tCons (tOp rLtI (tVar 1) (tC (V.int 12))) tNil)))
  (tSeq (tAsg (tMethX (cs "Reading") "taken" (spO K cs (P_taken cs)) [] (WE W) (tVar 0) (tCons (tOp (rInT K false) (tMeth (cs "Reading") "seen" (spO0 K (P_seen cs)) [V.int 0] E0 (tVar 0) tNil) (tC (gs "WORDS"))) tNil)) (gName 2))
  (tSeq (tIfS (tTest (tOp (rInT K false) (tVar 2) (tC (gs "PAIRS")))) (tSeq (tAsg (tMethX (cs "Reading") "tree" (spO K cs (P_rdTree cs n)) [] (WE W) (tVar 0) (tCons (tOp rAddI (tVar 1) (tC (V.int 1))) tNil)) (gName 3))
  (tAsg (tTup (tCons (tVar 2) (tCons (tVar 3) (tCons (tMethX (cs "Reading") "tree" (spO K cs (P_rdTree cs n)) [] (WE W) (tVar 0) (tCons (tOp rAddI (tVar 1) (tC (V.int 1))) tNil)) tNil)))) (gName 4))) (tIfS (tTest (tOp rEq (tVar 2) (tC (V.str "turn")))) (tAsg (tTup (tCons (tVar 2) (tCons (tMethX (cs "Reading") "tree" (spO K cs (P_rdTree cs n)) [] (WE W) (tVar 0) (tCons (tOp rAddI (tVar 1) (tC (V.int 1))) tNil)) tNil))) (gName 4)) (tSeq (tAsg (tIf (tTest (tOp rEq (tVar 2) (tC (V.str "times")))) (tMethX (cs "Reading") "number" (spO K cs (P_number cs)) [] (WE W) (tVar 0) tNil) (tMethX (cs "Reading") "way" (spO K cs (P_rdWay cs)) [] (WE W) (tVar 0) tNil)) (gName 5))
  (tAsg (tTup (tCons (tVar 2) (tCons (tVar 5) (tCons (tMethX (cs "Reading") "tree" (spO K cs (P_rdTree cs n)) [] (WE W) (tVar 0) (tCons (tOp rAddI (tVar 1) (tC (V.int 1))) tNil)) tNil)))) (gName 4)))))
  (tSeq (tDrop (tMethX (cs "Reading") "taken" (spO K cs (P_taken cs)) [] (WE W) (tVar 0) (tCons (tOp rEq (tMeth (cs "Reading") "seen" (spO0 K (P_seen cs)) [V.int 0] E0 (tVar 0) tNil) (tC (V.str ")"))) tNil)))
  (tRet (tVar 4)))))))
-- slots of Reading.tree: 0 self, 1 deep, 2 word, 3 first, 4 found, 5 front
theorem ln_Reading_tree {n : Nat} : ∀ es O A, P_rdTree cs (n + 1) es O A → es.length = 2 := fun es O A h => by obtain ⟨_, _, _, _, _, _, rfl, _⟩ := h; rfl
theorem name_ne {l : List Nat} (h : isNameL l = true) : l ≠ [] := by
  rintro rfl
  have : isNameL [] = false := by decide +kernel
  rw [this] at h
  cases h
theorem word_ne {l : List Nat} (h : tx l ∈ wordsS) : l ≠ [] := by
  rintro rfl
  rw [← tx_none] at h
  exact absurd h (by decide +kernel)
theorem oe_tree {n deep : Nat} (hi : G[i]? = some (.vl (.ref a))) (ho : O a = some (rdg cs dx ts k)) (hr : AtT ts k r) (hn : 12 ≤ deep + n) (h : EO K cs W te G O (fun e O1 => e = .d (.int (deep : Nat)) ∧ O1 = O ∧ Out1 cs (rO φ ε) O a dx ts (treeT (n + 1) deep r) Tr.enc) ε) :
    EO K cs W (tMethX (cs "Reading") "tree" (spO K cs (P_rdTree cs (n + 1))) [] (WE W) (tVar i) (tCons te tNil)) G O φ ε :=
  oe_methX (des := []) (fun _ => .nil) (oe_vl hi ⟨a, ⟨dx, _, rfl, ho, rfl⟩, oa_cons (oe_mono h fun e O1 ⟨ee, eo, p⟩ => by
    subst ee
    subst eo
    exact oa_nil ⟨a, dx, ts, k, r, deep, rfl, ho, hr, hn, p⟩)⟩)
noncomputable def bodyT (n deep : Nat) (w : Str) (r2 : List Tok1) : Except Nat (Tr × List Tok1) :=
  if w ∈ Tr.pairs then thn1 (treeT n (deep + 1) r2) fun q => thn1 (treeT n (deep + 1) q.2) fun q2 => .ok (Tr.pr w q.1 q2.1, q2.2)
  else if w = "turn" then thn1 (treeT n (deep + 1) r2) fun q => .ok (Tr.tn q.1, q.2)
  else if w = "times" then thn1 (numT r2) fun q => thn1 (treeT n (deep + 1) q.2) fun q2 => .ok (Tr.tm q.1 q2.1, q2.2)
  else thn1 (wayT r2) fun q => thn1 (treeT n (deep + 1) q.2) fun q2 => .ok (Tr.cy q.1 q2.1, q2.2)
theorem tree_open {n deep : Nat} {r : List Tok1} (h : hdT r = [40]) : treeT (n + 1) deep r = thn1 (takeT (decide (deep < 12)) r) fun r1 => thn1 (takeT (decide (tx (hdT r1) ∈ wordsS)) r1) fun r2 => thn1 (bodyT n deep (tx (hdT r1)) r2) fun q => thn1 (takeT (decide (hdT q.2 = [41])) q.2) fun r5 => .ok (q.1, r5) := by
  show (if hdT r = [40] then _ else _) = _
  rw [if_pos h]
  rfl
theorem words_last {w : Str} (h : w ∈ wordsS) (h1 : w ∉ Tr.pairs) (h2 : w ≠ "turn") (h3 : w ≠ "times") : w = "carry" := qt_of (by simp (disch := with_unfolding_all
  simp only [wordsS, Tr.pairs, List.mem_cons, List.not_mem_nil, or_false, not_or] at h h1
  rcases h with h | h | h | h | h | h | h | h | h
  · exact absurd h h1.1
  · exact absurd h h1.2.1
  · exact absurd h h1.2.2.1
  · exact absurd h h1.2.2.2.1
  · exact absurd h h1.2.2.2.2.1
  · exact absurd h h1.2.2.2.2.2
  · exact absurd h h3
  · exact absurd h h2
  · exact h
  ) only [↓qt_eq])
theorem pairs_items : itemsOf pairsD = some (Tr.pairs.map PyData.str) := rfl
theorem rd_Reading_tree {n : Nat} {es O A} (gw : ∀ H, Dp K H (gs "WORDS") wordsD) (gp : ∀ H, Dp K H (gs "PAIRS") pairsD) (h : P_rdTree cs (n + 1) es O A) (W : WX) : SO K cs W (t_Reading_tree K n cs gs W) (frameE 6 es) O (rtsO A) := qt_of (by simp (disch := with_unfolding_all
  obtain ⟨a, dx, ts, k, r, deep, rfl, ho, hr, hn, h⟩ := h
  unfold t_Reading_tree
  refine os_seq (os_if (ot_test (oe_seenNe tx_open rfl ho hr ⟨_, rfl, ?_⟩)))
  refine cnd_nd (fun h40 => ?_) fun h40 => ?_
  · have e0 : treeT (n + 1) deep r = thn1 (takeT (isNameL (hdT r)) r) fun r1 => .ok (Tr.nm (tx (hdT r)), r1) := by
      show (if hdT r = [40] then _ else _) = _
      rw [if_neg h40]
    refine os_ret (oe_tup (oa_cons (oe_w (ew_str (oa_cons (oe_taken rfl (oe_callW (fun _ => .nil) (oa_cons (oe_seen rfl ho hr (oa_nil ⟨[_], rfl, _, rfl, ⟨true, rfl, fun _ => ⟨hdT r, rfl, by have := hr.hd; omega⟩, fun z => by cases z⟩, ?_⟩)))) ⟨_, _, _, ho⟩))))))
    refine ⟨isNameL (hdT r), dx, ts, k, r, rfl, ho, hr, fun z => h.er ho (by rw [e0]; unfold takeT; rw [z]; rfl), fun z => ?_⟩
    refine oa_nil ⟨[.str "name", .str (tx (hdT r))], rfl, by simp, ?_⟩
    exact h.2 (Tr.nm (tx (hdT r))) (r.drop 1) (k + 1) (by rw [e0]; unfold takeT; rw [z]; rfl) (hr.next (name_ne z))
  refine os_next ?_
  have hr1 := hr.c h40
  generalize hr1e : r.drop 1 = r1 at hr1
  refine os_seq (os_drop (oe_taken rfl (oe_w ?_) ⟨_, _, _, ho⟩))
  walk_at "s"
  have ed : decide ((deep : Int) < 12) = decide (deep < 12) := decide_eq_decide.mpr (by omega)
  rw [ed]
  have e1 := tree_open (n := n) (deep := deep) h40
  refine ⟨_, dx, ts, k, r, rfl, ho, hr, fun z => h.er ho (by rw [e1]; unfold takeT; rw [z]; rfl), fun z => ?_⟩
  have hd12 := of_decide_eq_true z
  rw [show takeT (decide (deep < 12)) r = .ok r1 by unfold takeT; rw [z, hr1e]; rfl] at e1
  have e1 : treeT (n + 1) deep r = thn1 (takeT (decide (tx (hdT r1) ∈ wordsS)) r1) fun r2 => thn1 (bodyT n deep (tx (hdT r1)) r2) fun q => thn1 (takeT (decide (hdT q.2 = [41])) q.2) fun r5 => .ok (q.1, r5) := e1
  obtain ⟨m, rfl⟩ : ∃ m, n = m + 1 := ⟨n - 1, by omega⟩
  refine os_seq (os_asg (oe_taken rfl (oe_seenIn gw rfl updO_same hr1 ⟨_, dx, ts, k + 1, r1, rfl, updO_same, hr1, fun z2 => ?_, fun z2 => ?_⟩) ⟨_, _, _, updO_same⟩))
  · exact h.1 _ (k + 1) (by rw [e1]; unfold takeT; rw [z2]; rfl)
  have hw := of_decide_eq_true z2
  have hr2 := hr1.next (word_ne hw)
  rw [updO_updO]
  rw [show takeT (decide (tx (hdT r1) ∈ wordsS)) r1 = .ok (r1.drop 1) by unfold takeT; rw [z2]; rfl] at e1
  have e1 : treeT (m + 1 + 1) deep r = thn1 (bodyT (m + 1) deep (tx (hdT r1)) (r1.drop 1)) fun q => thn1 (takeT (decide (hdT q.2 = [41])) q.2) fun r5 => .ok (q.1, r5) := e1
  generalize hdT r1 = u at *
  generalize r1.drop 1 = r2 at *
  have er : ∀ {p k'}, bodyT (m + 1) deep (tx u) r2 = .error p → A (.er (xAt "Unread" p) (updO O a (rdg cs dx ts k'))) := fun {p k'} e => h.1 p k' (by rw [e1, e]; rfl)
  have kid : ∀ {G : Gam} {φ : En → Sto → Prop} {ε : Xw → Sto → Prop} {r' : List Tok1} {k' : Nat}, G[0]? = some (.vl (.ref a)) → G[1]? = some (.d (.int (deep : Nat))) → AtT ts k' r' → (∀ p k2, treeT (m + 1) (deep + 1) r' = .error p → ε (xAt "Unread" p) (updO O a (rdg cs dx ts k2))) →
      (∀ t r3 k2, treeT (m + 1) (deep + 1) r' = .ok (t, r3) → AtT ts k2 r3 → φ (.d t.enc) (updO O a (rdg cs dx ts k2))) →
      EO K cs W (tMethX (cs "Reading") "tree" (spO K cs (P_rdTree cs (m + 1))) [] (WE W) (tVar 0) (tCons (tOp rAddI (tVar 1) (tC (V.int 1))) tNil)) G (updO O a (rdg cs dx ts k')) φ ε := fun {G φ ε r' k'} g0 g1 hr' hE hO =>
    oe_tree (n := m) (deep := deep + 1) g0 updO_same hr' (by omega) (oe_w (ew_add (ew_var g1 ⟨_, rfl, ew_int ⟨1, rfl, by rw [show ((deep : Nat) : Int) + 1 = ((deep + 1 : Nat) : Int) by omega], rfl, fun p k2 e => by rw [updO_updO]; exact hE p k2 e, fun t r3 k2 e hr3 => by rw [updO_updO]; exact hO t r3 k2 e hr3⟩⟩)))
  refine os_cut (fun G1 O1 => ∃ (t : Tr) (r5 : List Tok1) (k5 : Nat) (e3 e5 : En), bodyT (m + 1) deep (tx u) r2 = .ok (t, r5) ∧ AtT ts k5 r5 ∧ O1 = updO O a (rdg cs dx ts k5) ∧ G1 = [.vl (.ref a), .d (.int (deep : Nat)), .d (.str (tx u)), e3, .d t.enc, e5]) ?_ ?_
  · show SO K cs W _ [.vl (.ref a), .d (.int (deep : Nat)), .d (.str (tx u)), .un, .un, .un] _ _
    refine os_if (ot_w (tw_test (ew_inT (ew_var rfl ⟨_, rfl, ew_glob gp ⟨_, pairs_items, _, rfl, ?_⟩⟩))))
    rw [if_neg (by decide)]
    refine cnd_d (fun hp => ?_) fun hp => ?_
    · have eb : bodyT (m + 1) deep (tx u) r2 = thn1 (treeT (m + 1) (deep + 1) r2) fun q => thn1 (treeT (m + 1) (deep + 1) q.2) fun q2 => .ok (Tr.pr (tx u) q.1 q2.1, q2.2) := if_pos hp
      refine os_seq (os_asg (kid rfl rfl hr2 (fun p k2 e => er (by rw [eb, e]; rfl)) fun t1 r3 k3 e3 hr3 => ?_))
      refine os_asg (oe_tup (oa_cons (oe_w (ew_var rfl (oa_cons (oe_w (ew_var rfl (oa_cons (kid rfl rfl hr3 (fun p k2 e => ?_) fun t2 r4 k4 e4 hr4 => ?_)))))))))
      · exact er (by rw [eb, e3]; show thn1 (treeT _ _ r3) _ = _; rw [e]; rfl)
      · refine oa_nil ⟨[.str (tx u), t1.enc, t2.enc], rfl, by simp, ?_⟩
        exact ⟨Tr.pr (tx u) t1 t2, r4, k4, _, _, by rw [eb, e3]; show thn1 (treeT _ _ r3) _ = _; rw [e4]; rfl, hr4, rfl, rfl⟩
    have n1 : tx u ∉ Tr.pairs := hp
    refine os_if (ot_w (tw_test (ew_eq (ew_var rfl (ew_str ⟨_, rfl, _, rfl, ?_⟩)))))
    refine cnd_d (fun ht => ?_) fun ht => ?_
    · have eb : bodyT (m + 1) deep (tx u) r2 = thn1 (treeT (m + 1) (deep + 1) r2) fun q => .ok (Tr.tn q.1, q.2) := (if_neg n1).trans (if_pos ht)
      refine os_asg (oe_tup (oa_cons (oe_w (ew_var rfl (oa_cons (kid rfl rfl hr2 (fun p k2 e => er (by rw [eb, e]; rfl)) fun t1 r3 k3 e3 hr3 => ?_))))))
      refine oa_nil ⟨[.str (tx u), t1.enc], rfl, by simp, ?_⟩
      refine ⟨Tr.tn t1, r3, k3, .un, .un, by rw [eb, e3]; rfl, hr3, rfl, ?_⟩
      rw [ht]
      rfl
    refine os_cut (fun G1 O1 => ∃ (x : PyData) (r3 : List Tok1) (k3 : Nat), AtT ts k3 r3 ∧ O1 = updO O a (rdg cs dx ts k3) ∧ G1 = [.vl (.ref a), .d (.int (deep : Nat)), .d (.str (tx u)), .un, .un, .d x] ∧
      ∃ c : Tr → Tr, (∀ t, (c t).enc = .tuple [.str (tx u), x, t.enc]) ∧ bodyT (m + 1) deep (tx u) r2 = thn1 (treeT (m + 1) (deep + 1) r3) fun q2 => .ok (c q2.1, q2.2)) ?_ ?_
    · refine os_asg (oe_if (ot_w (tw_test (ew_eq (ew_var rfl (ew_str ⟨_, rfl, _, rfl, ?_⟩))))))
      refine cnd_d (fun hm => ?_) fun hm => ?_
      · have eb : bodyT (m + 1) deep (tx u) r2 = thn1 (numT r2) fun q => thn1 (treeT (m + 1) (deep + 1) q.2) fun q2 => .ok (Tr.tm q.1 q2.1, q2.2) := (if_neg n1).trans ((if_neg ht).trans (if_pos hm))
        refine oe_methX (des := []) (fun _ => .nil) (oe_vl rfl ⟨a, ⟨dx, _, rfl, updO_same, rfl⟩, oa_nil ⟨a, dx, ts, k + 2, r2, rfl, updO_same, hr2, fun p k' e => ?_, fun x r3 k3 e hr3 => ?_⟩⟩)
        · rw [updO_updO]
          exact er (by rw [eb, e]; rfl)
        · rw [updO_updO]
          exact ⟨.int x, r3, k3, hr3, rfl, rfl, Tr.tm x, fun t => by rw [hm]; rfl, by rw [eb, e]; rfl⟩
      · have ec := words_last hw n1 ht hm
        have eb : bodyT (m + 1) deep (tx u) r2 = thn1 (wayT r2) fun q => thn1 (treeT (m + 1) (deep + 1) q.2) fun q2 => .ok (Tr.cy q.1 q2.1, q2.2) := (if_neg n1).trans ((if_neg ht).trans (if_neg hm))
        refine oe_methX (des := []) (fun _ => .nil) (oe_vl rfl ⟨a, ⟨dx, _, rfl, updO_same, rfl⟩, oa_nil ⟨a, dx, ts, k + 2, r2, rfl, updO_same, hr2, fun p k' e => ?_, fun x r3 k3 e hr3 => ?_⟩⟩)
        · rw [updO_updO]
          exact er (by rw [eb, e]; rfl)
        · rw [updO_updO]
          exact ⟨mp x, r3, k3, hr3, rfl, rfl, Tr.cy x, fun t => by rw [ec]; rfl, by rw [eb, e]; rfl⟩
    · rintro _ _ ⟨x, r3, k3, hr3, rfl, rfl, c, hc, eb⟩
      refine os_asg (oe_tup (oa_cons (oe_w (ew_var rfl (oa_cons (oe_w (ew_var rfl (oa_cons (kid rfl rfl hr3 (fun p k2 e => er (by rw [eb, e]; rfl)) fun t1 r4 k4 e4 hr4 => ?_)))))))))
      refine oa_nil ⟨[.str (tx u), x, t1.enc], rfl, by simp, ?_⟩
      refine ⟨c t1, r4, k4, .un, .d x, by rw [eb, e4]; rfl, hr4, rfl, ?_⟩
      rw [hc]
      rfl
  · rintro _ _ ⟨t, r5, k5, e3, e5, eb, hr5, rfl, rfl⟩
    rw [eb] at e1
    have e1 : treeT (m + 1 + 1) deep r = thn1 (takeT (decide (hdT r5 = [41])) r5) fun r6 => .ok (t, r6) := e1
    refine os_seq (os_drop (oe_taken rfl (oe_seenEq tx_close rfl updO_same hr5 ⟨_, dx, ts, k5, r5, rfl, updO_same, hr5, fun z => ?_, fun z => ?_⟩) ⟨_, _, _, updO_same⟩))
    · exact h.1 _ k5 (by rw [e1]; unfold takeT; rw [z]; rfl)
    rw [updO_updO]
    refine os_ret (oe_w (ew_var rfl ?_))
    exact h.2 t _ (k5 + 1) (by rw [e1]; unfold takeT; rw [z]; rfl) (hr5.c (of_decide_eq_true z))
  ) only [↓qt_eq])
end


end
section
/-! A text is read. -/
open PySem PyProof.Rows L2 Evl

theorem flu_len {w : List Nat} {p : Nat} : (flu w p).length ≤ 1 := by unfold flu; split <;> simp
theorem tkw_len : ∀ {l : List Nat} {p : Nat} {w : List Nat}, (tkw l p w).length ≤ 2 * l.length + 1
  | [], p, w => flu_len
  | c :: l, p, w => by
    have h1 := tkw_len (l := l) (p := p + 1) (w := [])
    have h2 := tkw_len (l := l) (p := p + 1) (w := w ++ [c])
    have h3 := flu_len (w := w) (p := p)
    show (if sepC c then flu w p ++ ((if c = 32 then [] else [([c], p)]) ++ tkw l (p + 1) []) else tkw l (p + 1) (w ++ [c])).length ≤ _
    rw [List.length_cons]
    split
    · rw [List.length_append, List.length_append]
      have : (if c = 32 then [] else [([c], p)]).length ≤ 1 := by split <;> simp
      omega
    · omega
theorem tkw_wd : ∀ {l : List Nat} {p : Nat} {w : List Nat}, ∀ t ∈ tkw l p w, t.1.length ≤ w.length + l.length + 1
  | [], p, w, t, h => by
    have h : t ∈ flu w p := h
    unfold flu at h
    split at h
    · cases h
    · rw [List.mem_singleton.mp h]; show w.length ≤ _; omega
  | c :: l, p, w, t, h => by
    have h : t ∈ (if sepC c then flu w p ++ ((if c = 32 then [] else [([c], p)]) ++ tkw l (p + 1) []) else tkw l (p + 1) (w ++ [c])) := h
    rw [List.length_cons]
    split at h
    · rcases List.mem_append.mp h with h | h
      · unfold flu at h
        split at h
        · cases h
        · rw [List.mem_singleton.mp h]; show w.length ≤ _; omega
      · rcases List.mem_append.mp h with h | h
        · split at h
          · cases h
          · rw [List.mem_singleton.mp h]; show 1 ≤ _; omega
        · have := tkw_wd t h
          simp only [List.length_nil] at this
          omega
    · have := tkw_wd t h
      rw [List.length_append, List.length_singleton] at this
      omega
theorem at_toks {l : List Nat} (hl : l.length ≤ 99990) : AtT (toks l) 0 (toks l) := qt_of (by simp (disch := with_unfolding_all
  refine ⟨rfl, by unfold toks; simp, by unfold toks; simp, ?_, fun t ht => ?_⟩
  · have := tkw_len (l := l) (p := 0) (w := [])
    unfold toks
    rw [List.length_append, List.length_singleton]
    omega
  · rcases List.mem_append.mp ht with ht | ht
    · have := tkw_wd t ht
      simp only [List.length_nil] at this
      omega
    · rw [List.mem_singleton.mp ht]; exact Nat.zero_le _
  ) only [↓qt_eq])
section
variable {K : Fg} {cs : Cs} {gs : Gs} {A : Rs → Prop} {w : World}
noncomputable def P_read : Pr := fun ds A => ∃ l : List Nat, ds = [.str (tx l)] ∧ l.length ≤ 99990 ∧ (∀ p, readT l = .error p → A (.er (xAt "Unread" p))) ∧ ∀ t, readT l = .ok t → A (.ok t.enc)
noncomputable def t_read (K : Fg) (cs : Cs) (W : WX) : TS := (tSeq (tAsg (tMake (cs "Reading") (spO0 K (P_rdInit cs)) [] E0 (tCons (tVar 0) tNil)) (gName 1))
  (tSeq (tAsg (tMethX (cs "Reading") "tree" (spO K cs (P_rdTree cs 14)) [V.int 0] (WE W) (tVar 1) tNil) (gName 2))
  (tSeq (tDrop (tMethX (cs "Reading") "taken" (spO K cs (P_taken cs)) [] (WE W) (tVar 1) (tCons (tOp rEq (tMeth (cs "Reading") "seen" (spO0 K (P_seen cs)) [V.int 0] E0 (tVar 1) tNil) (tC (V.str ""))) tNil)))
  (tRet (tVar 2)))))
-- slots of read: 0 text, 1 reading, 2 found
theorem ln_read : ∀ ds A, P_read ds A → ds.length = 1 := fun ds A h => by obtain ⟨_, rfl, _⟩ := h; rfl
theorem rd_read {ds A} (h : P_read ds A) (W : WX) : SW K cs W (t_read K cs W) (frame 3 ds) (rts A) := qt_of (by simp (disch := with_unfolding_all
  obtain ⟨l, rfl, hl, hE, hO⟩ := h
  unfold t_read
  have h0 := at_toks hl
  refine swD ?_
  refine os_seq (os_asg (oe_make (des := []) (fun _ => .nil) (oa_cons (oe_w (ew_var rfl (oa_nil fun x dx hx => ⟨x, dx, l, rfl, updO_same, by omega, _, rfl, ?_⟩))))))
  rw [updO_updO]
  refine os_seq (os_asg (oe_methX (des := [.int 0]) (fun _ => .cons (.int 0) .nil) (oe_vl rfl ⟨x, ⟨dx, _, rfl, updO_same, rfl⟩, oa_nil ⟨x, dx, toks l, 0, toks l, 0, rfl, updO_same, h0, by decide, fun p k' e => ?_, fun t r k e hr => ?_⟩⟩)))
  · exact hE p (by unfold readT; rw [e]; rfl)
  rw [updO_updO]
  have e1 : readT l = thn1 (takeT (decide (hdT r = [])) r) fun _ => .ok t := by unfold readT; rw [e]; rfl
  refine os_seq (os_drop (oe_taken rfl (oe_seenEq tx_none rfl updO_same hr ⟨_, dx, toks l, k, r, rfl, updO_same, hr, fun z => ?_, fun z => ?_⟩) ⟨_, _, _, updO_same⟩))
  · exact hE _ (by rw [e1]; unfold takeT; rw [z]; rfl)
  refine os_ret (oe_w (ew_var rfl ?_))
  exact hO t (by rw [e1]; unfold takeT; rw [z]; rfl)
  ) only [↓qt_eq])
end


end
section
/-! Settling a tree, plain. -/
open PySem PyProof.Rows L2 Evl
namespace Tr
noncomputable abbrev Free (w : Str) : Prop := w = "add" ∨ w = "take" ∨ w = "lay"
noncomputable abbrev Bnd (w : Str) : Prop := w = "meet" ∨ w = "lay"
noncomputable abbrev Unit1 (m : List (List Fr)) : Prop := m = unitM 1 ∨ m = unitM 2
noncomputable def stOf (m : List (List Fr)) : Nat := (m.headD []).length - 1
/-- a map behind a map of another room -/
noncomputable def Clash : Tr → Prop
  | cy m (cy k _) => stOf m ≠ k.length
  | _ => False
noncomputable instance : DecidablePred Clash := fun t => by
  unfold Clash
  split
  · exact inferInstance
  · exact inferInstance
/-! what each step does -/
inductive St : Str → Tr → Tr → Prop where
  | twice {x} : St "twice" (tn (tn x)) x
  | once {x} : St "once" (tm 1 x) x
  | product {n m x} : St "product" (tm n (tm m x)) (tm (n * m) x)
  | still {m x} : Unit1 m → St "still" (cy m x) x
  | onward {m k x} : stOf m = k.length → St "onward" (cy m (cy k x)) (cy (behF (stOf k) k m) x)
  | turncarry {m x} : St "turncarry" (tn (cy m x)) (cy m (tn x))
  | turntimes {n x} : St "turntimes" (tn (tm n x)) (tm n (tn x))
  | carrytimes {m n x} : St "carrytimes" (cy m (tm n x)) (tm n (cy m x))
  | turnpair {w x y} : Free w → St "turnpair" (tn (pr w x y)) (pr w (tn x) (tn y))
  | carrypair {m w x y} : Free w → St "carrypair" (cy m (pr w x y)) (pr w (cy m x) (cy (if w = "lay" then straightM m else m) y))
  | left {w n x y} : Bnd w → St "left" (pr w (tm n x) y) (tm n (pr w x y))
  | right {w n x y} : Bnd w → St "right" (pr w x (tm n y)) (tm n (pr w x y))
  | tm {r n t u} : St r t u → St r (tm n t) (tm n u)
  | tn {r t u} : St r t u → St r (tn t) (tn u)
  | cy {r m t u} : St r t u → St r (cy m t) (cy m u)
  | prL {r w t u v} : St r t u → St r (pr w t v) (pr w u v)
  | prR {r w t u v} : St r t u → St r (pr w v t) (pr w v u)
/-! a measure -/
noncomputable def sz : Tr → Nat
  | nm _ => 1
  | tm _ t => sz t + 1
  | tn t => 2 * sz t
  | cy _ t => 2 * sz t + 1
  | pr _ t u => sz t + sz u + 2
theorem sz_pos : ∀ t : Tr, 1 ≤ sz t
  | nm _ => Nat.le_refl _
  | tm _ t => Nat.le_add_left ..
  | tn t => by have := sz_pos t; show 1 ≤ 2 * sz t; omega
  | cy _ t => Nat.le_add_left ..
  | pr _ t u => by show 1 ≤ sz t + sz u + 2; omega
theorem sz_depth : ∀ t : Tr, sz t + 2 ≤ 3 * 2 ^ t.depth
  | nm _ => by show 1 + 2 ≤ 3 * 2 ^ 0; decide
  | tm _ t => by have := sz_depth t; show sz t + 1 + 2 ≤ 3 * 2 ^ (t.depth + 1); rw [Nat.pow_succ]; omega
  | tn t => by have := sz_depth t; show 2 * sz t + 2 ≤ 3 * 2 ^ (t.depth + 1); rw [Nat.pow_succ]; omega
  | cy _ t => by have := sz_depth t; show 2 * sz t + 1 + 2 ≤ 3 * 2 ^ (t.depth + 1); rw [Nat.pow_succ]; omega
  | pr _ t u => by
    have h1 := sz_depth t
    have h2 := sz_depth u
    have m1 : 2 ^ t.depth ≤ 2 ^ max t.depth u.depth := Nat.pow_le_pow_right (by decide) (Nat.le_max_left ..)
    have m2 : 2 ^ u.depth ≤ 2 ^ max t.depth u.depth := Nat.pow_le_pow_right (by decide) (Nat.le_max_right ..)
    show sz t + sz u + 2 + 2 ≤ 3 * 2 ^ (max t.depth u.depth + 1)
    rw [Nat.pow_succ]
    omega
end Tr


end
section
/-! Settling keeps a tree well formed. -/
open PySem PyProof.Rows L2 Evl
namespace Tr
variable {ok : Bool} {nps : List (Str × Int)}
end Tr


end
section
/-! The rules' defs. -/
open PySem PyProof.Rows L2 Evl

namespace Tr
/-- words and maps are such -/
noncomputable def Tk : Tr → Prop
  | nm _ => True
  | tm n t => n.natAbs ≤ 4 ^ 32 ∧ Tk t
  | tn t => Tk t
  | cy m t => (∃ b gl st, b ≤ 582 ∧ Mp b gl st m ∧ (gl = 1 ∨ gl = 2) ∧ (st = 1 ∨ st = 2)) ∧ Tk t
  | pr w t u => w ∈ pairs ∧ Tk t ∧ Tk u
theorem k_name {t : Tr} (h : t.Tk) (e : t.word = "name") : ∃ s, t = nm s := qt_of (by simp (disch := with_unfolding_all
  cases t with
  | nm s => exact ⟨s, rfl⟩
  | pr w t u => exact absurd e (pairs_ne h.1).1
  | tm n t => exact absurd (show ("times" : Str) = "name" from e) (by decide)
  | tn t => exact absurd (show ("turn" : Str) = "name" from e) (by decide)
  | cy m t => exact absurd (show ("carry" : Str) = "name" from e) (by decide)
  ) only [↓qt_eq])
theorem k_times {t : Tr} (h : t.Tk) (e : t.word = "times") : ∃ n x, t = tm n x := qt_of (by simp (disch := with_unfolding_all
  cases t with
  | tm n s => exact ⟨n, s, rfl⟩
  | pr w t u => exact absurd e (pairs_ne h.1).2.1
  | tn t => exact absurd (show ("turn" : Str) = "times" from e) (by decide)
  | nm t => exact absurd (show ("name" : Str) = "times" from e) (by decide)
  | cy m t => exact absurd (show ("carry" : Str) = "times" from e) (by decide)
  ) only [↓qt_eq])
theorem k_carry {t : Tr} (h : t.Tk) (e : t.word = "carry") : ∃ n x, t = cy n x := qt_of (by simp (disch := with_unfolding_all
  cases t with
  | cy n s => exact ⟨n, s, rfl⟩
  | pr w t u => exact absurd e (pairs_ne h.1).2.2.1
  | tn t => exact absurd (show ("turn" : Str) = "carry" from e) (by decide)
  | nm t => exact absurd (show ("name" : Str) = "carry" from e) (by decide)
  | tm m t => exact absurd (show ("times" : Str) = "carry" from e) (by decide)
  ) only [↓qt_eq])
theorem word_shk {t : Tr} (h : t.Tk) : SeqAt.shaped (.str t.word) = true := qt_of (by simp (disch := with_unfolding_all
  cases t with
  | pr w t u =>
    have hw := h.1
    simp only [pairs, List.mem_cons, List.not_mem_nil, or_false] at hw
    show SeqAt.shaped (.str w) = true
    rcases hw with rfl | rfl | rfl | rfl | rfl | rfl <;> decide +kernel
  | nm s => show SeqAt.shaped (.str "name") = true; decide +kernel
  | tm n t => show SeqAt.shaped (.str "times") = true; decide +kernel
  | tn t => show SeqAt.shaped (.str "turn") = true; decide +kernel
  | cy m t => show SeqAt.shaped (.str "carry") = true; decide +kernel
  ) only [↓qt_eq])
end Tr
section
variable {K : Fg} {cs : Cs} {gs : Gs} {φ : PyData → Prop} {A : Rs → Prop} {ε : Xw → Prop} {w : World}
-- slots of twice: 0 tree
theorem c_small {n k : Int} (h1 : n.natAbs ≤ 4 ^ 32) (h2 : k.natAbs ≤ 4 ^ 32) : CMulW n k :=
  Bd.cm (n := 66) (m := 66) (show n.natAbs < 2 ^ 66 from Nat.lt_of_le_of_lt h1 (by decide)) (show k.natAbs < 2 ^ 66 from Nat.lt_of_le_of_lt h2 (by decide)) (by decide)
-- slots of product: 0 tree
-- slots of turncarry: 0 tree
-- slots of turntimes: 0 tree
-- slots of carrytimes: 0 tree
-- slots of once: 0 tree
-- slots of still_rule: 0 tree
-- slots of onward: 0 tree
-- slots of turnpair: 0 tree, 1 word, 2 one, 3 other
-- slots of carrypair: 0 tree, 1 second, 2 word, 3 one, 4 other
-- slots of left: 0 tree
-- slots of right: 0 tree
end


end
section
/-! The rules in turn. -/
open PySem PyProof.Rows L2 Evl

section
variable {K : Fg} {cs : Cs} {gs : Gs} {φ : PyData → Prop} {A : Rs → Prop} {ε : Xw → Prop} {w : World} {W : WX} {fv : Nat → Addr} {Φ : Out → Prop}
-- slots of at_top: 0 tree, 1 rule, 2 fitting, 3 found
end


end
section
/-! One step. -/
open PySem PyProof.Rows L2 Evl

section
variable {K : Fg} {cs : Cs} {gs : Gs} {φ : PyData → Prop} {A : Rs → Prop} {ε : Xw → Prop} {w : World} {W : WX} {Φ : Out → Prop}
-- slots of one_step: 0 tree, 1 start, 2 at, 3 found
end


end
section
/-! How a tree is written. -/
open PySem PyProof.Rows L2 Evl

noncomputable abbrev Jn : List (List Nat) → List Nat := TL.joinL [32]
theorem Jn_cons {p q : List Nat} {r : List (List Nat)} : Jn (p :: q :: r) = p ++ 32 :: Jn (q :: r) := rfl
theorem Jn_app : ∀ {xs : List (List Nat)} {b : List Nat}, xs ≠ [] → Jn (xs ++ [b]) = Jn xs ++ 32 :: b
  | [a], b, _ => rfl
  | a :: c :: r, b, _ => by
    have ih := Jn_app (xs := c :: r) (b := b) (by simp)
    show a ++ 32 :: Jn ((c :: r) ++ [b]) = (a ++ 32 :: Jn (c :: r)) ++ 32 :: b
    rw [ih]
    simp
theorem Jn_mid {a b : List Nat} {xs : List (List Nat)} (h : xs ≠ []) : Jn (a :: (xs ++ [b])) = Jn [a, Jn xs, b] := by
  cases xs with
  | nil => exact absurd rfl h
  | cons c r =>
    show Jn (a :: c :: (r ++ [b])) = _
    rw [Jn_cons, show c :: (r ++ [b]) = (c :: r) ++ [b] from rfl, Jn_app (by simp)]
    rfl
theorem Jn_len {n : Nat} : ∀ {xs : List (List Nat)}, (∀ x ∈ xs, x.length ≤ n) → (Jn xs).length ≤ xs.length * (n + 1)
  | [], _ => Nat.zero_le _
  | [a], h => by have := h a (by simp); show a.length ≤ 1 * (n + 1); omega
  | a :: c :: r, h => by
    have h1 := h a (by simp)
    have h2 := Jn_len (xs := c :: r) fun x hx => h x (List.mem_cons_of_mem _ hx)
    rw [Jn_cons, List.length_append, List.length_cons, List.length_cons (a := a), Nat.succ_mul]
    omega
noncomputable def rowL (row : List Fr) : List Nat := 40 :: (Jn (row.map partT) ++ [41])
noncomputable def wayL (m : List (List Fr)) : List Nat := Jn (m.map rowL)
noncomputable def Tr.txt : Tr → List Nat
  | .nm s => TL.tl s
  | .tm n t => 40 :: (Jn [TL.tl "times", intL n, Tr.txt t] ++ [41])
  | .tn t => 40 :: (Jn [TL.tl "turn", Tr.txt t] ++ [41])
  | .cy m t => 40 :: (Jn [TL.tl "carry", wayL m, Tr.txt t] ++ [41])
  | .pr w t u => 40 :: (Jn [TL.tl w, Tr.txt t, Tr.txt u] ++ [41])
theorem part_lenT {p : Fr} {n : Nat} (h : Gd n p) (hn : n ≤ 1000) : (partT p).length ≤ 1403 := qt_of (by simp (disch := with_unfolding_all
  have big : 2 ^ 1000 < 10 ^ 700 := by decide +kernel
  have b1 : p.1.natAbs < 10 ^ 700 := Nat.lt_trans (Nat.lt_of_lt_of_le (show p.1.natAbs < 2 ^ n from h.sz.1) (Nat.pow_le_pow_right (by decide) hn)) big
  have b2 : p.2.natAbs < 10 ^ 700 := Nat.lt_trans (Nat.lt_of_lt_of_le (show p.2.natAbs < 2 ^ n from h.sz.2) (Nat.pow_le_pow_right (by decide) hn)) big
  have l1 := intL_len b1
  have l2 := intL_len b2
  unfold partT
  split
  · omega
  · rw [List.length_append, List.length_cons]; omega
  ) only [↓qt_eq])
theorem row_lenT {b : Nat} {row : List Fr} (h : Gds b row) (hb : b ≤ 1000) (hl : row.length ≤ 3) : (rowL row).length ≤ 4214 := qt_of (by simp (disch := with_unfolding_all
  have := Jn_len (n := 1403) (xs := row.map partT) fun x hx => by
    obtain ⟨p, hp, rfl⟩ := List.mem_map.mp hx
    exact part_lenT (h p hp) hb
  rw [List.length_map] at this
  have : row.length * (1403 + 1) ≤ 3 * 1404 := Nat.mul_le_mul_right _ hl
  unfold rowL
  rw [List.length_cons, List.length_append, List.length_singleton]
  omega
  ) only [↓qt_eq])
theorem way_lenT {b gl st : Nat} {m : List (List Fr)} (M : Mp b gl st m) (hb : b ≤ 1000) (h1 : gl ≤ 2) (h2 : st ≤ 2) : (wayL m).length ≤ 8430 := qt_of (by simp (disch := with_unfolding_all
  have := Jn_len (n := 4214) (xs := m.map rowL) fun x hx => by
    obtain ⟨r, hr, rfl⟩ := List.mem_map.mp hx
    exact row_lenT (M.row r hr).2 hb (by rw [(M.row r hr).1]; omega)
  rw [List.length_map, M.len] at this
  have : gl * (4214 + 1) ≤ 2 * 4215 := Nat.mul_le_mul_right _ h1
  unfold wayL
  omega
  ) only [↓qt_eq])
/-- names are short -/
noncomputable def Tr.Nl : Tr → Prop
  | .nm s => (TL.tl s).length ≤ 1000
  | .tm _ t => Tr.Nl t
  | .tn t => Tr.Nl t
  | .cy _ t => Tr.Nl t
  | .pr _ t u => Tr.Nl t ∧ Tr.Nl u
theorem small_len {n : Int} (h : n.natAbs ≤ 4 ^ 32) : (intL n).length ≤ 701 := intL_len (Nat.lt_of_le_of_lt h (by decide +kernel))
theorem word_len {w : Str} (h : w ∈ Tr.pairs) : (TL.tl w).length ≤ 10 := by
  simp only [Tr.pairs, List.mem_cons, List.not_mem_nil, or_false] at h
  rcases h with rfl | rfl | rfl | rfl | rfl | rfl <;> (rw [TL.tl_ofString]; decide)
theorem txt_len : ∀ {t : Tr}, t.Tk → t.Nl → (Tr.txt t).length ≤ 9000 * t.sz
  | .nm s, _, h => by have h : (TL.tl s).length ≤ 1000 := h; show (TL.tl s).length ≤ 9000 * 1; omega
  | .tm n t, k, h => by
    have := txt_len k.2 h
    have := small_len k.1
    have w : (TL.tl "times").length = 5 := by rw [TL.tl_ofString]; rfl
    show (40 :: (TL.tl "times" ++ 32 :: (intL n ++ 32 :: Tr.txt t) ++ [41])).length ≤ 9000 * (t.sz + 1)
    simp only [List.length_cons, List.length_append, List.length_nil]
    omega
  | .tn t, k, h => by
    have := txt_len (t := t) k h
    have := t.sz_pos
    have w : (TL.tl "turn").length = 4 := by rw [TL.tl_ofString]; rfl
    show (40 :: (TL.tl "turn" ++ 32 :: Tr.txt t ++ [41])).length ≤ 9000 * (2 * t.sz)
    simp only [List.length_cons, List.length_append, List.length_nil]
    omega
  | .cy m t, k, h => by
    have := txt_len (t := t) k.2 h
    obtain ⟨⟨b, gl, st, hb, M, h1, h2⟩, _⟩ := k
    have := way_lenT M (by omega) (by omega) (by omega)
    have w : (TL.tl "carry").length = 5 := by rw [TL.tl_ofString]; rfl
    show (40 :: (TL.tl "carry" ++ 32 :: (wayL m ++ 32 :: Tr.txt t) ++ [41])).length ≤ 9000 * (2 * t.sz + 1)
    simp only [List.length_cons, List.length_append, List.length_nil]
    omega
  | .pr w t u, k, h => by
    have := txt_len k.2.1 h.1
    have := txt_len k.2.2 h.2
    have := word_len k.1
    show (40 :: (TL.tl w ++ 32 :: (Tr.txt t ++ 32 :: Tr.txt u) ++ [41])).length ≤ 9000 * (t.sz + u.sz + 2)
    simp only [List.length_cons, List.length_append, List.length_nil]
    omega


end
section
/-! Trees written: the defs. -/
open PySem PyProof.Rows L2 Evl

theorem tx_tl (z : Str) : tx (TL.tl z) = z := (tx_of z).symm
theorem tx_sp : (" " : Str) = tx [32] := TL.ext_tl (by rw [TL.tl_ofString] <;> rfl)
theorem tx_op : ("(" : Str) = tx [40] := TL.ext_tl (by rw [TL.tl_ofString] <;> rfl)
theorem tx_cl : (")" : Str) = tx [41] := TL.ext_tl (by rw [TL.tl_ofString] <;> rfl)
theorem join_tx (ys : List (List Nat)) : Txt.join " " (ys.map tx) = tx (Jn ys) := qt_of (by simp (disch := with_unfolding_all
  refine TL.ext_tl ?_
  rw [TL.join_eq, TL.tl_join, tx_sp, List.map_map]
  show TL.joinL [32] _ = Jn ys
  rw [show ys.map (TL.tl ∘ tx) = ys from (List.map_congr_left (g := id) fun x _ => rfl).trans (List.map_id _)]
  ) only [↓qt_eq])
section
variable {K : Fg} {cs : Cs} {gs : Gs} {φ : PyData → Prop} {A : Rs → Prop} {ε : Xw → Prop} {w : World}
theorem sum_len {n : Nat} : ∀ {ys : List (List Nat)}, (∀ y ∈ ys, y.length ≤ n) → ((ys.map tx).map (·.length)).sum ≤ ys.length * n
  | [], _ => Nat.zero_le _
  | y :: ys, h => by
    have h1 := h y (by simp)
    have h2 := sum_len fun y hy => h y (List.mem_cons_of_mem _ hy)
    rw [List.map_cons, List.map_cons, List.sum_cons, tx_len, List.length_cons, Nat.succ_mul]
    omega
/-- what joins: the parts known -/
theorem join_ok {n : Nat} {ys : List (List Nat)} (h : ∀ y ∈ ys, y.length ≤ n) (hn : ys.length * (n + 1) ≤ 16000000) : ((ys.map tx).map (·.length)).sum + (ys.map tx).length * (" " : Str).length ≤ 16777216 := by
  have := sum_len h
  rw [tx_sp, tx_len, List.length_map]
  have : ys.length * (n + 1) = ys.length * n + ys.length := Nat.mul_succ _ _
  simp only [List.length_cons, List.length_nil]
  omega
theorem strs_tx {β : Type} (f : β → List Nat) (xs : List β) : xs.map (fun x => PyData.str (tx (f x))) = ((xs.map f).map tx).map PyData.str := by rw [List.map_map, List.map_map]; rfl
variable {W : WX} {G : Gam} {ts : List TE} {te : TE} {ω : Str → Prop} {acc : List Nat}
theorem gd_small {p : Fr} {b : Nat} (g : Gd b p) (hb : b ≤ 1000) : p.1.natAbs < 10 ^ 500 ∧ p.2.natAbs < 10 ^ 500 := qt_of (by simp (disch := with_unfolding_all
  have big : 2 ^ 1000 < 10 ^ 500 := by decide +kernel
  exact ⟨Nat.lt_trans (Nat.lt_of_lt_of_le (show p.1.natAbs < 2 ^ b from g.sz.1) (Nat.pow_le_pow_right (by decide) hb)) big, Nat.lt_trans (Nat.lt_of_lt_of_le (show p.2.natAbs < 2 ^ b from g.sz.2) (Nat.pow_le_pow_right (by decide) hb)) big⟩
  ) only [↓qt_eq])
-- slots of way_text: 0 way, 1 rows, 2 row, 3 one
theorem kid_sz {t k : Tr} (h : k ∈ t.kids) : k.sz ≤ t.sz := qt_of (by simp (disch := with_unfolding_all
  cases t with
  | nm s => cases h
  | tm n x => rw [List.mem_singleton.mp h]; exact Nat.le_succ _
  | tn x => rw [List.mem_singleton.mp h]; exact Nat.le_mul_of_pos_left _ (by decide)
  | cy m x => rw [List.mem_singleton.mp h]; show x.sz ≤ 2 * x.sz + 1; omega
  | pr w x y =>
    rcases List.mem_cons.mp h with rfl | h
    · exact (by omega : k.sz ≤ k.sz + y.sz + 2)
    · rw [List.mem_singleton.mp h]; show y.sz ≤ x.sz + y.sz + 2; omega
  ) only [↓qt_eq])
-- slots of write: 0 tree, 1 inner, 2 word, 3 rest, 4 one
end


end
section
/-! Trees written by the law. -/
open PySem PyProof.Rows L2 Evl

section
variable {K : Fg} {cs : Cs} {gs : Gs} {φ : PyData → Prop} {A : Rs → Prop} {ε : Xw → Prop} {w : World}
noncomputable def P_lpartText : Pr := fun ds A => ∃ p : Fr, ds = [fr p] ∧ p.1.natAbs < 10 ^ 500 ∧ p.2.natAbs < 10 ^ 500 ∧ A (.ok (.str (tx (partT p))))
noncomputable def t__law_part_text (K : Fg) : TS := (tRet (tIf (tTest (tOp rEq (tOp (rIx K) (tVar 0) (tC (V.int 1))) (tC (V.int 1)))) (tCB rStrI (tCons (tOp (rIx K) (tVar 0) (tC (V.int 0))) tNil)) (tOp rAddStr (tOp rAddStr (tCB rStrI (tCons (tOp (rIx K) (tVar 0) (tC (V.int 0))) tNil)) (tC (V.str "/"))) (tCB rStrI (tCons (tOp (rIx K) (tVar 0) (tC (V.int 1))) tNil)))))
-- slots of _law_part_text: 0 _law_one
theorem ln__law_part_text : ∀ ds A, P_lpartText ds A → ds.length = 1 := fun ds A h => by obtain ⟨_, rfl, _⟩ := h; rfl
theorem rd__law_part_text {ds A} (h : P_lpartText ds A) : SW K cs W0 (t__law_part_text K) (frame 1 ds) (rts0 A) := qt_of (by simp (disch := with_unfolding_all
  obtain ⟨p, rfl, h1, h2, q⟩ := h
  have l1 := intL_len (Nat.lt_trans h1 (Nat.pow_lt_pow_right (by decide) (show 500 < 700 by decide)))
  have l2 := intL_len (Nat.lt_trans h2 (Nat.pow_lt_pow_right (by decide) (show 500 < 700 by decide)))
  unfold partT at q
  unfold t__law_part_text
  walk_at "w"
  refine cnd_d (fun e => ?_) (fun e => ?_)
  · rw [if_pos e] at q
    walk_at "w"
    refine ⟨log_small h1, ?_⟩
    rw [str_int]
    exact q
  · rw [if_neg e] at q
    have sz : ∀ {a b : Str} {l m : List Nat}, a = tx l → b = tx m → l.length + m.length ≤ 5000 → a.length + b.length ≤ sizeLine := fun {a b l m} ea eb h => by
      rw [ea, eb, tx_len, tx_len]
      exact Nat.le_trans h (by decide)
    walk_at "w"
    refine ⟨log_small h1, _, rfl, ?_⟩
    walk_at "w"
    refine ⟨sz (str_int _) tx_stroke (by simp only [List.length_cons, List.length_nil]; omega), _, rfl, ?_⟩
    walk_at "w"
    refine ⟨log_small h2, _, rfl, sz (by rw [str_int, tx_stroke, tx_app]) (str_int _) (by simp only [List.length_append, List.length_cons, List.length_nil]; omega), ?_⟩
    rw [str_int, str_int, tx_stroke, tx_app, tx_app, List.append_assoc]
    exact q
  ) only [↓qt_eq])
noncomputable def P_ltext : Nat → Pr
  | 0 => fun _ _ => False
  | n + 1 => fun ds A => ∃ t : Tr, ds = [t.enc] ∧ t.Tk ∧ t.Nl ∧ t.sz ≤ 300 ∧ t.depth ≤ n ∧ n ≤ 25 ∧ A (.ok (.str (tx t.txt)))
theorem k_two {t : Tr} (h : t.Tk) (e : t.word = "times" ∨ t.word = "carry") : t.kids.map Tr.enc = t.rest.drop 1 := qt_of (by simp (disch := with_unfolding_all
  cases t with
  | tm n t => rfl
  | cy m t => rfl
  | pr w t u => exact absurd e (by have := Tr.pairs_ne h.1; exact fun z => z.elim this.2.1 this.2.2.1)
  | nm s => exact absurd (show ("name" : Str) = "times" ∨ ("name" : Str) = "carry" from e) (by decide)
  | tn t => exact absurd (show ("turn" : Str) = "times" ∨ ("turn" : Str) = "carry" from e) (by decide)
  ) only [↓qt_eq])
theorem k_rest {t : Tr} (e1 : t.word ≠ "name") (e2 : ¬ (t.word = "times" ∨ t.word = "carry")) : t.kids.map Tr.enc = t.rest := by
  cases t with
  | tn t => rfl
  | pr w t u => rfl
  | nm s => exact absurd rfl e1
  | tm n t => exact absurd (.inl rfl) e2
  | cy m t => exact absurd (.inr rfl) e2
noncomputable def P_linnerK : Pr := fun ds A => ∃ t : Tr, ds = [t.enc] ∧ t.Tk ∧ A (.ok (.list (t.kids.map Tr.enc)))
noncomputable def t_linnerK (K : Fg) : TS := (tSeq (tIfS (tTest (tOp rEq (tOp (rIx K) (tVar 0) (tC (V.int 0))) (tC (V.str "name")))) (tRet (tLst tNil)) tNext)
  (tRet (tIf (tTest (tOp (rInS K false) (tOp (rIx K) (tVar 0) (tC (V.int 0))) (tLst (tCons (tC (V.str "times")) (tCons (tC (V.str "carry")) tNil))))) (tCB (rListQ K) (tCons (tSl (rSlA K) (tVar 0) (tPart (tC (V.int 2))) tNoPart) tNil)) (tCB (rListQ K) (tCons (tSl (rSlA K) (tVar 0) (tPart (tC (V.int 1))) tNoPart) tNil)))))
-- slots of linnerK: 0 _law_tree
theorem ln_linnerK : ∀ ds A, P_linnerK ds A → ds.length = 1 := fun ds A h => by obtain ⟨t, rfl, _⟩ := h; rfl
theorem rd_linnerK {ds A} (h : P_linnerK ds A) : SW K cs W0 (t_linnerK K) (frame 1 ds) (rts0 A) := qt_of (by simp (disch := with_unfolding_all
  obtain ⟨t, rfl, hw, h⟩ := h
  unfold t_linnerK
  rw [t.enc_eq]
  walk_at "wi"
  refine cnd_d (fun e => ?_) fun e => ?_
  · obtain ⟨s, rfl⟩ := Tr.k_name hw e
    walk_at "w"
    exact h
  · walk_at "w"
    refine in2 (Tr.word_shk hw) (by decide +kernel) (fun e2 => ?_) fun e2 => ?_
    · walk_at "w"
      rw [k_two hw e2] at h
      rw [show (2 : Int) = ((2 : Nat) : Int) from rfl, cutD_from]
      exact h
    · walk_at "w"
      rw [k_rest e e2] at h
      rw [show (1 : Int) = ((1 : Nat) : Int) from rfl, cutD_from]
      exact h
  ) only [↓qt_eq])
end


end
section
/-! Trees written by the law, the last part. -/
open PySem PyProof.Rows L2 Evl

noncomputable def headL : Tr → List (List Nat)
  | .nm s => [TL.tl s]
  | .tm n _ => [TL.tl "times", intL n]
  | .tn _ => [TL.tl "turn"]
  | .cy m _ => TL.tl "carry" :: m.map rowL
  | .pr w _ _ => [TL.tl w]
theorem txt_head {t : Tr} (h : t.Tk) (e : t.word ≠ "name") : t.txt = 40 :: (Jn (headL t ++ t.kids.map Tr.txt) ++ [41]) := qt_of (by simp (disch := with_unfolding_all
  cases t with
  | nm s => exact absurd rfl e
  | tm n x => rfl
  | tn x => rfl
  | pr w x y => rfl
  | cy m x =>
    obtain ⟨⟨b, gl, st, hb, M, h1, h2⟩, _⟩ := h
    have ne : m.map rowL ≠ [] := by
      intro z
      have := congrArg List.length z
      rw [List.length_map, M.len] at this
      simp at this
      omega
    show _ = 40 :: (Jn (TL.tl "carry" :: (m.map rowL ++ [x.txt])) ++ [41])
    rw [Jn_mid ne]
    rfl
  ) only [↓qt_eq])
theorem head_len {t : Tr} (h : t.Tk) : (headL t).length ≤ 3 ∧ ∀ l ∈ headL t, l.length ≤ 4214 ∨ t.word = "name" := qt_of (by simp (disch := with_unfolding_all
  cases t with
  | nm s => exact ⟨by simp [headL], fun l _ => .inr rfl⟩
  | tm n x => exact ⟨by simp [headL], fun l hl => .inl (by
      have w : (TL.tl "times").length = 5 := by rw [TL.tl_ofString]; rfl
      have := small_len h.1
      simp only [headL, List.mem_cons, List.not_mem_nil, or_false] at hl
      rcases hl with rfl | rfl <;> omega)⟩
  | tn x => exact ⟨by simp [headL], fun l hl => .inl (by
      have w : (TL.tl "turn").length = 4 := by rw [TL.tl_ofString]; rfl
      rw [List.mem_singleton.mp hl]; omega)⟩
  | pr w x y => exact ⟨by simp [headL], fun l hl => .inl (by
      have := word_len h.1
      rw [List.mem_singleton.mp hl]; omega)⟩
  | cy m x =>
    obtain ⟨⟨b, gl, st, hb, M, h1, h2⟩, _⟩ := h
    refine ⟨by show (TL.tl "carry" :: m.map rowL).length ≤ 3; rw [List.length_cons, List.length_map, M.len]; omega, fun l hl => .inl ?_⟩
    have w : (TL.tl "carry").length = 5 := by rw [TL.tl_ofString]; rfl
    rcases List.mem_cons.mp hl with rfl | hl
    · omega
    · obtain ⟨r, hr, rfl⟩ := List.mem_map.mp hl
      exact row_lenT (M.row r hr).2 (by omega) (by rw [(M.row r hr).1]; omega)
  ) only [↓qt_eq])
noncomputable def head1 (t : Tr) : List (List Nat) := match t with
  | .tm n _ => [TL.tl "times", intL n]
  | t => [TL.tl t.word]
noncomputable abbrev GL (t : Tr) (hd : List (List Nat)) : Gam := [.d (.tuple (.str t.word :: t.rest)), .ow (ol (hd.map fun l => .str (tx l))), .un, .un, .un]
theorem head1_ne {t : Tr} (e : t.word ≠ "times") : head1 t = [TL.tl t.word] := by cases t <;> first | rfl | exact absurd rfl e
section
variable {K : Fg} {cs : Cs} {gs : Gs} {φ : PyData → Prop} {A : Rs → Prop} {ε : Xw → Prop} {w : World}
noncomputable def t__law_text (K : Fg) (n : Nat) : TS := (tSeq (tIfS (tTest (tOp rEq (tOp (rIx K) (tVar 0) (tC (V.int 0))) (tC (V.str "name")))) (tRet (tOp (rIx K) (tVar 0) (tC (V.int 1)))) tNext)
  (tSeq (tAsg (tLst (tCons (tOp (rIx K) (tVar 0) (tC (V.int 0))) tNil)) (gName 1))
  (tSeq (tIfS (tTest (tOp rEq (tOp (rIx K) (tVar 0) (tC (V.int 0))) (tC (V.str "times")))) (tDrop (tBM K "list" rAppend (tVar 1) (tCons (tCB rStrI (tCons (tOp (rIx K) (tVar 0) (tC (V.int 1))) tNil)) tNil))) tNext)
  (tSeq (tIfS (tTest (tOp rEq (tOp (rIx K) (tVar 0) (tC (V.int 0))) (tC (V.str "carry")))) (tDrop (tBM K "list" rExtend (tVar 1) (tCons (tLc (iTup K (tOp (rIx K) (tVar 0) (tC (V.int 1)))) (gName 2) tYes (tOp rAddStr (tOp rAddStr (tC (V.str "(")) (tM1 (rJoin K) (tC (V.str " ")) (tLc (iTup K (tVar 2)) (gName 4) tYes (tCall (spW0 K P_lpartText) [] E0 (tCons (tVar 4) tNil)) [4]))) (tC (V.str ")"))) [2]) tNil))) tNext)
  (tRet (tOp rAddStr (tOp rAddStr (tC (V.str "(")) (tM1 (rJoin K) (tC (V.str " ")) (tOp (rCatL K) (tVar 1) (tLc (iList K (tCall (spW0 K P_linnerK) [] E0 (tCons (tVar 0) tNil))) (gName 3) tYes (tCall (spW0 K (P_ltext n)) [] E0 (tCons (tVar 3) tNil)) [3])))) (tC (V.str ")"))))))))
-- slots of _law_text: 0 _law_tree, 1 _law_words, 2 _law_row, 3 _law_inner_here, 4 _law_one
theorem ln__law_text {n : Nat} : ∀ ds A, P_ltext (n + 1) ds A → ds.length = 1 := fun ds A h => by obtain ⟨t, rfl, _⟩ := h; rfl
theorem rd__law_text {n : Nat} {ds A} (h : P_ltext (n + 1) ds A) : SW K cs W0 (t__law_text K n) (frame 5 ds) (rts0 A) := qt_of (by simp (disch := with_unfolding_all
  obtain ⟨t, rfl, hk, hl, hs, hd, hn, h⟩ := h
  unfold t__law_text
  have L := txt_len hk hl
  have kid : ∀ {x : Tr}, x ∈ t.kids → x.Tk → x.Nl → ∀ {φ : PyData → Prop} {ε : Xw → Prop}, φ (.str (tx x.txt)) → P_ltext n [x.enc] (rE φ ε) := fun {x} hx h1 h2 φ ε p => by
    have := Tr.kid_depth hx
    have := kid_sz hx
    obtain ⟨m, rfl⟩ : ∃ m, n = m + 1 := ⟨n - 1, by omega⟩
    exact ⟨x, rfl, h1, h2, by omega, by omega, by omega, p⟩
  rw [t.enc_eq]
  walk_at "wi"
  refine cnd_d (fun e => ?_) fun e => ?_
  · obtain ⟨z, rfl⟩ := Tr.k_name hk e
    walk_at "w"
    rw [show tx (Tr.txt (.nm z)) = z from (tx_of z).symm] at h
    exact h
  walk_at "s"
  refine sw_seq (sw_asgF (ef_lst1 ?_))
  walk_at "w"
  have e0 : ([PyData.str t.word] : List PyData) = [TL.tl t.word].map fun l => PyData.str (tx l) := by rw [List.map_cons, tx_tl]; rfl
  rw [e0]
  refine sw_cut (fun G => G = GL t (head1 t)) ?_ ?_
  · walk_at "wi"
    refine cnd_d (fun e1 => ?_) fun e1 => ?_
    · obtain ⟨i, x, rfl⟩ := Tr.k_times hk e1
      refine sw_app (i := 1) rfl (by simp) ?_
      walk_at "w"
      refine ⟨log_small (Nat.lt_of_le_of_lt hk.1 (by decide +kernel)), ?_⟩
      rw [str_int]
      exact x_nx rfl
    · walk_at "w"
      rw [head1_ne e1]
      rfl
  rintro _ rfl
  refine sw_cut (fun G => G = GL t (headL t)) ?_ ?_
  · walk_at "wi"
    refine cnd_d (fun e1 => ?_) fun e1 => ?_
    · obtain ⟨m, x, rfl⟩ := Tr.k_carry hk e1
      obtain ⟨⟨b, gl, st, hb, M, h1, h2⟩, _⟩ := hk
      refine sw_ext (i := 1) rfl (ef_lc ?_)
      walk_at "w"
      refine lcM (f := frs) (fun row => .str (tx (rowL row))) (by rw [M.len]; omega) (unk1 rfl) (fun row hr => ?_) ⟨_, rfl, ?_, ?_⟩
      · refine gc_name (by simp) ?_
        have l := (M.row row hr).1
        have g := (M.row row hr).2
        have r1 := row_lenT g (by omega) (by omega)
        unfold rowL at r1
        rw [List.length_cons, List.length_append, List.length_singleton] at r1
        walk_at "w"
        refine lcM (f := fr) (fun p => .str (tx (partT p))) (by omega) (unk1 rfl) (fun p hp => ?_) ⟨_, rfl, (row.map partT).map tx, congrArg PyData.list (strs_tx partT row), join_ok (n := 1403) ?_ ?_, ?_⟩
        · refine gc_name (by simp) ?_
          walk_at "w"
          obtain ⟨q1, q2⟩ := gd_small (g p hp) (by omega)
          exact ⟨p, rfl, q1, q2, rfl⟩
        · intro y hy
          obtain ⟨p, hp, rfl⟩ := List.mem_map.mp hy
          exact part_lenT (g p hp) (by omega)
        · rw [List.length_map]
          have : row.length * (1403 + 1) ≤ 3 * 1404 := Nat.mul_le_mul_right _ (by omega)
          omega
        rw [join_tx, tx_op, tx_cl]
        refine ⟨_, rfl, ?_, _, rfl, ?_⟩
        · rw [tx_len, tx_len]; exact Nat.le_trans (show [40].length + (Jn (row.map partT)).length ≤ 5000 by simp only [List.length_cons, List.length_nil]; omega) (by decide)
        walk_at "w"
        rw [tx_app]
        refine ⟨?_, ?_⟩
        · rw [tx_len, tx_len]; exact Nat.le_trans (show ([40] ++ Jn (row.map partT)).length + [41].length ≤ 5000 by simp only [List.length_append, List.length_cons, List.length_nil]; omega) (by decide)
        rw [tx_app]
        rfl
      · show (1 + _ : Nat) ≤ _
        rw [List.length_map, M.len]; omega
      · refine x_nx ?_
        show _ = [_, En.ow (ol (_ :: (m.map rowL).map fun l => PyData.str (tx l))), _, _, _]
        rw [List.map_map]
        rfl
    · walk_at "w"
      cases t <;> first | rfl | exact absurd rfl e | exact absurd rfl e1
  rintro _ rfl
  refine sw_freeze (i := 1) rfl ?_
  walk_at "w"
  have k2 : t.kids.length ≤ 2 := by cases t <;> first | exact Nat.le_refl 2 | exact Nat.le_succ 1 | exact Nat.zero_le 2
  obtain ⟨c1, c2⟩ := head_len hk
  have kt : ∀ {u : Tr}, u ∈ t.kids → u.Tk ∧ u.Nl := fun {u} hu => by
    cases t with
    | nm z => cases hu
    | tm i x => rw [List.mem_singleton.mp hu]; exact ⟨hk.2, hl⟩
    | tn x => rw [List.mem_singleton.mp hu]; exact ⟨hk, hl⟩
    | cy m x => rw [List.mem_singleton.mp hu]; exact ⟨hk.2, hl⟩
    | pr z x y =>
      rcases List.mem_cons.mp hu with rfl | hu
      · exact ⟨hk.2.1, hl.1⟩
      · rw [List.mem_singleton.mp hu]; exact ⟨hk.2.2, hl.2⟩
  have lt := txt_head hk e
  have el : (headL t).map (fun l => PyData.str (tx l)) ++ t.kids.map (fun u => PyData.str (tx u.txt)) = ((headL t ++ t.kids.map Tr.txt).map tx).map PyData.str := by
    rw [List.map_append, List.map_append, List.map_map, List.map_map, List.map_map]
    rfl
  refine ⟨t, by rw [t.enc_eq], hk, _, rfl, ?_⟩
  refine lcM (f := Tr.enc) (fun u => .str (tx u.txt)) (by omega) (unk1 rfl) (fun u hu => ?_) ⟨_, rfl, _, rfl, ?_, _, congrArg PyData.list el, join_ok (n := 2700000) ?_ ?_, ?_⟩
  · refine gc_name (by simp) ?_
    walk_at "w"
    exact kid hu (kt hu).1 (kt hu).2 rfl
  · rw [List.length_map, List.length_map]; omega
  · intro l hml
    rcases List.mem_append.mp hml with hml | hml
    · rcases c2 l hml with z | z
      · omega
      · exact absurd z e
    · obtain ⟨u, hu, rfl⟩ := List.mem_map.mp hml
      have := txt_len (kt hu).1 (kt hu).2
      have := kid_sz hu
      omega
  · rw [List.length_append, List.length_map]
    have : ((headL t).length + t.kids.length) * (2700000 + 1) ≤ 5 * 2700001 := Nat.mul_le_mul_right _ (by omega)
    omega
  rw [join_tx, tx_op, tx_cl]
  rw [lt] at h L
  simp only [List.length_append, List.length_cons, List.length_nil] at L
  refine ⟨_, rfl, ?_, _, rfl, ?_⟩
  · rw [tx_len, tx_len]; exact Nat.le_trans (show [40].length + (Jn (headL t ++ t.kids.map Tr.txt)).length ≤ 5000000 by simp only [List.length_cons, List.length_nil]; omega) (by decide)
  walk_at "w"
  rw [tx_app]
  refine ⟨?_, ?_⟩
  · rw [tx_len, tx_len]; exact Nat.le_trans (show ([40] ++ Jn (headL t ++ t.kids.map Tr.txt)).length + [41].length ≤ 5000000 by simp only [List.length_append, List.length_cons, List.length_nil]; omega) (by decide)
  rw [tx_app]
  exact h
  ) only [↓qt_eq])
end


end
section
/-! Trees with bounded numbers, drawn; names drawn. -/
open PySem PyProof.Rows L2 Evl

namespace Tr
/-- its numbers have at most 18 figures -/
noncomputable def Nb : Tr → Prop
  | nm _ => True
  | tm n t => n.natAbs ≤ 10 ^ 17 ∧ Nb t
  | tn t => Nb t
  | cy _ t => Nb t
  | pr _ t u => Nb t ∧ Nb u
theorem tk_of : ∀ {t : Tr}, t.Wf → t.Nb → t.Tk
  | nm s, _, _ => trivial
  | tm n t, w, b => ⟨Nat.le_trans b.1 (by decide), tk_of (t := t) w b.2⟩
  | tn t, w, b => tk_of (t := t) w b
  | cy m t, w, b => by
    obtain ⟨⟨gl, st, M, h1, h2, h3, h4⟩, w⟩ := w
    exact ⟨⟨10, gl, st, by decide, M, by omega, by omega⟩, tk_of (t := t) w b⟩
  | pr w t u, x, b => ⟨x.1, tk_of x.2.1 b.1, tk_of x.2.2 b.2⟩
end Tr
section
variable {K : Fg} {cs : Cs} {gs : Gs} {φ : PyData → Prop} {A : Rs → Prop} {ε : Xw → Prop} {w : World}
noncomputable def P_ltreeN : Nat → Pr
  | 0 => fun _ _ => False
  | n + 1 => fun ds A => ∃ (d : Nat) (ns : List Str), ds = [.int d, .list (ns.map PyData.str)] ∧ d ≤ n ∧ n ≤ 7 ∧ 0 < ns.length ∧ ns.length ≤ 1000 ∧ ∀ t : Tr, t.Wf → t.Nb → t.depth ≤ d → t.Ns ns → A (.ok t.enc)
noncomputable def t_ltreeN (K : Fg) (n : Nat) : TS := (tSeq (tAsg (tCall (spB K P_pull) [] E0 (tCons (tVar 0) (tCons (tC (V.int 12)) tNil))) (gName 3))
  (tSeq (tIfS (tOr (tTest (tOp rEq (tVar 1) (tC (V.int 0)))) (tTest (tOp rLtI (tVar 3) (tC (V.int 2))))) (tRet (tTup (tCons (tC (V.str "name")) (tCons (tOp (rIx K) (tVar 2) (tCall (spB K P_pull) [] E0 (tCons (tVar 0) (tCons (tCB (rLenQ K) (tCons (tVar 2) tNil)) tNil)))) tNil)))) tNext)
  (tSeq (tIfS (tTest (tOp rLtI (tVar 3) (tC (V.int 4)))) (tSeq (tAsg (tOp (rIx K) (tLst (tCons (tC (V.int 2)) (tCons (tUn rNegI (tC (V.int 1))) (tCons (tC (V.int 0)) (tCons (tC (V.int 1)) (tCons (tUn rNegI (tC (V.int 3))) (tCons (tOp rPowI (tC (V.int 10)) (tC (V.int 17))) tNil))))))) (tCall (spB K P_pull) [] E0 (tCons (tVar 0) (tCons (tC (V.int 6)) tNil)))) (gName 5))
  (tRet (tTup (tCons (tC (V.str "times")) (tCons (tVar 5) (tCons (tCall (spWB K (P_ltreeN n)) [] E0 (tCons (tVar 0) (tCons (tOp rSubI (tVar 1) (tC (V.int 1))) (tCons (tVar 2) tNil)))) tNil)))))) tNext)
  (tSeq (tIfS (tTest (tOp rLtI (tVar 3) (tC (V.int 6)))) (tRet (tTup (tCons (tC (V.str "turn")) (tCons (tCall (spWB K (P_ltreeN n)) [] E0 (tCons (tVar 0) (tCons (tOp rSubI (tVar 1) (tC (V.int 1))) (tCons (tVar 2) tNil)))) tNil)))) tNext)
  (tSeq (tIfS (tTest (tOp rLtI (tVar 3) (tC (V.int 8)))) (tSeq (tAsg (tCall (spB K P_map) [] E0 (tCons (tVar 0) (tCons (tOp rAddI (tC (V.int 1)) (tCall (spB K P_pull) [] E0 (tCons (tVar 0) (tCons (tC (V.int 2)) tNil)))) (tCons (tOp rAddI (tC (V.int 1)) (tCall (spB K P_pull) [] E0 (tCons (tVar 0) (tCons (tC (V.int 2)) tNil)))) tNil)))) (gName 6))
  (tRet (tTup (tCons (tC (V.str "carry")) (tCons (tVar 6) (tCons (tCall (spWB K (P_ltreeN n)) [] E0 (tCons (tVar 0) (tCons (tOp rSubI (tVar 1) (tC (V.int 1))) (tCons (tVar 2) tNil)))) tNil)))))) tNext)
  (tSeq (tAsg (tOp (rIx K) (tLst (tCons (tC (V.str "add")) (tCons (tC (V.str "take")) (tCons (tC (V.str "meet")) (tCons (tC (V.str "least")) (tCons (tC (V.str "most")) (tCons (tC (V.str "lay")) tNil))))))) (tCall (spB K P_pull) [] E0 (tCons (tVar 0) (tCons (tC (V.int 6)) tNil)))) (gName 4))
  (tRet (tTup (tCons (tVar 4) (tCons (tCall (spWB K (P_ltreeN n)) [] E0 (tCons (tVar 0) (tCons (tOp rSubI (tVar 1) (tC (V.int 1))) (tCons (tVar 2) tNil)))) (tCons (tCall (spWB K (P_ltreeN n)) [] E0 (tCons (tVar 0) (tCons (tOp rSubI (tVar 1) (tC (V.int 1))) (tCons (tVar 2) tNil)))) tNil)))))))))))
-- slots of ltreeN: 0 _law_bag_here, 1 _law_deep, 2 _law_names, 3 _law_kind, 4 _law_word, 5 _law_number, 6 _law_table
theorem ln_ltreeN {n : Nat} : ∀ ds A, P_ltreeN (n + 1) ds A → ds.length + 1 = 3 := fun ds A h => by obtain ⟨_, _, rfl, _⟩ := h; rfl
theorem rd_ltreeN {n : Nat} {ds A} (h : P_ltreeN (n + 1) ds A) : SW K cs W0 (t_ltreeN K n) (.bag :: frame 6 ds) (rts0 A) := qt_of (by simp (disch := with_unfolding_all
  obtain ⟨d, ns, rfl, hd, hn, n0, n1, h⟩ := h
  have hl : (ns.map PyData.str).length = ns.length := List.length_map ..
  have hnm : ∀ v : Int, 0 ≤ v → v < ((ns.map PyData.str).length : Int) → ∃ z, atI (ns.map PyData.str) v = some z ∧ A (.ok (.tuple [.str "name", z])) := fun v v0 v1 => by
    rw [hl] at v1
    obtain ⟨s, hs, e⟩ := atI_in (f := PyData.str) v0 v1
    exact ⟨_, e, h (.nm s) trivial trivial (Nat.zero_le _) hs⟩
  have again : ∀ {m : Nat} {ψ : PyData → Prop}, n = m → d ≠ 0 → (∀ t : Tr, t.Wf → t.Nb → t.depth + 1 ≤ d → t.Ns ns → ψ t.enc) → P_ltreeN m [.int ((d : Int) - 1), .list (ns.map PyData.str)] (rE ψ noX) := fun {m ψ} en hd0 k => by
    subst en
    obtain ⟨m', rfl⟩ : ∃ m', n = m' + 1 := ⟨n - 1, by omega⟩
    exact ⟨d - 1, ns, by rw [show ((d : Int) - 1) = ((d - 1 : Nat) : Int) from by omega], by omega, by omega, n0, n1, fun t w nb hd2 hs => k t w nb (by omega) hs⟩
  unfold t_ltreeN
  walk_at "wi"
  refine cnd_b (fun e => cnd_t ?_) (fun e => ?_)
  · walk_at "w"
    rename_i v0 v1
    obtain ⟨z, ez, az⟩ := hnm _ v0 v1
    exact ⟨z, ez, by walk_at "w"; exact az⟩
  · have d0 : d ≠ 0 := by simpa using e
    walk_at "w"
    refine cnd_b (fun e2 => ?_) (fun e2 => ?_)
    · walk_at "w"
      rename_i v0 v1
      obtain ⟨z, ez, az⟩ := hnm _ v0 v1
      exact ⟨z, ez, by walk_at "w"; exact az⟩
    · walk_at "wi"
      refine cnd_b (fun e3 => ?_) (fun e3 => ?_)
      · walk_at "w"
        refine ⟨⟨by decide, by decide⟩, ?_⟩
        walk_at "w"
        refine ⟨by decide, _, rfl, ?_⟩
        walk_at "w"
        rename_i v0 v1
        obtain ⟨z, mz, ez⟩ := menu_at (xs := [PyData.int 2, PyData.int (-1), PyData.int 0, PyData.int 1, PyData.int (-3), PyData.int (10 ^ Int.toNat 17)]) v0 v1
        refine ⟨z, ez, ?_⟩
        obtain ⟨i, rfl, ib⟩ : ∃ i, z = .int i ∧ i.natAbs ≤ 10 ^ 17 := by
          simp only [List.mem_cons, List.not_mem_nil, or_false] at mz
          rcases mz with rfl | rfl | rfl | rfl | rfl | rfl <;> exact ⟨_, rfl, by decide⟩
        walk_at "w"
        refine again rfl d0 fun t tw tb td ts => ?_
        walk_at "w"
        exact h (.tm i t) tw ⟨ib, tb⟩ td ts
      · walk_at "wi"
        refine cnd_b (fun e4 => ?_) (fun e4 => ?_)
        · walk_at "w"
          refine again rfl d0 fun t tw tb td ts => ?_
          walk_at "w"
          exact h (.tn t) tw tb td ts
        · walk_at "wi"
          refine cnd_b (fun e5 => ?_) (fun e5 => ?_)
          · walk_at "w"
            rename_i m hm
            refine again rfl d0 fun t tw tb td ts => ?_
            walk_at "w"
            exact h (.cy m t) ⟨⟨_, _, hm, by omega, by omega, by omega, by omega⟩, tw⟩ tb td ts
          · walk_at "w"
            refine ⟨by decide, _, rfl, ?_⟩
            walk_at "w"
            rename_i v0 v1
            obtain ⟨z, mz, ez⟩ := menu_at (xs := [PyData.str "add", PyData.str "take", PyData.str "meet", PyData.str "least", PyData.str "most", PyData.str "lay"]) v0 v1
            refine ⟨z, ez, ?_⟩
            obtain ⟨i, rfl, hi⟩ : ∃ i, z = .str i ∧ i ∈ Tr.pairs := by
              simp only [List.mem_cons, List.not_mem_nil, or_false] at mz
              rcases mz with rfl | rfl | rfl | rfl | rfl | rfl <;> exact ⟨_, rfl, by decide⟩
            walk_at "w"
            refine again rfl d0 fun t tw tb td ts => ?_
            walk_at "w"
            refine again rfl d0 fun u uw ub ud us => ?_
            walk_at "w"
            exact h (.pr i t u) ⟨hi, tw, uw⟩ ⟨tb, ub⟩ (by show max _ _ + 1 ≤ d; omega) ⟨ts, us⟩
  ) only [↓qt_eq])
theorem c_ltreeN {n d : Nat} {ns : List Str} (hd : d ≤ n) (hn : n ≤ 7) (n0 : 0 < ns.length) (n1 : ns.length ≤ 1000) (h : ∀ t : Tr, t.Wf → t.Nb → t.depth ≤ d → t.Ns ns → φ t.enc) : P_ltreeN (n + 1) [.int d, .list (ns.map PyData.str)] (rE φ ε) := ⟨d, ns, rfl, hd, hn, n0, n1, h⟩
-- slots of _law_name: 0 _law_bag_here
end


end
section
/-! The words of a written tree. -/
open PySem PyProof.Rows L2 Evl
noncomputable abbrev flW (w : List Nat) : List (List Nat) := if w = [] then [] else [w]
/-- the words and brackets of a text -/
noncomputable def tkn : List Nat → List Nat → List (List Nat)
  | [], w => flW w
  | c :: l, w => if sepC c then flW w ++ ((if c = 32 then [] else [[c]]) ++ tkn l []) else tkn l (w ++ [c])
/-! ### replace and split make the same words -/
noncomputable def brL (l : List Nat) : List Nat := l.flatMap fun c => if c = 40 then [32, 40, 32] else if c = 41 then [32, 41, 32] else [c]
theorem repl_one {y : Nat} {z : List Nat} : ∀ l : List Nat, StrLaws.replL [y] z l = l.flatMap fun c => if c = y then z else [c]
  | [] => StrLaws.replL_nil
  | c :: l => by
    by_cases e : c = y
    · rw [StrLaws.replL_hit (by simp) (by simp [e]), List.flatMap_cons, if_pos e]
      show z ++ StrLaws.replL [y] z l = _
      rw [repl_one l]
    · rw [StrLaws.replL_miss (by simp [e]), List.flatMap_cons, if_neg e, repl_one l]
      rfl
theorem repl_both (x : Str) : Txt.replace (Txt.replace x "(" " ( ") ")" " ) " = tx (brL (TL.tl x)) := qt_of (by simp (disch := with_unfolding_all
  have o1 : TL.tl ("(" : Str) = [40] := by rw [TL.tl_ofString]; rfl
  have o2 : TL.tl (")" : Str) = [41] := by rw [TL.tl_ofString]; rfl
  have o3 : TL.tl (" ( " : Str) = [32, 40, 32] := by rw [TL.tl_ofString]; rfl
  have o4 : TL.tl (" ) " : Str) = [32, 41, 32] := by rw [TL.tl_ofString]; rfl
  refine TL.ext_tl ?_
  show (Txt.replace (Txt.replace x "(" " ( ") ")" " ) ").cps.toList = brL (TL.tl x)
  rw [StrLaws.replace_list (by decide), StrLaws.replace_list (by decide)]
  show StrLaws.replL (TL.tl ")") (TL.tl " ) ") (StrLaws.replL (TL.tl "(") (TL.tl " ( ") (TL.tl x)) = _
  rw [o1, o2, o3, o4, repl_one, repl_one]
  unfold brL
  rw [List.flatMap_assoc]
  congr 1
  funext c
  by_cases e : c = 40
  · rw [if_pos e, if_pos e]; rfl
  · rw [if_neg e, if_neg e]
    show (if c = 41 then [32, 41, 32] else [c]) ++ [] = _
    rw [List.append_nil]
  ) only [↓qt_eq])
/-- the words between blanks -/
noncomputable def wsL : List Nat → List Nat → List (List Nat)
  | [], w => flW w
  | c :: l, w => if Unicode.isSpace c = true then flW w ++ wsL l [] else wsL l (w ++ [c])
theorem scan_ws : ∀ (l : List Nat) (ws : List Str) (r : List Nat), KWd.fin (l.foldl KWd.step (ws, tx r)) = ws ++ (wsL l r).map tx
  | [], ws, r => by
    show (if (tx r).length = 0 then ws else ws ++ [tx r]) = ws ++ (flW r).map tx
    rw [tx_len]
    unfold flW
    by_cases e : r = []
    · rw [if_pos (by rw [e]; rfl), if_pos e, List.map_nil, List.append_nil]
    · rw [if_neg (fun z => e (List.length_eq_zero_iff.mp z)), if_neg e]; rfl
  | c :: l, ws, r => by
    show KWd.fin (l.foldl KWd.step (KWd.step (ws, tx r) c)) = ws ++ (if Unicode.isSpace c = true then flW r ++ wsL l [] else wsL l (r ++ [c])).map tx
    unfold KWd.step
    have e0 : (Str.empty : Str) = tx [] := rfl
    by_cases h : Unicode.isSpace c = true
    · rw [if_pos h, if_pos h]
      show KWd.fin (l.foldl KWd.step (if (tx r).length = 0 then (ws, tx r) else (ws ++ [tx r], Str.empty))) = _
      rw [tx_len]
      by_cases e : r = []
      · rw [if_pos (by rw [e]; rfl), scan_ws, e, show flW [] = [] from if_pos rfl]; rfl
      · rw [if_neg (fun z => e (List.length_eq_zero_iff.mp z)), e0, scan_ws, show flW r = [r] from if_neg e, List.map_append, List.append_assoc]; rfl
    · rw [if_neg h, if_neg h]
      show KWd.fin (l.foldl KWd.step (ws, tx r ++ ⟨#[c]⟩)) = _
      rw [show tx r ++ (⟨#[c]⟩ : Str) = tx (r ++ [c]) from tx_app r [c], scan_ws]
theorem words_ws (l : List Nat) : Txt.words (tx l) = (wsL l []).map tx := by
  rw [KWd.words_scan]
  exact scan_ws l [] []
/-- all its blanks are spaces -/
noncomputable def Gc (l : List Nat) : Prop := ∀ c ∈ l, Unicode.isSpace c = true → c = 32
theorem sp_facts : Unicode.isSpace 32 = true ∧ Unicode.isSpace 40 = false ∧ Unicode.isSpace 41 = false := by decide +kernel
theorem ws_br : ∀ {l w : List Nat}, Gc l → wsL (brL l) w = tkn l w
  | [], w, _ => rfl
  | c :: l, w, h => by
    obtain ⟨f1, f2, f3⟩ := sp_facts
    have ih : ∀ w, wsL (brL l) w = tkn l w := fun w => ws_br fun c hc => h c (List.mem_cons_of_mem _ hc)
    show wsL ((if c = 40 then [32, 40, 32] else if c = 41 then [32, 41, 32] else [c]) ++ brL l) w = if sepC c then flW w ++ ((if c = 32 then [] else [[c]]) ++ tkn l []) else tkn l (w ++ [c])
    have one : ∀ k : Nat, Unicode.isSpace k = false → wsL ([32, k, 32] ++ brL l) w = flW w ++ ([[k]] ++ tkn l []) := fun k hk => by
      show (if Unicode.isSpace 32 = true then flW w ++ (if Unicode.isSpace k = true then flW [] ++ wsL (32 :: brL l) [] else (if Unicode.isSpace 32 = true then flW ([] ++ [k]) ++ wsL (brL l) [] else wsL (brL l) ([] ++ [k] ++ [32]))) else wsL (k :: 32 :: brL l) (w ++ [32])) = _
      rw [if_pos f1, if_neg (by rw [hk]; decide), if_pos f1, ih]
      rfl
    by_cases e1 : c = 40
    · subst e1
      rw [if_pos rfl, one 40 f2, if_pos (by decide), if_neg (by decide)]
    · by_cases e2 : c = 41
      · subst e2
        rw [if_neg e1, if_pos rfl, one 41 f3, if_pos (by decide), if_neg (by decide)]
      · rw [if_neg e1, if_neg e2]
        show (if Unicode.isSpace c = true then flW w ++ wsL (brL l) [] else wsL (brL l) (w ++ [c])) = _
        by_cases e3 : c = 32
        · subst e3
          rw [if_pos f1, if_pos (by decide), if_pos rfl, ih]; rfl
        · have hc : ¬ Unicode.isSpace c = true := fun z => e3 (h c List.mem_cons_self z)
          rw [if_neg hc, if_neg (by unfold sepC; rw [decide_eq_false (by omega)]; decide), ih]
theorem law_words {l : List Nat} (h : Gc l) : Txt.words (Txt.replace (Txt.replace (tx l) "(" " ( ") ")" " ) ") = (tkn l []).map tx := by
  rw [repl_both, words_ws]
  show (wsL (brL l) []).map tx = _
  rw [ws_br h]
/-! ### pieces of a text -/
noncomputable def sepHd (r : List Nat) : Prop := r = [] ∨ ∃ c t, r = c :: t ∧ sepC c = true
/-- a piece lays down words -/
noncomputable def Ly (l : List Nat) (ws : List (List Nat)) : Prop := ∀ r, sepHd r → tkn (l ++ r) [] = ws ++ tkn r []
/-- a word that is no bracket -/
noncomputable def Wd0 (w : List Nat) : Prop := w ≠ [] ∧ ∀ c ∈ w, sepC c = false
theorem tkn_wd : ∀ {u : List Nat} {r w : List Nat}, (∀ c ∈ u, sepC c = false) → tkn (u ++ r) w = tkn r (w ++ u)
  | [], r, w, _ => by rw [List.append_nil]; rfl
  | c :: u, r, w, h => by
    show (if sepC c then _ else tkn (u ++ r) (w ++ [c])) = _
    rw [if_neg (by rw [h c List.mem_cons_self]; decide), tkn_wd fun x hx => h x (List.mem_cons_of_mem _ hx), List.append_assoc]
    rfl
theorem tkn_fl {r w : List Nat} (h : sepHd r) : tkn r w = flW w ++ tkn r [] := qt_of (by simp (disch := with_unfolding_all
  rcases h with rfl | ⟨c, t, rfl, hc⟩
  · show flW w = flW w ++ flW []
    rw [show flW [] = [] from if_pos rfl, List.append_nil]
  · show (if sepC c then flW w ++ ((if c = 32 then [] else [[c]]) ++ tkn t []) else tkn t (w ++ [c])) = flW w ++ if sepC c then flW [] ++ ((if c = 32 then [] else [[c]]) ++ tkn t []) else tkn t ([] ++ [c])
    rw [if_pos hc, if_pos hc]
    rfl
  ) only [↓qt_eq])
theorem tkn_br {c : Nat} (h : c = 40 ∨ c = 41) (r : List Nat) : tkn (c :: r) [] = [c] :: tkn r [] := by
  rcases h with rfl | rfl <;> rfl
theorem ly_wd {u : List Nat} (h : Wd0 u) : Ly u [u] := fun r hr => by
  rw [tkn_wd h.2, tkn_fl hr, show flW ([] ++ u) = [u] from if_neg h.1]
theorem ly_par {b : List Nat} {ws : List (List Nat)} (h : Ly b ws) : Ly (40 :: (b ++ [41])) ([40] :: (ws ++ [[41]])) := fun r _ => by
  show tkn (40 :: ((b ++ [41]) ++ r)) [] = _
  rw [tkn_br (.inl rfl), List.append_assoc, h ([41] ++ r) (.inr ⟨41, r, rfl, by decide⟩), show tkn ([41] ++ r) [] = [41] :: tkn r [] from tkn_br (.inr rfl) r]
  simp
theorem ly_Jn : ∀ {ps : List (List Nat × List (List Nat))}, (∀ p ∈ ps, Ly p.1 p.2) → Ly (Jn (ps.map (·.1))) (ps.flatMap (·.2))
  | [], _ => fun r _ => rfl
  | [p], h => fun r hr => by
    show tkn (p.1 ++ r) [] = (p.2 ++ []) ++ tkn r []
    rw [List.append_nil]
    exact h p List.mem_cons_self r hr
  | p :: q :: ps, h => fun r hr => by
    have ih := ly_Jn (ps := q :: ps) (fun x hx => h x (List.mem_cons_of_mem _ hx)) r hr
    show tkn ((p.1 ++ 32 :: Jn ((q :: ps).map (·.1))) ++ r) [] = (p.2 ++ (q :: ps).flatMap (·.2)) ++ tkn r []
    rw [List.append_assoc, List.cons_append, h p List.mem_cons_self _ (.inr ⟨32, _, rfl, by decide⟩), List.append_assoc, ← ih]
    rfl
noncomputable def rowW (row : List Fr) : List (List Nat) := [40] :: (row.map partT ++ [[41]])
noncomputable def Tr.wds : Tr → List (List Nat)
  | .nm s => [TL.tl s]
  | .tm n t => [40] :: (TL.tl "times" :: intL n :: Tr.wds t ++ [[41]])
  | .tn t => [40] :: (TL.tl "turn" :: Tr.wds t ++ [[41]])
  | .cy m t => [40] :: (TL.tl "carry" :: (m.flatMap rowW ++ Tr.wds t) ++ [[41]])
  | .pr w t u => [40] :: (TL.tl w :: (Tr.wds t ++ Tr.wds u) ++ [[41]])
/-- what is asked of a tree that is to be read back -/
noncomputable def Tr.Rd : Tr → Prop
  | .nm s => isNameL (TL.tl s) = true
  | .tm n t => n.natAbs < 10 ^ 18 ∧ Tr.Rd t
  | .tn t => Tr.Rd t
  | .cy m t => ((m.length = 1 ∨ m.length = 2) ∧ ∃ st, (st = 1 ∨ st = 2) ∧ ∀ row ∈ m, row.length = st + 1 ∧ ∀ p ∈ row, Gd 64 p ∧ p.1.natAbs < 10 ^ 18 ∧ p.2.natAbs < 10 ^ 18) ∧ Tr.Rd t
  | .pr w t u => w ∈ Tr.pairs ∧ Tr.Rd t ∧ Tr.Rd u
theorem wd_word {w : Str} (h : w ∈ wordsS) : Wd0 (TL.tl w) ∧ (∀ c ∈ TL.tl w, lowC c = true) := qt_of (by simp (disch := with_unfolding_all
  simp only [wordsS, List.mem_cons, List.not_mem_nil, or_false] at h
  rcases h with rfl | rfl | rfl | rfl | rfl | rfl | rfl | rfl | rfl <;> (rw [TL.tl_ofString]; exact ⟨⟨by decide, by decide⟩, by decide⟩)
  ) only [↓qt_eq])
theorem pairs_words {w : Str} (h : w ∈ Tr.pairs) : w ∈ wordsS := by
  simp only [Tr.pairs, List.mem_cons, List.not_mem_nil, or_false] at h
  rcases h with rfl | rfl | rfl | rfl | rfl | rfl <;> decide
theorem dig_sep {c : Nat} (h : 45 ≤ c) : sepC c = false := decide_eq_false (by omega)
theorem int_sep {i : Int} : ∀ c ∈ intL i, 45 ≤ c ∧ c ≤ 57 := fun c hc => by
  unfold intL at hc
  split at hc
  · rcases List.mem_cons.mp hc with rfl | hc
    · omega
    · have := TL.numL_digits _ c hc; omega
  · have := TL.numL_digits _ c hc; omega
theorem int_ne {i : Int} : intL i ≠ [] := by
  unfold intL
  split
  · simp
  · exact TL.numL_ne _
theorem wd_int (i : Int) : Wd0 (intL i) := ⟨int_ne, fun c hc => dig_sep (int_sep c hc).1⟩
theorem part_sep {p : Fr} : ∀ c ∈ partT p, 45 ≤ c ∧ c ≤ 57 := fun c hc => by
  unfold partT at hc
  split at hc
  · exact int_sep c hc
  · rcases List.mem_append.mp hc with hc | hc
    · exact int_sep c hc
    · rcases List.mem_cons.mp hc with rfl | hc
      · omega
      · exact int_sep c hc
theorem part_ne0 {p : Fr} : partT p ≠ [] := by
  unfold partT
  split
  · exact int_ne
  · intro z; exact int_ne (List.append_eq_nil_iff.mp z).1
theorem wd_part (p : Fr) : Wd0 (partT p) := ⟨part_ne0, fun c hc => dig_sep (part_sep c hc).1⟩
theorem name_wd {l : List Nat} (h : isNameL l = true) : Wd0 l ∧ (1 ≤ l.length ∧ l.length ≤ 12) ∧ tx l ∉ wordsS ∧ ∀ c ∈ l, 48 ≤ c ∧ c ≤ 122 := qt_of (by simp (disch := with_unfolding_all
  unfold isNameL at h
  simp only [Bool.and_eq_true, Bool.not_eq_true', decide_eq_true_eq, decide_eq_false_iff_not] at h
  obtain ⟨⟨⟨h1, h2⟩, h3⟩, h4⟩ := h
  have h5 : ∀ c ∈ l, 48 ≤ c ∧ c ≤ 122 := fun c hc => by
    have := List.all_eq_true.mp h4 c hc
    unfold lowC dgt at this
    simp only [Bool.or_eq_true, decide_eq_true_eq] at this
    omega
  refine ⟨⟨fun z => ?_, fun c hc => dig_sep (by have := h5 c hc; omega)⟩, h1, h2, h5⟩
  rw [z] at h1
  simp at h1
  ) only [↓qt_eq])
theorem ly_row {row : List Fr} : Ly (rowL row) (rowW row) := by
  have := ly_par (ly_Jn (ps := row.map fun p => (partT p, [partT p])) fun q hq => by
    obtain ⟨p, _, rfl⟩ := List.mem_map.mp hq
    exact ly_wd (wd_part p))
  have e1 : (row.map fun p => (partT p, [partT p])).map (·.1) = row.map partT := by rw [List.map_map]; rfl
  have e2 : (row.map fun p => (partT p, [partT p])).flatMap (·.2) = row.map partT := by
    rw [List.flatMap_map]
    induction row with
    | nil => rfl
    | cons a t ih => rw [List.flatMap_cons, ih (ly_par (ly_Jn fun q hq => by
        obtain ⟨p, _, rfl⟩ := List.mem_map.mp hq
        exact ly_wd (wd_part p))) (by rw [List.map_map]; rfl)]; rfl
  rw [e1, e2] at this
  exact this
theorem ly_way (m : List (List Fr)) : Ly (wayL m) (m.flatMap rowW) := by
  have := ly_Jn (ps := m.map fun r => (rowL r, rowW r)) fun q hq => by
    obtain ⟨p, _, rfl⟩ := List.mem_map.mp hq
    exact ly_row
  have e1 : (m.map fun r => (rowL r, rowW r)).map (·.1) = m.map rowL := by rw [List.map_map]; rfl
  rw [e1, List.flatMap_map] at this
  exact this
theorem ly_tree : ∀ {t : Tr}, t.Rd → Ly t.txt t.wds
  | .nm s, h => ly_wd (name_wd h).1
  | .tm n t, h => by
    have := ly_par (ly_Jn (ps := [(TL.tl "times", [TL.tl "times"]), (intL n, [intL n]), (Tr.txt t, Tr.wds t)]) fun q hq => by
      simp only [List.mem_cons, List.not_mem_nil, or_false] at hq
      rcases hq with rfl | rfl | rfl
      · exact ly_wd (wd_word (by decide)).1
      · exact ly_wd (wd_int n)
      · exact ly_tree h.2)
    simp only [List.flatMap_cons, List.flatMap_nil, List.append_nil, List.singleton_append] at this
    exact this
  | .tn t, h => by
    have := ly_par (ly_Jn (ps := [(TL.tl "turn", [TL.tl "turn"]), (Tr.txt t, Tr.wds t)]) fun q hq => by
      simp only [List.mem_cons, List.not_mem_nil, or_false] at hq
      rcases hq with rfl | rfl
      · exact ly_wd (wd_word (by decide)).1
      · exact ly_tree (t := t) h)
    simp only [List.flatMap_cons, List.flatMap_nil, List.append_nil, List.singleton_append] at this
    exact this
  | .cy m t, h => by
    have := ly_par (ly_Jn (ps := [(TL.tl "carry", [TL.tl "carry"]), (wayL m, m.flatMap rowW), (Tr.txt t, Tr.wds t)]) fun q hq => by
      simp only [List.mem_cons, List.not_mem_nil, or_false] at hq
      rcases hq with rfl | rfl | rfl
      · exact ly_wd (wd_word (by decide)).1
      · exact ly_way m
      · exact ly_tree h.2)
    simp only [List.flatMap_cons, List.flatMap_nil, List.append_nil, List.singleton_append] at this
    exact this
  | .pr w t u, h => by
    have := ly_par (ly_Jn (ps := [(TL.tl w, [TL.tl w]), (Tr.txt t, Tr.wds t), (Tr.txt u, Tr.wds u)]) fun q hq => by
      simp only [List.mem_cons, List.not_mem_nil, or_false] at hq
      rcases hq with rfl | rfl | rfl
      · exact ly_wd (wd_word (pairs_words h.1)).1
      · exact ly_tree h.2.1
      · exact ly_tree h.2.2)
    simp only [List.flatMap_cons, List.flatMap_nil, List.append_nil, List.singleton_append] at this
    exact this
theorem tkn_txt {t : Tr} (h : t.Rd) : tkn t.txt [] = t.wds := by
  have := ly_tree h [] (.inl rfl)
  rw [List.append_nil] at this
  rw [this, show tkn [] [] = [] from rfl, List.append_nil]


end
section
/-! A written tree is read back. -/
open PySem PyProof.Rows L2 Evl
theorem figs_numK {n k : Nat} (hk : 0 < k) (h : n < 10 ^ k) : figsL (TL.numL n) (k : Nat) = some (n : Int) := qt_of (by simp (disch := with_unfolding_all
  have l1 := TL.numL_len (k := k) hk h
  have l2 : 1 ≤ (TL.numL n).length := List.length_pos_iff.mpr (TL.numL_ne n)
  have nz : ¬ ((TL.numL n).head? = some 48 ∧ 1 < (TL.numL n).length) := fun z => by
    have e := num_hd z.1
    have l0 : (TL.numL 0).length = 1 := by rw [TL.numL_lt (by decide)] <;> rfl
    have := z.2
    rw [e] at this
    omega
  unfold figsL
  rw [if_pos ⟨l2, by omega, num_all n, nz⟩, TL.numL_val]
  ) only [↓qt_eq])
theorem whole_intK {i : Int} {k : Nat} (hk : 0 < k) (h : i.natAbs < 10 ^ k) : wholeL (intL i) (k : Nat) = some i := qt_of (by simp (disch := with_unfolding_all
  unfold wholeL intL
  by_cases n : i < 0
  · rw [if_pos n, if_pos (show (45 :: TL.numL i.natAbs).head? = some 45 from rfl)]
    show negW (figsL (TL.numL i.natAbs) (k : Nat)) = some i
    rw [figs_numK hk h]
    show (if ((i.natAbs : Nat) : Int) = 0 then none else some (-((i.natAbs : Nat) : Int))) = some i
    rw [if_neg (by omega), show -((i.natAbs : Nat) : Int) = i by omega]
  · rw [if_neg n, if_neg (fun z => ?_), figs_numK hk h, show ((i.natAbs : Nat) : Int) = i by omega]
    have := TL.numL_digits i.natAbs 45 (List.mem_of_mem_head? z)
    omega
  ) only [↓qt_eq])
theorem part_backK {n k : Nat} {p : Fr} (hk : 0 < k) (h : Gd n p) (h1 : p.1.natAbs < 10 ^ k) (h2 : p.2.natAbs < 10 ^ k) : partL (partT p) (k : Nat) = some p := qt_of (by simp (disch := with_unfolding_all
  have hp := h.pos
  have hl := h.low
  have fin : ∀ b : Bool, (b = true → 2 ≤ p.2) → lowP b p.1 p.2 = some p := fun b hb => by
    unfold lowP
    rw [if_neg (fun z => z.elim (fun z => by have := hb z.1; omega) (fun z => z hl))]
  unfold partL partT
  by_cases e : p.2 = 1
  · rw [if_pos e, bef_all (int_free p.1), if_neg (int_free p.1), whole_intK hk h1, decide_eq_false (int_free p.1), ← e]
    exact fin false fun z => by cases z
  · have m : 47 ∈ intL p.1 ++ 47 :: intL p.2 := List.mem_append_right _ List.mem_cons_self
    obtain ⟨a1, a2⟩ := bef_app (m := intL p.2) (int_free p.1)
    rw [if_neg e, a1, a2, if_pos m, whole_intK hk h1, decide_eq_true m]
    have : figsL (intL p.2) (k : Nat) = some p.2 := by
      have f := figs_numK hk h2
      unfold intL
      rw [if_neg (by omega), f, show ((p.2.natAbs : Nat) : Int) = p.2 by omega]
    rw [this]
    exact fin true fun _ => by omega
  ) only [↓qt_eq])
/-! ### the next words -/
noncomputable abbrev wo (r : List Tok1) : List (List Nat) := r.map (·.1)
theorem wo_cons {r : List Tok1} {w : List Nat} {ws : List (List Nat)} (h : wo r = w :: ws) : hdT r = w ∧ wo (r.drop 1) = ws := by
  cases r with
  | nil => cases h
  | cons t r =>
    have h : t.1 :: wo r = w :: ws := h
    injection h with h1 h2
    exact ⟨h1, h2⟩
theorem take_ok {b : Bool} {r : List Tok1} (h : b = true) : takeT b r = .ok (r.drop 1) := by unfold takeT; rw [if_pos h]
theorem snd_T {r : List Tok1} {v w : List Nat} {ws : List (List Nat)} (h : wo r = v :: w :: ws) : sndT r = w := by
  match r, h with
  | _ :: t :: _, h =>
    have h : _ :: t.1 :: _ = v :: w :: ws := h
    injection h with _ h
    injection h
noncomputable def GdP (p : Fr) : Prop := Gd 64 p ∧ p.1.natAbs < 10 ^ 18 ∧ p.2.natAbs < 10 ^ 18
theorem part18 {p : Fr} (h : GdP p) : partL (partT p) 18 = some p := part_backK (k := 18) (by decide) h.1 h.2.1 h.2.2
theorem part_not41 (p : Fr) : partT p ≠ [41] := fun z => by
  have := part_sep (p := p) 41 (by rw [z]; simp)
  omega
/-- the rest of a row: the parts, then the bracket -/
theorem rest_ok {size : Option Nat} {row : List Fr} (hp : ∀ p ∈ row, GdP p) (h1 : row.length = 2 ∨ row.length = 3) (hs : size = none ∨ size = some row.length) : ∀ (n : Nat) (f g : List Fr) (r : List Tok1) (ws : List (List Nat)), f ++ g = row → g.length + 1 ≤ n → wo r = g.map partT ++ [41] :: ws →
    ∃ r', restT size n f r = .ok (row, r') ∧ wo r' = [41] :: ws
  | 0, f, g, r, ws, _, hn, _ => absurd hn (by omega)
  | n + 1, f, [], r, ws, e, hn, hr => by
    rw [List.append_nil] at e
    subst e
    refine ⟨r, ?_, hr⟩
    have hh := (wo_cons hr).1
    show (if moreT size f r then _ else Except.ok (f, r)) = _
    rw [if_neg]
    unfold moreT
    rcases hs with rfl | rfl
    · rw [hh]
      simp
      omega
    · simp
  | n + 1, f, p :: g, r, ws, e, hn, hr => by
    have hr : wo r = partT p :: (g.map partT ++ [41] :: ws) := hr
    obtain ⟨hh, hr'⟩ := wo_cons hr
    have fl : f.length + g.length + 1 = row.length := by rw [← e]; simp; omega
    have more : moreT size f r = true := by
      unfold moreT
      rcases hs with rfl | rfl
      · rw [hh]
        have := part_not41 p
        simp [this]
        omega
      · simp
        omega
    have e1 : restT size (n + 1) f r = restT size n (f ++ [p]) (r.drop 1) := by
      show (if moreT size f r then (match partL (hdT r) 18 with | some p => restT size n (f ++ [p]) (r.drop 1) | none => .error (plT r)) else .ok (f, r)) = _
      rw [if_pos more, hh, part18 (hp p (by rw [← e]; simp))]
    rw [e1]
    exact rest_ok hp h1 hs n (f ++ [p]) g (r.drop 1) ws (by rw [← e]; simp) (by simp at hn; omega) hr'
theorem row_ok {size : Option Nat} {row : List Fr} {r : List Tok1} {ws : List (List Nat)} (hp : ∀ p ∈ row, GdP p) (h1 : row.length = 2 ∨ row.length = 3) (hs : size = none ∨ size = some row.length) (hr : wo r = rowW row ++ ws) :
    ∃ r', rowT size r = .ok (row, r') ∧ wo r' = ws := qt_of (by simp (disch := with_unfolding_all
  have hr : wo r = [40] :: (row.map partT ++ [[41]] ++ ws) := hr
  obtain ⟨hh, hr1⟩ := wo_cons hr
  rw [List.append_assoc] at hr1
  obtain ⟨r2, e2, hr2⟩ := rest_ok hp h1 hs 4 [] row (r.drop 1) ws rfl (by omega) hr1
  obtain ⟨h2, hr3⟩ := wo_cons hr2
  refine ⟨r2.drop 1, ?_, hr3⟩
  unfold rowT
  rw [take_ok (decide_eq_true hh)]
  show thn1 (restT size 4 [] (r.drop 1)) _ = _
  rw [e2]
  show thn1 (takeT (decide (hdT r2 = [41])) r2) _ = _
  rw [take_ok (decide_eq_true h2)]
  rfl
  ) only [↓qt_eq])
theorem part_noword {p : Fr} : tx (partT p) ∉ wordsS := fun h => by
  have h2 := (wd_word h).2
  cases e : partT p with
  | nil => exact part_ne0 e
  | cons c l =>
    have := h2 c (by show c ∈ partT p; rw [e]; simp)
    have b := part_sep (p := p) c (by rw [e]; simp)
    unfold lowC at this
    have := of_decide_eq_true this
    omega
/-- what may stand behind a map: no bracket, or a bracket and a word -/
noncomputable def Behind (ws : List (List Nat)) : Prop := ∃ w t, ws = w :: t ∧ (w = [40] → ∃ v u, t = v :: u ∧ tx v ∈ wordsS)
theorem way_ok {m : List (List Fr)} {r : List Tok1} {ws : List (List Nat)} (hm : (m.length = 1 ∨ m.length = 2) ∧ ∃ st, (st = 1 ∨ st = 2) ∧ ∀ row ∈ m, row.length = st + 1 ∧ ∀ p ∈ row, GdP p) (hb : Behind ws) (hr : wo r = m.flatMap rowW ++ ws) :
    ∃ r', wayT r = .ok (m, r') ∧ wo r' = ws := qt_of (by simp (disch := with_unfolding_all
  obtain ⟨hl, st, hst, hrow⟩ := hm
  have ok1 : ∀ row ∈ m, (∀ p ∈ row, GdP p) ∧ (row.length = 2 ∨ row.length = 3) := fun row h => ⟨(hrow row h).2, by have := (hrow row h).1; omega⟩
  match m, hl with
  | [a], _ =>
    obtain ⟨q1, q2⟩ := ok1 a (by simp)
    have hr : wo r = rowW a ++ ws := by rw [hr]; simp
    obtain ⟨r1, e1, h1⟩ := row_ok (size := none) q1 q2 (.inl rfl) hr
    refine ⟨r1, ?_, h1⟩
    unfold wayT
    rw [e1]
    show (if hdT r1 = [40] ∧ tx (sndT r1) ∉ wordsS then _ else Except.ok ([a], r1)) = _
    rw [if_neg]
    rintro ⟨z1, z2⟩
    obtain ⟨w, t, rfl, hw⟩ := hb
    obtain ⟨g1, g2⟩ := wo_cons h1
    obtain ⟨v, u, rfl, hv⟩ := hw (by rw [← g1, z1])
    rw [snd_T h1] at z2
    exact z2 hv
  | [a, b], _ =>
    obtain ⟨q1, q2⟩ := ok1 a (by simp)
    obtain ⟨q3, q4⟩ := ok1 b (by simp)
    have hr : wo r = rowW a ++ (rowW b ++ ws) := by rw [hr]; simp
    obtain ⟨r1, e1, h1⟩ := row_ok (size := none) q1 q2 (.inl rfl) hr
    have la := (hrow a (by simp)).1
    have lb := (hrow b (by simp)).1
    obtain ⟨r2, e2, h2⟩ := row_ok (size := some a.length) q3 q4 (.inr (by rw [la, lb])) h1
    refine ⟨r2, ?_, h2⟩
    unfold wayT
    rw [e1]
    show (if hdT r1 = [40] ∧ tx (sndT r1) ∉ wordsS then thn1 (rowT (some a.length) r1) (fun q2 => Except.ok ([a, q2.1], q2.2)) else Except.ok ([a], r1)) = _
    obtain ⟨c, b', eb⟩ : ∃ c b', b = c :: b' := by
      cases b with
      | nil => simp at lb
      | cons c b' => exact ⟨c, b', rfl⟩
    have h1' : wo r1 = [40] :: partT c :: (b'.map partT ++ [[41]] ++ ws) := by rw [h1, eb]; rfl
    rw [if_pos ⟨(wo_cons h1').1, by rw [snd_T h1']; exact part_noword⟩, e2]
    rfl
  ) only [↓qt_eq])
theorem tx_tlS (z : Str) : tx (TL.tl z) = z := (tx_of z).symm
theorem behind_tree : ∀ {t : Tr} {ws : List (List Nat)}, t.Rd → Behind (t.wds ++ ws)
  | .nm s, ws, h => ⟨TL.tl s, ws, rfl, fun z => absurd z fun z => by
      have := (name_wd h).1.2 40 (by rw [z]; simp)
      exact absurd this (by decide)⟩
  | .tm n t, ws, h => ⟨_, _, rfl, fun _ => ⟨_, _, rfl, by rw [tx_tlS]; decide⟩⟩
  | .tn t, ws, h => ⟨_, _, rfl, fun _ => ⟨_, _, rfl, by rw [tx_tlS]; decide⟩⟩
  | .cy m t, ws, h => ⟨_, _, rfl, fun _ => ⟨_, _, rfl, by rw [tx_tlS]; decide⟩⟩
  | .pr w t u, ws, h => ⟨_, _, rfl, fun _ => ⟨_, _, rfl, by rw [tx_tlS]; exact pairs_words h.1⟩⟩
theorem node_ok {n deep : Nat} {w : Str} {r : List Tok1} {ws ws' : List (List Nat)} {t : Tr} (hd : deep < 12) (hw : w ∈ wordsS) (hr : wo r = [40] :: TL.tl w :: ws)
    (hb : ∀ r2, wo r2 = ws → ∃ r3, bodyT n deep w r2 = .ok (t, r3) ∧ wo r3 = [41] :: ws') : ∃ r', treeT (n + 1) deep r = .ok (t, r') ∧ wo r' = ws' := qt_of (by simp (disch := with_unfolding_all
  obtain ⟨h1, hr1⟩ := wo_cons hr
  obtain ⟨h2, hr2⟩ := wo_cons hr1
  obtain ⟨r3, e3, hr3⟩ := hb _ hr2
  obtain ⟨h4, hr4⟩ := wo_cons hr3
  refine ⟨r3.drop 1, ?_, hr4⟩
  rw [tree_open h1, take_ok (decide_eq_true hd)]
  show thn1 (takeT (decide (tx (hdT (r.drop 1)) ∈ wordsS)) (r.drop 1)) _ = _
  rw [h2, tx_tlS, take_ok (decide_eq_true hw)]
  show thn1 (bodyT n deep w ((r.drop 1).drop 1)) _ = _
  rw [e3]
  show thn1 (takeT (decide (hdT r3 = [41])) r3) _ = _
  rw [take_ok (decide_eq_true h4)]
  rfl
  ) only [↓qt_eq])
theorem tree_read : ∀ {t : Tr} {n deep : Nat} {r : List Tok1} {rest : List (List Nat)}, t.Rd → t.depth < n → t.depth + deep ≤ 12 → wo r = t.wds ++ rest → ∃ r', treeT n deep r = .ok (t, r') ∧ wo r' = rest
  | _, 0, _, _, _, _, hn, _, _ => absurd hn (Nat.not_lt_zero _)
  | .nm s, n + 1, deep, r, rest, h, hn, hd, hr => by
    obtain ⟨h1, hr1⟩ := wo_cons (show wo r = TL.tl s :: rest from hr)
    refine ⟨r.drop 1, ?_, hr1⟩
    have n40 : ¬ hdT r = [40] := fun z => by
      rw [h1] at z
      have := (name_wd h).1.2 40 (by rw [z]; simp)
      exact absurd this (by decide)
    have h : isNameL (TL.tl s) = true := h
    unfold treeT
    rw [if_neg n40, h1, take_ok h, tx_tlS]
    rfl
  | .tm i t, n + 1, deep, r, rest, h, hn, hd, hr => by
    have dp : Tr.depth (.tm i t) = t.depth + 1 := rfl
    refine node_ok (w := "times") (ws := intL i :: (t.wds ++ [41] :: rest)) (by omega) (by decide) (by rw [hr]; simp [Tr.wds]) fun r2 hr2 => ?_
    obtain ⟨h1, hr3⟩ := wo_cons hr2
    obtain ⟨r4, e4, hr4⟩ := tree_read (n := n) (deep := deep + 1) h.2 (by omega) (by omega) hr3
    refine ⟨r4, ?_, hr4⟩
    unfold bodyT
    rw [if_neg (by decide), if_neg (by decide), if_pos rfl]
    unfold numT
    rw [h1, show wholeL (intL i) 18 = some i from whole_intK (k := 18) (by decide) h.1]
    show thn1 (treeT n (deep + 1) (r2.drop 1)) _ = _
    rw [e4]
    rfl
  | .tn t, n + 1, deep, r, rest, h, hn, hd, hr => by
    have dp : Tr.depth (.tn t) = t.depth + 1 := rfl
    refine node_ok (w := "turn") (ws := t.wds ++ [41] :: rest) (by omega) (by decide) (by rw [hr]; simp [Tr.wds]) fun r2 hr2 => ?_
    obtain ⟨r4, e4, hr4⟩ := tree_read (t := t) (n := n) (deep := deep + 1) h (by omega) (by omega) hr2
    refine ⟨r4, ?_, hr4⟩
    unfold bodyT
    rw [if_neg (by decide), if_pos rfl, e4]
    rfl
  | .cy m t, n + 1, deep, r, rest, h, hn, hd, hr => by
    have dp : Tr.depth (.cy m t) = t.depth + 1 := rfl
    refine node_ok (w := "carry") (ws := m.flatMap rowW ++ (t.wds ++ [41] :: rest)) (by omega) (by decide) (by rw [hr]; simp [Tr.wds]) fun r2 hr2 => ?_
    obtain ⟨r3, e3, hr3⟩ := way_ok h.1 (behind_tree h.2) hr2
    obtain ⟨r4, e4, hr4⟩ := tree_read (n := n) (deep := deep + 1) h.2 (by omega) (by omega) hr3
    refine ⟨r4, ?_, hr4⟩
    unfold bodyT
    rw [if_neg (by decide), if_neg (by decide), if_neg (by decide), e3]
    show thn1 (treeT n (deep + 1) r3) _ = _
    rw [e4]
    rfl
  | .pr w t u, n + 1, deep, r, rest, h, hn, hd, hr => by
    have dp : Tr.depth (.pr w t u) = max t.depth u.depth + 1 := rfl
    refine node_ok (w := w) (ws := t.wds ++ (u.wds ++ [41] :: rest)) (by omega) (pairs_words h.1) (by rw [hr]; simp [Tr.wds]) fun r2 hr2 => ?_
    obtain ⟨r3, e3, hr3⟩ := tree_read (n := n) (deep := deep + 1) h.2.1 (by omega) (by omega) hr2
    obtain ⟨r4, e4, hr4⟩ := tree_read (n := n) (deep := deep + 1) h.2.2 (by omega) (by omega) hr3
    refine ⟨r4, ?_, hr4⟩
    unfold bodyT
    rw [if_pos h.1, e3]
    show thn1 (treeT n (deep + 1) r3) _ = _
    rw [e4]
    rfl
end
section
/-! The law's words, its spaced texts, its own word on names. -/
open PySem PyProof.Rows L2 Evl

/-! ### lengths -/
noncomputable def wlen (ws : List (List Nat)) : Nat := (ws.map fun w => w.length + 1).sum
theorem wlen_app (u v : List (List Nat)) : wlen (u ++ v) = wlen u + wlen v := by unfold wlen; rw [List.map_append, List.sum_append]
theorem wlen_cons (u : List Nat) (v : List (List Nat)) : wlen (u :: v) = u.length + 1 + wlen v := by unfold wlen; rw [List.map_cons, List.sum_cons]
theorem wlen_nil : wlen [] = 0 := rfl
theorem Jn_wl : ∀ {ps : List (List Nat × List (List Nat))}, (∀ p ∈ ps, p.1.length + 1 ≤ wlen p.2) → (Jn (ps.map (·.1))).length ≤ wlen (ps.flatMap (·.2)) ∧ (ps ≠ [] → (Jn (ps.map (·.1))).length + 1 ≤ wlen (ps.flatMap (·.2)))
  | [], _ => ⟨Nat.zero_le _, fun z => absurd rfl z⟩
  | [p], h => by
    have := h p List.mem_cons_self
    have e : wlen ([p].flatMap (·.2)) = wlen p.2 := by simp
    rw [e]
    exact ⟨by show p.1.length ≤ _; omega, fun _ => this⟩
  | p :: q :: ps, h => by
    have h1 := h p List.mem_cons_self
    have ih := (Jn_wl (ps := q :: ps) fun x hx => h x (List.mem_cons_of_mem _ hx)).2 (by simp)
    rw [List.flatMap_cons, wlen_app]
    show (p.1 ++ 32 :: Jn ((q :: ps).map (·.1))).length ≤ _ ∧ (_ → (p.1 ++ 32 :: Jn ((q :: ps).map (·.1))).length + 1 ≤ _)
    rw [List.length_append, List.length_cons]
    omega
theorem par_wl {b : List Nat} {ws : List (List Nat)} (h : b.length + 1 ≤ wlen ws) : (40 :: (b ++ [41])).length + 1 ≤ wlen ([40] :: (ws ++ [[41]])) := by
  rw [wlen_cons, wlen_app, wlen_cons, wlen_nil, List.length_cons, List.length_append]
  show b.length + 1 + 1 + 1 ≤ 1 + 1 + (wlen ws + (1 + 1 + 0))
  omega
theorem row_wl {row : List Fr} (h : row ≠ []) : (rowL row).length + 1 ≤ wlen (rowW row) := by
  refine par_wl ?_
  have := (Jn_wl (ps := row.map fun p => (partT p, [partT p])) fun q hq => by
    obtain ⟨p, _, rfl⟩ := List.mem_map.mp hq
    rw [wlen_cons, wlen_nil]; exact Nat.le_refl _).2 (by simpa using h)
  have e1 : (row.map fun p => (partT p, [partT p])).map (·.1) = row.map partT := by rw [List.map_map]; rfl
  have e2 : (row.map fun p => (partT p, [partT p])).flatMap (·.2) = row.map partT := by
    rw [List.flatMap_map]
    clear e1 this h
    induction row with
    | nil => rfl
    | cons a t ih => rw [List.flatMap_cons, ih]; rfl
  rw [e1, e2] at this
  exact this
theorem txt_wl : ∀ {t : Tr}, t.Rd → t.txt.length + 1 ≤ wlen t.wds
  | .nm s, h => by show (TL.tl s).length + 1 ≤ wlen [TL.tl s]; rw [wlen_cons, wlen_nil]; exact Nat.le_refl _
  | .tm n t, h => by
    have := par_wl ((Jn_wl (ps := [(TL.tl "times", [TL.tl "times"]), (intL n, [intL n]), (Tr.txt t, Tr.wds t)]) fun q hq => by
      simp only [List.mem_cons, List.not_mem_nil, or_false] at hq
      rcases hq with rfl | rfl | rfl
      · rw [wlen_cons, wlen_nil]; exact Nat.le_refl _
      · rw [wlen_cons, wlen_nil]; exact Nat.le_refl _
      · exact txt_wl h.2).2 (by simp))
    simp only [List.flatMap_cons, List.flatMap_nil, List.append_nil, List.singleton_append] at this
    exact this
  | .tn t, h => by
    have := par_wl ((Jn_wl (ps := [(TL.tl "turn", [TL.tl "turn"]), (Tr.txt t, Tr.wds t)]) fun q hq => by
      simp only [List.mem_cons, List.not_mem_nil, or_false] at hq
      rcases hq with rfl | rfl
      · rw [wlen_cons, wlen_nil]; exact Nat.le_refl _
      · exact txt_wl (t := t) h).2 (by simp))
    simp only [List.flatMap_cons, List.flatMap_nil, List.append_nil, List.singleton_append] at this
    exact this
  | .cy m t, h => by
    have wl : (wayL m).length + 1 ≤ wlen (m.flatMap rowW) := by
      have := (Jn_wl (ps := m.map fun r => (rowL r, rowW r)) fun q hq => by
        obtain ⟨p, hp, rfl⟩ := List.mem_map.mp hq
        obtain ⟨⟨_, st, hst, hr⟩, _⟩ := h
        exact row_wl fun z => by have := (hr p hp).1; rw [z] at this; simp at this).2 (by
          obtain ⟨⟨hl, _⟩, _⟩ := h
          intro z
          have : m = [] := by simpa using z
          rw [this] at hl
          simp at hl)
      have e1 : (m.map fun r => (rowL r, rowW r)).map (·.1) = m.map rowL := by rw [List.map_map]; rfl
      rw [e1, List.flatMap_map] at this
      exact this
    have := par_wl ((Jn_wl (ps := [(TL.tl "carry", [TL.tl "carry"]), (wayL m, m.flatMap rowW), (Tr.txt t, Tr.wds t)]) fun q hq => by
      simp only [List.mem_cons, List.not_mem_nil, or_false] at hq
      rcases hq with rfl | rfl | rfl
      · rw [wlen_cons, wlen_nil]; exact Nat.le_refl _
      · exact wl
      · exact txt_wl h.2).2 (by simp))
    simp only [List.flatMap_cons, List.flatMap_nil, List.append_nil, List.singleton_append] at this
    exact this
  | .pr w t u, h => by
    have := par_wl ((Jn_wl (ps := [(TL.tl w, [TL.tl w]), (Tr.txt t, Tr.wds t), (Tr.txt u, Tr.wds u)]) fun q hq => by
      simp only [List.mem_cons, List.not_mem_nil, or_false] at hq
      rcases hq with rfl | rfl | rfl
      · rw [wlen_cons, wlen_nil]; exact Nat.le_refl _
      · exact txt_wl h.2.1
      · exact txt_wl h.2.2).2 (by simp))
    simp only [List.flatMap_cons, List.flatMap_nil, List.append_nil, List.singleton_append] at this
    exact this
/-- how many things a tree has -/
noncomputable def Tr.nn : Tr → Nat
  | .nm _ => 1
  | .tm _ t => Tr.nn t + 1
  | .tn t => Tr.nn t + 1
  | .cy _ t => Tr.nn t + 1
  | .pr _ t u => Tr.nn t + Tr.nn u + 1
theorem Tr.nn_depth : ∀ t : Tr, t.nn + 1 ≤ 2 ^ (t.depth + 1)
  | .nm _ => by show 1 + 1 ≤ 2 ^ (0 + 1); decide
  | .tm _ t => by have := Tr.nn_depth t; show t.nn + 1 + 1 ≤ 2 ^ (t.depth + 1 + 1); rw [Nat.pow_succ]; have := Nat.one_le_two_pow (n := t.depth + 1); omega
  | .tn t => by have := Tr.nn_depth t; show t.nn + 1 + 1 ≤ 2 ^ (t.depth + 1 + 1); rw [Nat.pow_succ]; have := Nat.one_le_two_pow (n := t.depth + 1); omega
  | .cy _ t => by have := Tr.nn_depth t; show t.nn + 1 + 1 ≤ 2 ^ (t.depth + 1 + 1); rw [Nat.pow_succ]; have := Nat.one_le_two_pow (n := t.depth + 1); omega
  | .pr _ t u => by
    have h1 := Tr.nn_depth t
    have h2 := Tr.nn_depth u
    show t.nn + u.nn + 1 + 1 ≤ 2 ^ (max t.depth u.depth + 1 + 1)
    rw [Nat.pow_succ]
    have a : 2 ^ (t.depth + 1) ≤ 2 ^ (max t.depth u.depth + 1) := Nat.pow_le_pow_right (by decide) (by omega)
    have b : 2 ^ (u.depth + 1) ≤ 2 ^ (max t.depth u.depth + 1) := Nat.pow_le_pow_right (by decide) (by omega)
    omega
theorem int_len18 {i : Int} (h : i.natAbs < 10 ^ 18) : (intL i).length ≤ 19 := by
  have := TL.numL_len (k := 18) (by decide) h
  unfold intL
  split
  · rw [List.length_cons]; omega
  · omega
theorem part_len18 {p : Fr} (h : GdP p) : (partT p).length ≤ 39 := by
  have l1 := int_len18 h.2.1
  have l2 := int_len18 h.2.2
  unfold partT
  split
  · omega
  · rw [List.length_append, List.length_cons]; omega
theorem word_len5 {w : Str} (h : w ∈ wordsS) : (TL.tl w).length ≤ 5 := by
  simp only [wordsS, List.mem_cons, List.not_mem_nil, or_false] at h
  rcases h with rfl | rfl | rfl | rfl | rfl | rfl | rfl | rfl | rfl <;> (rw [TL.tl_ofString]; decide)
theorem parts_wl : ∀ {row : List Fr}, (∀ p ∈ row, GdP p) → wlen (row.map partT) ≤ 40 * row.length
  | [], _ => Nat.le_refl _
  | p :: row, h => by
    have := parts_wl fun x hx => h x (List.mem_cons_of_mem p hx)
    have := part_len18 (h p List.mem_cons_self)
    rw [List.map_cons, wlen_cons, List.length_cons]
    omega
theorem rows_wl : ∀ {m : List (List Fr)}, (∀ row ∈ m, row.length ≤ 3 ∧ ∀ p ∈ row, GdP p) → wlen (m.flatMap rowW) ≤ 124 * m.length ∧ (m.flatMap rowW).length ≤ 5 * m.length
  | [], _ => ⟨Nat.le_refl _, Nat.le_refl _⟩
  | r :: m, h => by
    obtain ⟨i1, i2⟩ := rows_wl fun x hx => h x (List.mem_cons_of_mem r hx)
    obtain ⟨h1, h2⟩ := h r List.mem_cons_self
    have := parts_wl h2
    rw [List.flatMap_cons, wlen_app, List.length_append, List.length_cons]
    have e : wlen (rowW r) = 2 + (wlen (r.map partT) + 2) := by unfold rowW; rw [wlen_cons, wlen_app, wlen_cons, wlen_nil]; rfl
    have e2 : (rowW r).length = r.length + 2 := by unfold rowW; simp
    omega
theorem wds_wl : ∀ {t : Tr}, t.Rd → wlen t.wds ≤ 280 * t.nn ∧ t.wds.length ≤ 14 * t.nn
  | .nm s, h => by
    have := (name_wd h).2.1
    show wlen [TL.tl s] ≤ 280 * 1 ∧ 1 ≤ 14 * 1
    rw [wlen_cons, wlen_nil]
    omega
  | .tm n t, h => by
    obtain ⟨i1, i2⟩ := wds_wl h.2
    have := int_len18 h.1
    have := word_len5 (w := "times") (by decide)
    show wlen ([40] :: (TL.tl "times" :: intL n :: t.wds ++ [[41]])) ≤ 280 * (t.nn + 1) ∧ ([40] :: (TL.tl "times" :: intL n :: t.wds ++ [[41]])).length ≤ 14 * (t.nn + 1)
    rw [List.cons_append, List.cons_append]
    simp only [wlen_cons, wlen_app, wlen_nil, List.length_cons, List.length_append, List.length_nil]
    omega
  | .tn t, h => by
    obtain ⟨i1, i2⟩ := wds_wl (t := t) h
    have := word_len5 (w := "turn") (by decide)
    show wlen ([40] :: (TL.tl "turn" :: t.wds ++ [[41]])) ≤ 280 * (t.nn + 1) ∧ ([40] :: (TL.tl "turn" :: t.wds ++ [[41]])).length ≤ 14 * (t.nn + 1)
    rw [List.cons_append]
    simp only [wlen_cons, wlen_app, wlen_nil, List.length_cons, List.length_append, List.length_nil]
    omega
  | .cy m t, h => by
    obtain ⟨i1, i2⟩ := wds_wl h.2
    obtain ⟨⟨hl, st, hst, hr⟩, _⟩ := h
    obtain ⟨j1, j2⟩ := rows_wl (m := m) fun r hx => ⟨by have := (hr r hx).1; omega, (hr r hx).2⟩
    have := word_len5 (w := "carry") (by decide)
    show wlen ([40] :: (TL.tl "carry" :: (m.flatMap rowW ++ t.wds) ++ [[41]])) ≤ 280 * (t.nn + 1) ∧ ([40] :: (TL.tl "carry" :: (m.flatMap rowW ++ t.wds) ++ [[41]])).length ≤ 14 * (t.nn + 1)
    rw [List.cons_append]
    simp only [wlen_cons, wlen_app, wlen_nil, List.length_cons, List.length_append, List.length_nil]
    omega
  | .pr w t u, h => by
    obtain ⟨i1, i2⟩ := wds_wl h.2.1
    obtain ⟨i3, i4⟩ := wds_wl h.2.2
    have := word_len5 (pairs_words h.1)
    show wlen ([40] :: (TL.tl w :: (t.wds ++ u.wds) ++ [[41]])) ≤ 280 * (t.nn + u.nn + 1) ∧ ([40] :: (TL.tl w :: (t.wds ++ u.wds) ++ [[41]])).length ≤ 14 * (t.nn + u.nn + 1)
    rw [List.cons_append]
    simp only [wlen_cons, wlen_app, wlen_nil, List.length_cons, List.length_append, List.length_nil]
    omega
/-- a word or a bracket -/
noncomputable def Wd1 (w : List Nat) : Prop := w = [40] ∨ w = [41] ∨ Wd0 w
theorem wds_ok : ∀ {t : Tr}, t.Rd → t.wds ≠ [] ∧ ∀ w ∈ t.wds, Wd1 w
  | .nm s, h => ⟨by simp [Tr.wds], fun w hw => by rw [List.mem_singleton.mp hw]; exact .inr (.inr (name_wd h).1)⟩
  | .tm n t, h => ⟨by simp [Tr.wds], fun w hw => by
      simp only [Tr.wds, List.mem_cons, List.mem_append, List.cons_append, List.not_mem_nil, or_false] at hw
      rcases hw with rfl | rfl | rfl | hw | rfl
      · exact .inl rfl
      · exact .inr (.inr (wd_word (by decide)).1)
      · exact .inr (.inr (wd_int n))
      · exact (wds_ok h.2).2 w hw
      · exact .inr (.inl rfl)⟩
  | .tn t, h => ⟨by simp [Tr.wds], fun w hw => by
      simp only [Tr.wds, List.mem_cons, List.mem_append, List.cons_append, List.not_mem_nil, or_false] at hw
      rcases hw with rfl | rfl | hw | rfl
      · exact .inl rfl
      · exact .inr (.inr (wd_word (by decide)).1)
      · exact (wds_ok (t := t) h).2 w hw
      · exact .inr (.inl rfl)⟩
  | .cy m t, h => ⟨by simp [Tr.wds], fun w hw => by
      simp only [Tr.wds, rowW, List.mem_cons, List.mem_append, List.cons_append, List.not_mem_nil, or_false, List.mem_flatMap, List.mem_map] at hw
      rcases hw with rfl | rfl | (⟨r, hr, rfl | ⟨p, hp, rfl⟩ | rfl⟩ | hw) | rfl
      · exact .inl rfl
      · exact .inr (.inr (wd_word (by decide)).1)
      · exact .inl rfl
      · exact .inr (.inr (wd_part p))
      · exact .inr (.inl rfl)
      · exact (wds_ok h.2).2 w hw
      · exact .inr (.inl rfl)⟩
  | .pr x t u, h => ⟨by simp [Tr.wds], fun w hw => by
      simp only [Tr.wds, List.mem_cons, List.mem_append, List.cons_append, List.not_mem_nil, or_false] at hw
      rcases hw with rfl | rfl | (hw | hw) | rfl
      · exact .inl rfl
      · exact .inr (.inr (wd_word (pairs_words h.1)).1)
      · exact (wds_ok h.2.1).2 w hw
      · exact (wds_ok h.2.2).2 w hw
      · exact .inr (.inl rfl)⟩
/-! ### no other blanks -/
theorem graph_sp : ∀ c : Nat, 33 ≤ c → c ≤ 126 → Unicode.isSpace c = false := by
  have : ∀ c ∈ List.range 127, 33 ≤ c → Unicode.isSpace c = false := by decide +kernel
  intro c h1 h2
  exact this c (List.mem_range.mpr (by omega)) h1
noncomputable def Pl (l : List Nat) : Prop := ∀ c ∈ l, c = 32 ∨ (33 ≤ c ∧ c ≤ 126)
theorem Pl.gc {l : List Nat} (h : Pl l) : Gc l := fun c hc z => by
  rcases h c hc with e | ⟨h1, h2⟩
  · exact e
  · rw [graph_sp c h1 h2] at z; cases z
theorem pl_Jn : ∀ {xs : List (List Nat)}, (∀ x ∈ xs, Pl x) → Pl (Jn xs)
  | [], _ => fun c hc => by cases hc
  | [a], h => h a List.mem_cons_self
  | a :: b :: xs, h => fun c hc => by
    rw [Jn_cons] at hc
    rcases List.mem_append.mp hc with hc | hc
    · exact h a List.mem_cons_self c hc
    · rcases List.mem_cons.mp hc with rfl | hc
      · exact .inl rfl
      · exact pl_Jn (xs := b :: xs) (fun x hx => h x (List.mem_cons_of_mem _ hx)) c hc
theorem pl_par {b : List Nat} (h : Pl b) : Pl (40 :: (b ++ [41])) := fun c hc => by
  rcases List.mem_cons.mp hc with rfl | hc
  · exact .inr (by decide)
  · rcases List.mem_append.mp hc with hc | hc
    · exact h c hc
    · rw [List.mem_singleton.mp hc]; exact .inr (by decide)
theorem pl_word {w : Str} (h : w ∈ wordsS) : Pl (TL.tl w) := fun c hc => by
  have := of_decide_eq_true ((wd_word h).2 c hc)
  exact .inr (by omega)
theorem pl_int (i : Int) : Pl (intL i) := fun c hc => .inr (by have := int_sep c hc; omega)
theorem pl_part (p : Fr) : Pl (partT p) := fun c hc => .inr (by have := part_sep c hc; omega)
theorem pl_row (row : List Fr) : Pl (rowL row) := pl_par (pl_Jn fun x hx => by
  obtain ⟨p, _, rfl⟩ := List.mem_map.mp hx
  exact pl_part p)
theorem pl_txt : ∀ {t : Tr}, t.Rd → Pl t.txt
  | .nm s, h => fun c hc => .inr (by have := (name_wd h).2.2.2 c hc; omega)
  | .tm n t, h => pl_par (pl_Jn fun x hx => by
      simp only [List.mem_cons, List.not_mem_nil, or_false] at hx
      rcases hx with rfl | rfl | rfl
      · exact pl_word (by decide)
      · exact pl_int n
      · exact pl_txt h.2)
  | .tn t, h => pl_par (pl_Jn fun x hx => by
      simp only [List.mem_cons, List.not_mem_nil, or_false] at hx
      rcases hx with rfl | rfl
      · exact pl_word (by decide)
      · exact pl_txt (t := t) h)
  | .cy m t, h => pl_par (pl_Jn fun x hx => by
      simp only [List.mem_cons, List.not_mem_nil, or_false] at hx
      rcases hx with rfl | rfl | rfl
      · exact pl_word (by decide)
      · exact pl_Jn fun x hx => by
          obtain ⟨r, _, rfl⟩ := List.mem_map.mp hx
          exact pl_row r
      · exact pl_txt h.2)
  | .pr w t u, h => pl_par (pl_Jn fun x hx => by
      simp only [List.mem_cons, List.not_mem_nil, or_false] at hx
      rcases hx with rfl | rfl | rfl
      · exact pl_word (pairs_words h.1)
      · exact pl_txt h.2.1
      · exact pl_txt h.2.2)


end
section
/-! The law's words, its spaced texts, its own word on names. -/
open PySem PyProof.Rows L2 Evl

section
variable {K : Fg} {cs : Cs} {gs : Gs} {φ : PyData → Prop} {A : Rs → Prop} {ε : Xw → Prop} {w : World}
noncomputable abbrev strsD (ws : List (List Nat)) : PyData := .list ((ws.map tx).map PyData.str)
noncomputable def P_lwords : Pr := fun ds A => ∃ l : List Nat, ds = [.str (tx l)] ∧ l.length ≤ 99990 ∧ Gc l ∧ A (.ok (strsD (tkn l [])))
noncomputable def t__law_words (K : Fg) : TS := (tRet (tM0 rWords (CwR.tReplC (CwR.tReplC (tVar 0) "(" " ( ") ")" " ) ")))
-- slots of _law_words: 0 _law_text_here
theorem ln__law_words : ∀ ds A, P_lwords ds A → ds.length = 1 := fun ds A h => by obtain ⟨_, rfl, _⟩ := h; rfl
theorem rd__law_words {ds A} (h : P_lwords ds A) : SW K cs W0 (t__law_words K) (frame 1 ds) (rts0 A) := qt_of (by simp (disch := with_unfolding_all
  obtain ⟨l, rfl, hl, hg, h⟩ := h
  unfold t__law_words
  have l1 : (tx l).length = l.length := tx_len l
  have l2 := TK.replace_len (tx l) "(" " ( "
  have l3 := TK.replace_len (Txt.replace (tx l) "(" " ( ") ")" " ) "
  have s1 : (" ( " : Str).length = 3 := rfl
  have s2 : (" ) " : Str).length = 3 := rfl
  rw [s1] at l2
  rw [s2] at l3
  refine sw_ret (ew_words_ (ew_replC (ew_replC (ew_var rfl ⟨tx l, rfl, ?_, _, rfl, ?_, _, rfl, ?_, ?_⟩))))
  · rw [s1]; omega
  · rw [s2]; omega
  · exact Nat.le_trans (show _ ≤ 2000000 by omega) (by decide)
  · rw [law_words hg]
    exact h
  ) only [↓qt_eq])
theorem c_lwords {l : List Nat} (hl : l.length ≤ 99990) (hg : Gc l) (h : φ (strsD (tkn l []))) : P_lwords [.str (tx l)] (rE φ ε) := ⟨l, rfl, hl, hg, h⟩
/-! ### its word on names -/
-- slots of _law_due_name: 0 _law_thing, 1 _law_letters, 2 _law_sign
end


end
section
/-! The law's spaced texts. -/
open PySem PyProof.Rows L2 Evl

noncomputable abbrev isBr (w : List Nat) : Prop := w = [40] ∨ w = [41]
noncomputable abbrev sps (k : Nat) : List Nat := List.replicate k 32
theorem repT_sp : ∀ k : Nat, repT k [32] = sps k
  | 0 => rfl
  | k + 1 => by show [32] ++ repT k [32] = _; rw [repT_sp k]; rfl
theorem rep_sp (k : Nat) : repSt k " " = tx (sps k) := by
  show tx (repT k (TL.tl " ")) = _
  rw [show TL.tl (" " : Str) = [32] by rw [TL.tl_ofString]; rfl, repT_sp]
section
variable {K : Fg} {cs : Cs} {gs : Gs} {φ : PyData → Prop} {A : Rs → Prop} {ε : Xw → Prop} {w : World}
-- slots of _law_spaced: 0 _law_bag_here, 1 _law_text_here, 2 _law_words_here, 3 _law_found, 4 _law_at, 5 _law_close
end


end
section
/-! Trees and things that the law of reading draws. -/
open PySem PyProof.Rows L2 Evl
theorem okE_str (n : Nat) (s : Str) : okD n (.str s) = true := by cases n <;> rfl
theorem okE_int (n : Nat) (i : Int) : okD n (.int i) = true := by cases n <;> rfl
theorem rd_of {ns : List Str} (hs : ∀ s ∈ ns, isNameL (TL.tl s) = true) : ∀ {t : Tr}, t.Wf → t.Nb → t.Ns ns → t.Rd ∧ t.Nl
  | .nm s, _, _, h => ⟨hs s h, by have := (name_wd (hs s h)).2.1; show (TL.tl s).length ≤ 1000; omega⟩
  | .tm n t, w, b, h => by
    obtain ⟨a, c⟩ := rd_of hs (t := t) w b.2 h
    exact ⟨⟨Nat.lt_of_le_of_lt b.1 (by decide), a⟩, c⟩
  | .tn t, w, b, h => rd_of hs (t := t) w b h
  | .cy m t, w, b, h => by
    obtain ⟨a, c⟩ := rd_of hs (t := t) w.2 b h
    obtain ⟨⟨gl, st, M, h1, h2, h3, h4⟩, _⟩ := w
    refine ⟨⟨⟨by rw [M.len]; omega, st, by omega, fun row hr => ⟨(M.row row hr).1, fun p hp => ?_⟩⟩, a⟩, c⟩
    have g := (M.row row hr).2 p hp
    exact ⟨g.mono (by decide), Nat.lt_trans (show p.1.natAbs < 2 ^ 10 from g.sz.1) (by decide), Nat.lt_trans (show p.2.natAbs < 2 ^ 10 from g.sz.2) (by decide)⟩
  | .pr w t u, x, b, h => by
    obtain ⟨a1, c1⟩ := rd_of hs (t := t) x.2.1 b.1 h.1
    obtain ⟨a2, c2⟩ := rd_of hs (t := u) x.2.2 b.2 h.2
    exact ⟨⟨x.1, a1, a2⟩, c1, c2⟩
/-- a tree of the law -/
structure T52 (t : Tr) : Prop where
  tk : t.Tk
  nl : t.Nl
  rd : t.Rd
  dp : t.depth ≤ 6
  sz : t.sz ≤ 300
theorem t52_of {t : Tr} {ns : List Str} (hs : ∀ s ∈ ns, isNameL (TL.tl s) = true) (hw : t.Wf) (hb : t.Nb) (hd : t.depth ≤ 4) (hn : t.Ns ns) : T52 t ∧ t.sz ≤ 46 := by
  have r := rd_of hs hw hb hn
  have z := Tr.sz_depth t
  have m : 2 ^ t.depth ≤ 2 ^ 4 := Nat.pow_le_pow_right (by decide) hd
  exact ⟨⟨Tr.tk_of hw hb, r.2, r.1, by omega, by omega⟩, by omega⟩
section
variable {A : Rs → Prop} {t : Tr}
theorem T52.ltext (h : T52 t) (a : A (.ok (.str (tx t.txt)))) : P_ltext 26 [t.enc] A := ⟨t, rfl, h.tk, h.nl, h.sz, (by have := h.dp; show t.depth ≤ 25; omega), by decide, a⟩
theorem T52.wl (h : T52 t) : wlen t.wds + 3 * t.wds.length + 3 ≤ 99990 := by
  have n := Tr.nn_depth t
  have m : 2 ^ (t.depth + 1) ≤ 2 ^ 7 := Nat.pow_le_pow_right (by decide) (by have := h.dp; omega)
  have w := wds_wl h.rd
  omega
theorem T52.len (h : T52 t) : t.txt.length ≤ 99990 := by
  have := txt_wl h.rd
  have := h.wl
  omega
end
/-! ### things -/
end
section
/-! Where a spoilt text is refused. -/
open PySem PyProof.Rows L2 Evl
/-! ### what is read stands at the front -/
theorem thn_ok {α β : Type} {a : Except Nat α} {f : α → Except Nat β} {y : β} (h : thn1 a f = .ok y) : ∃ x, a = .ok x ∧ f x = .ok y := by
  cases a with
  | error e => cases h
  | ok x => exact ⟨x, rfl, h⟩
noncomputable def Sfx (r r' : List Tok1) : Prop := ∃ j, r' = r.drop j
theorem Sfx.refl (r : List Tok1) : Sfx r r := ⟨0, rfl⟩
theorem Sfx.trans {a b c : List Tok1} (h1 : Sfx a b) (h2 : Sfx b c) : Sfx a c := by
  obtain ⟨i, rfl⟩ := h1
  obtain ⟨j, rfl⟩ := h2
  exact ⟨i + j, by rw [List.drop_drop]⟩
theorem sfx_one (r : List Tok1) : Sfx r (r.drop 1) := ⟨1, rfl⟩
theorem sfx_take {b : Bool} {r r' : List Tok1} (h : takeT b r = .ok r') : Sfx r r' := by
  unfold takeT at h
  split at h
  · cases h; exact sfx_one r
  · cases h
theorem sfx_num {r : List Tok1} {q : Int × List Tok1} (h : numT r = .ok q) : Sfx r q.2 := by
  unfold numT at h
  split at h
  · cases h; exact sfx_one r
  · cases h
theorem sfx_rest {size : Option Nat} : ∀ {n : Nat} {f : List Fr} {r : List Tok1} {q : List Fr × List Tok1}, restT size n f r = .ok q → Sfx r q.2
  | 0, f, r, q, h => by cases h; exact Sfx.refl _
  | n + 1, f, r, q, h => by
    have h : (if moreT size f r then (match partL (hdT r) 18 with | some p => restT size n (f ++ [p]) (r.drop 1) | none => .error (plT r)) else .ok (f, r)) = .ok q := h
    split at h
    · split at h
      · exact (sfx_one r).trans (sfx_rest h)
      · cases h
    · cases h; exact Sfx.refl _
theorem sfx_row {size : Option Nat} {r : List Tok1} {q : List Fr × List Tok1} (h : rowT size r = .ok q) : Sfx r q.2 := by
  unfold rowT at h
  obtain ⟨r1, h1, h⟩ := thn_ok h
  obtain ⟨x, h2, h⟩ := thn_ok h
  obtain ⟨r3, h3, h⟩ := thn_ok h
  cases h
  exact (sfx_take h1).trans ((sfx_rest h2).trans (sfx_take h3))
theorem sfx_way {r : List Tok1} {q : List (List Fr) × List Tok1} (h : wayT r = .ok q) : Sfx r q.2 := by
  unfold wayT at h
  obtain ⟨x, h1, h⟩ := thn_ok h
  split at h
  · obtain ⟨y, h2, h⟩ := thn_ok h
    cases h
    exact (sfx_row h1).trans (sfx_row h2)
  · cases h; exact sfx_row h1
theorem sfx_tree : ∀ {n deep : Nat} {r : List Tok1} {q : Tr × List Tok1}, treeT n deep r = .ok q → Sfx r q.2
  | 0, _, _, _, h => by cases h
  | n + 1, deep, r, q, h => by
    by_cases e : hdT r = [40]
    · rw [tree_open e] at h
      obtain ⟨r1, h1, h⟩ := thn_ok h
      obtain ⟨r2, h2, h⟩ := thn_ok h
      obtain ⟨x, h3, h⟩ := thn_ok h
      obtain ⟨r5, h5, h⟩ := thn_ok h
      cases h
      refine (sfx_take h1).trans ((sfx_take h2).trans (Sfx.trans ?_ (sfx_take h5)))
      unfold bodyT at h3
      split at h3
      · obtain ⟨y, h6, h3⟩ := thn_ok h3
        obtain ⟨z, h7, h3⟩ := thn_ok h3
        cases h3
        exact (sfx_tree (q := y) h6).trans (sfx_tree (q := z) h7)
      · split at h3
        · obtain ⟨y, h6, h3⟩ := thn_ok h3
          cases h3
          exact sfx_tree (q := y) h6
        · split at h3
          · obtain ⟨y, h6, h3⟩ := thn_ok h3
            obtain ⟨z, h7, h3⟩ := thn_ok h3
            cases h3
            exact (sfx_num h6).trans (sfx_tree (q := z) h7)
          · obtain ⟨y, h6, h3⟩ := thn_ok h3
            obtain ⟨z, h7, h3⟩ := thn_ok h3
            cases h3
            exact (sfx_way h6).trans (sfx_tree (q := z) h7)
    · unfold treeT at h
      rw [if_neg e] at h
      obtain ⟨r1, h1, h⟩ := thn_ok h
      cases h
      exact sfx_take h1
theorem sfx_at {r r' : List Tok1} {ws rest : List (List Nat)} (h : Sfx r r') (h1 : wo r = ws ++ rest) (h2 : wo r' = rest) : r' = r.drop ws.length := qt_of (by simp (disch := with_unfolding_all
  obtain ⟨j, rfl⟩ := h
  have l1 := congrArg List.length h1
  have l2 := congrArg List.length h2
  rw [List.length_map, List.length_append] at l1
  rw [List.length_map, List.length_drop] at l2
  by_cases e : j ≤ r.length
  · have : j = ws.length := by omega
    rw [this]
  · rw [List.drop_eq_nil_of_le (by omega), List.drop_eq_nil_of_le (by omega)]
  ) only [↓qt_eq])
theorem wo_drop {r : List Tok1} {ws rest : List (List Nat)} (h1 : wo r = ws ++ rest) : wo (r.drop ws.length) = rest := by
  show (r.drop ws.length).map (·.1) = rest
  rw [List.map_drop, show r.map (·.1) = ws ++ rest from h1, List.drop_left]
/-- a word that fits nowhere -/
structure Bw (b : List Nat) : Prop where
  o : b ≠ [40]
  c : b ≠ [41]
  w : tx b ∉ wordsS
  n : isNameL b = false
  i : wholeL b 18 = none
  p : partL b 18 = none
theorem take_no {b : Bool} {r : List Tok1} (h : b = false) : takeT b r = .error (plT r) := by unfold takeT; rw [if_neg (by rw [h]; decide)]
section
variable {b : List Nat} (B : Bw b)
include B
theorem rest_bad {size : Option Nat} {row : List Fr} (hp : ∀ p ∈ row, GdP p) (h1 : row.length = 2 ∨ row.length = 3) (hs : size = none ∨ size = some row.length) : ∀ (n : Nat) (f g : List Fr) (r : List Tok1) (rest : List (List Nat)) (k : Nat), f ++ g = row → g.length + 1 ≤ n → k ≤ g.length → wo r = (g.map partT).take k ++ b :: rest →
    restT size n f r = .error (plT (r.drop k)) ∨ (k = g.length ∧ restT size n f r = .ok (row, r.drop k))
  | 0, f, g, r, rest, k, e, hn, hk, hr => absurd hn (by omega)
  | n + 1, f, g, r, rest, 0, e, hn, hk, hr => by
    have hh := (wo_cons (show wo r = b :: rest from hr)).1
    by_cases m : moreT size f r = true
    · left
      show (if moreT size f r then (match partL (hdT r) 18 with | some p => restT size n (f ++ [p]) (r.drop 1) | none => .error (plT r)) else .ok (f, r)) = _
      rw [if_pos m, hh, B.p]
      rfl
    · right
      have g0 : g = [] := by
        cases g with
        | nil => rfl
        | cons p g =>
          have fl : f.length + g.length + 1 = row.length := by rw [← e]; simp; omega
          exfalso
          apply m
          unfold moreT
          rcases hs with rfl | rfl
          · rw [hh]
            have := B.c
            simp [this]
            omega
          · simp
            omega
      subst g0
      rw [List.append_nil] at e
      subst e
      refine ⟨rfl, ?_⟩
      show (if moreT size f r then _ else Except.ok (f, r)) = _
      rw [if_neg m]
      rfl
  | n + 1, f, [], r, rest, k + 1, e, hn, hk, hr => absurd hk (by simp)
  | n + 1, f, p :: g, r, rest, k + 1, e, hn, hk, hr => by
    have hr : wo r = partT p :: ((g.map partT).take k ++ b :: rest) := hr
    obtain ⟨hh, hr'⟩ := wo_cons hr
    have fl : f.length + g.length + 1 = row.length := by rw [← e]; simp; omega
    have more : moreT size f r = true := by
      unfold moreT
      rcases hs with rfl | rfl
      · rw [hh]
        have := part_not41 p
        simp [this]
        omega
      · simp
        omega
    have e1 : restT size (n + 1) f r = restT size n (f ++ [p]) (r.drop 1) := by
      show (if moreT size f r then (match partL (hdT r) 18 with | some p => restT size n (f ++ [p]) (r.drop 1) | none => .error (plT r)) else .ok (f, r)) = _
      rw [if_pos more, hh, part18 (hp p (by rw [← e]; simp))]
    have ih := rest_bad hp h1 hs n (f ++ [p]) g (r.drop 1) rest k (by rw [← e]; simp) (by simp at hn; omega) (by simp at hk; omega) hr'
    rw [e1]
    rw [List.drop_drop, Nat.add_comm] at ih
    rcases ih with ih | ⟨ih1, ih2⟩
    · exact .inl ih
    · exact .inr ⟨by rw [ih1]; rfl, ih2⟩
theorem row_fail {size : Option Nat} {row : List Fr} {r : List Tok1} {rest : List (List Nat)} {k : Nat} (hp : ∀ p ∈ row, GdP p) (h1 : row.length = 2 ∨ row.length = 3) (hs : size = none ∨ size = some row.length) (hk : k < (rowW row).length) (hr : wo r = (rowW row).take k ++ b :: rest) :
    rowT size r = .error (plT (r.drop k)) := qt_of (by simp (disch := with_unfolding_all
  have rl : (rowW row).length = row.length + 2 := by unfold rowW; simp
  cases k with
  | zero =>
    have hh := (wo_cons (show wo r = b :: rest from hr)).1
    unfold rowT
    rw [take_no (decide_eq_false (by rw [hh]; exact B.o))]
    rfl
  | succ j =>
    have hj : j ≤ row.length := by omega
    have hr : wo r = [40] :: ((row.map partT ++ [[41]]).take j ++ b :: rest) := hr
    rw [List.take_append_of_le_length (by rw [List.length_map]; exact hj)] at hr
    obtain ⟨hh, hr1⟩ := wo_cons hr
    unfold rowT
    rw [take_ok (decide_eq_true hh)]
    show thn1 (restT size 4 [] (r.drop 1)) _ = _
    have e1 : (r.drop 1).drop j = r.drop (j + 1) := by rw [List.drop_drop, Nat.add_comm]
    rcases rest_bad B hp h1 hs 4 [] row (r.drop 1) rest j rfl (by omega) hj hr1 with h | ⟨h2, h⟩
    · rw [h, e1]; rfl
    · rw [h, e1]
      show thn1 (takeT (decide (hdT (r.drop (j + 1)) = [41])) (r.drop (j + 1))) _ = _
      have : wo (r.drop (j + 1)) = b :: rest := by
        rw [← e1]
        have := wo_drop hr1
        rw [List.length_take, List.length_map, Nat.min_eq_left hj] at this
        exact this
      rw [take_no (decide_eq_false (by rw [(wo_cons this).1]; exact B.c))]
      rfl
  ) only [↓qt_eq])
theorem tree_hd {n deep : Nat} {r : List Tok1} (h : hdT r = b) : treeT (n + 1) deep r = .error (plT r) := by
  unfold treeT
  rw [if_neg (by rw [h]; exact B.o), h, take_no B.n]
  rfl
/-- a map that is cut short: it fails there, or it ends there -/
theorem way_bad {m : List (List Fr)} {r : List Tok1} {rest : List (List Nat)} {k : Nat} (hm : (m.length = 1 ∨ m.length = 2) ∧ ∃ st, (st = 1 ∨ st = 2) ∧ ∀ row ∈ m, row.length = st + 1 ∧ ∀ p ∈ row, GdP p) (hk : k < (m.flatMap rowW).length) (hr : wo r = (m.flatMap rowW).take k ++ b :: rest) :
    wayT r = .error (plT (r.drop k)) ∨ ∃ m', wayT r = .ok (m', r.drop k) := qt_of (by simp (disch := with_unfolding_all
  obtain ⟨hl, st, hst, hrow⟩ := hm
  have ok1 : ∀ row ∈ m, (∀ p ∈ row, GdP p) ∧ (row.length = 2 ∨ row.length = 3) := fun row h => ⟨(hrow row h).2, by have := (hrow row h).1; omega⟩
  match m, hl with
  | [a], _ =>
    obtain ⟨q1, q2⟩ := ok1 a (by simp)
    have e0 : [a].flatMap rowW = rowW a := by simp
    rw [e0] at hk hr
    left
    unfold wayT
    rw [row_fail B (size := none) q1 q2 (.inl rfl) hk hr]
    rfl
  | [a, c], _ =>
    obtain ⟨q1, q2⟩ := ok1 a (by simp)
    obtain ⟨q3, q4⟩ := ok1 c (by simp)
    have e0 : [a, c].flatMap rowW = rowW a ++ rowW c := by simp
    rw [e0] at hk hr
    by_cases ha : k < (rowW a).length
    · left
      rw [List.take_append_of_le_length (by omega)] at hr
      unfold wayT
      rw [row_fail B (size := none) q1 q2 (.inl rfl) ha hr]
      rfl
    · obtain ⟨j, rfl⟩ : ∃ j, k = (rowW a).length + j := ⟨k - (rowW a).length, by omega⟩
      rw [List.length_append] at hk
      rw [List.take_append, List.take_of_length_le (by omega), Nat.add_sub_cancel_left, List.append_assoc] at hr
      obtain ⟨r1, e1, h1⟩ := row_ok (size := none) q1 q2 (.inl rfl) hr
      have er : r1 = r.drop (rowW a).length := sfx_at (sfx_row e1) hr h1
      have la := (hrow a (by simp)).1
      have lc := (hrow c (by simp)).1
      have ed : r1.drop j = r.drop ((rowW a).length + j) := by rw [er, List.drop_drop]
      have e2 : wayT r = if hdT r1 = [40] ∧ tx (sndT r1) ∉ wordsS then thn1 (rowT (some a.length) r1) (fun q2 => Except.ok ([a, q2.1], q2.2)) else Except.ok ([a], r1) := by
        unfold wayT
        rw [e1]
        rfl
      cases j with
      | zero =>
        right
        refine ⟨[a], ?_⟩
        have hh := (wo_cons (show wo r1 = b :: rest from h1)).1
        rw [e2, if_neg (fun z => B.o (by rw [← hh]; exact z.1)), ← ed]
        rfl
      | succ j =>
        left
        have hj : j + 1 < (rowW c).length := by omega
        obtain ⟨d, c', ec⟩ : ∃ d c', c = d :: c' := by
          cases c with
          | nil => simp at lc
          | cons d c' => exact ⟨d, c', rfl⟩
        have cond : hdT r1 = [40] ∧ tx (sndT r1) ∉ wordsS := by
          have h1' : wo r1 = [40] :: ((c.map partT ++ [[41]]).take j ++ b :: rest) := h1
          refine ⟨(wo_cons h1').1, ?_⟩
          cases j with
          | zero =>
            rw [snd_T (show wo r1 = [40] :: b :: rest from h1')]
            exact B.w
          | succ j =>
            rw [ec] at h1'
            have h2' : wo r1 = [40] :: partT d :: ((c'.map partT ++ [[41]]).take j ++ b :: rest) := by rw [h1']; rfl
            rw [snd_T h2']
            exact part_noword
        rw [e2, if_pos cond, row_fail B (size := some a.length) q3 q4 (.inr (by rw [la, lc])) hj h1, ed]
        rfl
  ) only [↓qt_eq])
theorem node_bad {n deep : Nat} {w : Str} {r : List Tok1} {ws rest : List (List Nat)} {k : Nat} (hd : deep < 12) (hw : w ∈ wordsS) (hk : k < ([40] :: TL.tl w :: (ws ++ [[41]])).length) (hr : wo r = ([40] :: TL.tl w :: (ws ++ [[41]])).take k ++ b :: rest)
    (hb : ∀ r2 j, j ≤ ws.length → wo r2 = ws.take j ++ b :: rest → bodyT n deep w r2 = .error (plT (r2.drop j)) ∨ (j = ws.length ∧ ∃ t, bodyT n deep w r2 = .ok (t, r2.drop j))) : treeT (n + 1) deep r = .error (plT (r.drop k)) := qt_of (by simp (disch := with_unfolding_all
  match k with
  | 0 => exact tree_hd B (wo_cons (show wo r = b :: rest from hr)).1
  | 1 =>
    have hr : wo r = [40] :: b :: rest := hr
    obtain ⟨h1, hr1⟩ := wo_cons hr
    rw [tree_open h1, take_ok (decide_eq_true hd)]
    show thn1 (takeT (decide (tx (hdT (r.drop 1)) ∈ wordsS)) (r.drop 1)) _ = _
    rw [take_no (decide_eq_false (by rw [(wo_cons hr1).1]; exact B.w))]
    rfl
  | j + 2 =>
    have hj : j ≤ ws.length := by simp only [List.length_cons, List.length_append, List.length_nil] at hk; omega
    have hr : wo r = [40] :: TL.tl w :: ((ws ++ [[41]]).take j ++ b :: rest) := hr
    rw [List.take_append_of_le_length hj] at hr
    obtain ⟨h1, hr1⟩ := wo_cons hr
    obtain ⟨h2, hr2⟩ := wo_cons hr1
    rw [tree_open h1, take_ok (decide_eq_true hd)]
    show thn1 (takeT (decide (tx (hdT (r.drop 1)) ∈ wordsS)) (r.drop 1)) _ = _
    rw [h2, tx_tlS, take_ok (decide_eq_true hw)]
    show thn1 (bodyT n deep w ((r.drop 1).drop 1)) _ = _
    have ed : ((r.drop 1).drop 1).drop j = r.drop (j + 2) := by rw [List.drop_drop, List.drop_drop]; congr 1; omega
    rcases hb _ j hj hr2 with h | ⟨hjl, t, h⟩
    · rw [h, ed]; rfl
    · rw [h, ed]
      show thn1 (takeT (decide (hdT (r.drop (j + 2)) = [41])) (r.drop (j + 2))) _ = _
      have : wo (r.drop (j + 2)) = b :: rest := by
        rw [← ed]
        have := wo_drop hr2
        rw [List.length_take, Nat.min_eq_left hj] at this
        exact this
      rw [take_no (decide_eq_false (by rw [(wo_cons this).1]; exact B.c))]
      rfl
  ) only [↓qt_eq])
/-- a tree that stands whole, then the word -/
theorem tree_whole {t : Tr} {n deep : Nat} {r : List Tok1} {rest : List (List Nat)} (h : t.Rd) (hn : t.depth < n) (hd : t.depth + deep ≤ 12) (hr : wo r = t.wds ++ rest) : treeT n deep r = .ok (t, r.drop t.wds.length) ∧ wo (r.drop t.wds.length) = rest := by
  obtain ⟨r', e, h'⟩ := tree_read h hn hd hr
  have er := sfx_at (sfx_tree (q := (t, r')) e) hr h'
  have er : r' = r.drop t.wds.length := er
  rw [er] at e
  exact ⟨e, wo_drop hr⟩
theorem tree_fail : ∀ {t : Tr} {n deep : Nat} {r : List Tok1} {rest : List (List Nat)} {k : Nat}, t.Rd → t.depth < n → t.depth + deep ≤ 12 → k < t.wds.length → wo r = t.wds.take k ++ b :: rest → treeT n deep r = .error (plT (r.drop k))
  | _, 0, _, _, _, _, _, hn, _, _, _ => absurd hn (Nat.not_lt_zero _)
  | .nm s, n + 1, deep, r, rest, k, h, hn, hd, hk, hr => by
    have : k = 0 := by have : k < 1 := hk; omega
    subst this
    exact tree_hd B (wo_cons (show wo r = b :: rest from hr)).1
  | .tm i t, n + 1, deep, r, rest, k, h, hn, hd, hk, hr => by
    have dp : Tr.depth (.tm i t) = t.depth + 1 := rfl
    refine node_bad B (w := "times") (ws := intL i :: t.wds) (by omega) (by decide) hk hr fun r2 j hj hr2 => ?_
    have eb : bodyT n deep "times" r2 = thn1 (numT r2) fun q => thn1 (treeT n (deep + 1) q.2) fun q2 => .ok (Tr.tm q.1 q2.1, q2.2) := by
      unfold bodyT
      rw [if_neg (by decide), if_neg (by decide), if_pos rfl]
    cases j with
    | zero =>
      left
      rw [eb]
      unfold numT
      rw [(wo_cons (show wo r2 = b :: rest from hr2)).1, B.i]
      rfl
    | succ j =>
      obtain ⟨h1, hr3⟩ := wo_cons (show wo r2 = intL i :: (t.wds.take j ++ b :: rest) from hr2)
      have ed : (r2.drop 1).drop j = r2.drop (j + 1) := by rw [List.drop_drop, Nat.add_comm]
      have en : numT r2 = .ok (i, r2.drop 1) := by
        unfold numT
        rw [h1, show wholeL (intL i) 18 = some i from whole_intK (k := 18) (by decide) h.1]
      rw [eb, en]
      show thn1 (treeT n (deep + 1) (r2.drop 1)) _ = _ ∨ _ ∧ ∃ t_1, thn1 (treeT n (deep + 1) (r2.drop 1)) _ = _
      by_cases hl : j < t.wds.length
      · left
        rw [tree_fail h.2 (by omega) (by omega) hl hr3, ed]
        rfl
      · right
        have hj2 : j = t.wds.length := by simp only [List.length_cons] at hj; omega
        rw [List.take_of_length_le (by omega)] at hr3
        obtain ⟨e4, _⟩ := tree_whole B (n := n) (deep := deep + 1) h.2 (by omega) (by omega) hr3
        refine ⟨by rw [hj2]; rfl, .tm i t, ?_⟩
        rw [e4, ← hj2, ed]
        rfl
  | .tn t, n + 1, deep, r, rest, k, h, hn, hd, hk, hr => by
    have dp : Tr.depth (.tn t) = t.depth + 1 := rfl
    refine node_bad B (w := "turn") (ws := t.wds) (by omega) (by decide) hk hr fun r2 j hj hr2 => ?_
    have eb : bodyT n deep "turn" r2 = thn1 (treeT n (deep + 1) r2) fun q => .ok (Tr.tn q.1, q.2) := by
      unfold bodyT
      rw [if_neg (by decide), if_pos rfl]
    rw [eb]
    by_cases hl : j < t.wds.length
    · left
      rw [tree_fail (t := t) h (by omega) (by omega) hl hr2]
      rfl
    · right
      have hj2 : j = t.wds.length := by omega
      rw [List.take_of_length_le (by omega)] at hr2
      obtain ⟨e4, _⟩ := tree_whole B (t := t) (n := n) (deep := deep + 1) h (by omega) (by omega) hr2
      refine ⟨hj2, .tn t, ?_⟩
      rw [e4, ← hj2]
      rfl
  | .cy m t, n + 1, deep, r, rest, k, h, hn, hd, hk, hr => by
    have dp : Tr.depth (.cy m t) = t.depth + 1 := rfl
    refine node_bad B (w := "carry") (ws := m.flatMap rowW ++ t.wds) (by omega) (by decide) hk hr fun r2 j hj hr2 => ?_
    have eb : bodyT n deep "carry" r2 = thn1 (wayT r2) fun q => thn1 (treeT n (deep + 1) q.2) fun q2 => .ok (Tr.cy q.1 q2.1, q2.2) := by
      unfold bodyT
      rw [if_neg (by decide), if_neg (by decide), if_neg (by decide)]
    obtain ⟨n', rfl⟩ : ∃ n', n = n' + 1 := ⟨n - 1, by omega⟩
    rw [eb]
    by_cases hw : j < (m.flatMap rowW).length
    · left
      rw [List.take_append_of_le_length (by omega)] at hr2
      rcases way_bad B h.1 hw hr2 with z | ⟨m', z⟩
      · rw [z]; rfl
      · rw [z]
        show thn1 (treeT (n' + 1) (deep + 1) (r2.drop j)) _ = _
        have : wo (r2.drop j) = b :: rest := by
          have := wo_drop hr2
          rw [List.length_take, Nat.min_eq_left (by omega)] at this
          exact this
        rw [tree_hd B (wo_cons this).1]
        rfl
    · obtain ⟨i, rfl⟩ : ∃ i, j = (m.flatMap rowW).length + i := ⟨j - (m.flatMap rowW).length, by omega⟩
      rw [List.length_append] at hj
      rw [List.take_append, List.take_of_length_le (by omega), Nat.add_sub_cancel_left, List.append_assoc] at hr2
      have ed : ∀ r3 : List Tok1, r3 = r2.drop (m.flatMap rowW).length → r3.drop i = r2.drop ((m.flatMap rowW).length + i) := fun r3 e => by rw [e, List.drop_drop]
      by_cases hbh : Behind (t.wds.take i ++ b :: rest)
      · obtain ⟨r3, e3, h3⟩ := way_ok h.1 hbh hr2
        have er := sfx_at (sfx_way e3) hr2 h3
        rw [e3]
        show thn1 (treeT (n' + 1) (deep + 1) r3) _ = _ ∨ _ ∧ ∃ t_1, thn1 (treeT (n' + 1) (deep + 1) r3) _ = _
        by_cases hl : i < t.wds.length
        · left
          rw [tree_fail h.2 (by omega) (by omega) hl h3, ed r3 er]
          rfl
        · right
          have hi2 : i = t.wds.length := by omega
          rw [List.take_of_length_le (by omega)] at h3
          obtain ⟨e4, _⟩ := tree_whole B (n := n' + 1) (deep := deep + 1) h.2 (by omega) (by omega) h3
          refine ⟨by rw [List.length_append, hi2], .cy m t, ?_⟩
          rw [e4, ← hi2, ed r3 er]
          rfl
      · -- the word behind the tree's bracket: a map of one row takes it for a row
        left
        have hi : i = 1 ∧ ∃ tl, t.wds = [40] :: tl := by
          match i with
          | 0 => exact absurd ⟨b, rest, rfl, fun z => absurd z B.o⟩ hbh
          | i + 1 =>
            obtain ⟨w0, t0, e0, hb0⟩ := behind_tree (ws := b :: rest) h.2
            cases hwd : t.wds with
            | nil => exact absurd hwd (wds_ok h.2).1
            | cons a tl =>
              rw [hwd] at e0 hbh
              have e0 : a :: (tl ++ b :: rest) = w0 :: t0 := e0
              injection e0 with e0 e1
              subst e0
              have ha : a = [40] := Classical.byContradiction fun z => hbh ⟨a, tl.take i ++ b :: rest, rfl, fun q => absurd q z⟩
              subst ha
              refine ⟨?_, tl, rfl⟩
              match i with
              | 0 => rfl
              | i + 1 =>
                exfalso
                obtain ⟨v, u, e2, hv⟩ := hb0 rfl
                cases tl with
                | nil =>
                  -- a tree's first bracket is not its last word
                  have e2 : b :: rest = v :: u := by rw [← e2, ← e1]; rfl
                  injection e2 with e2 _
                  rw [← e2] at hv
                  exact B.w hv
                | cons a2 tl =>
                  have e2 : a2 :: (tl ++ b :: rest) = v :: u := by rw [← e2, ← e1]; rfl
                  injection e2 with e2 _
                  subst e2
                  exact hbh ⟨[40], a2 :: (tl.take i ++ b :: rest), rfl, fun _ => ⟨_, _, rfl, hv⟩⟩
        obtain ⟨rfl, tl, et⟩ := hi
        have h40 : t.wds.take 1 ++ b :: rest = [40] :: b :: rest := by rw [et]; rfl
        rw [h40] at hr2
        obtain ⟨hl, st, hst, hrow⟩ := h.1
        have ok1 : ∀ row ∈ m, (∀ p ∈ row, GdP p) ∧ (row.length = 2 ∨ row.length = 3) := fun row h => ⟨(hrow row h).2, by have := (hrow row h).1; omega⟩
        match m, hl with
        | [a], _ =>
          obtain ⟨q1, q2⟩ := ok1 a (by simp)
          have e0 : [a].flatMap rowW = rowW a := by simp
          rw [e0] at hr2 ⊢
          obtain ⟨r1, e1, h1⟩ := row_ok (size := none) q1 q2 (.inl rfl) hr2
          have er : r1 = r2.drop (rowW a).length := sfx_at (sfx_row e1) hr2 h1
          obtain ⟨g1, g2⟩ := wo_cons h1
          have e2 : wayT r2 = thn1 (rowT (some a.length) r1) (fun q2 => Except.ok ([a, q2.1], q2.2)) := by
            unfold wayT
            rw [e1]
            show (if hdT r1 = [40] ∧ tx (sndT r1) ∉ wordsS then _ else _) = _
            rw [if_pos ⟨g1, by rw [snd_T h1]; exact B.w⟩]
          have e3 : rowT (some a.length) r1 = .error (plT (r1.drop 1)) := by
            have : wo r1 = (rowW a).take 1 ++ b :: rest := h1
            exact row_fail B (size := some a.length) q1 q2 (.inr rfl) (by unfold rowW; simp) this
          rw [e2, e3, er, List.drop_drop]
          rfl
        | [a, c], _ =>
          obtain ⟨q1, q2⟩ := ok1 a (by simp)
          obtain ⟨q3, q4⟩ := ok1 c (by simp)
          have e0 : [a, c].flatMap rowW = rowW a ++ rowW c := by simp
          rw [e0] at hr2 ⊢
          rw [List.append_assoc] at hr2
          obtain ⟨r1, e1, h1⟩ := row_ok (size := none) q1 q2 (.inl rfl) hr2
          have er : r1 = r2.drop (rowW a).length := sfx_at (sfx_row e1) hr2 h1
          have la := (hrow a (by simp)).1
          have lc := (hrow c (by simp)).1
          obtain ⟨r3, e3, h3⟩ := row_ok (size := some a.length) q3 q4 (.inr (by rw [la, lc])) h1
          have er3 : r3 = r1.drop (rowW c).length := sfx_at (sfx_row e3) h1 h3
          obtain ⟨d, c', ec⟩ : ∃ d c', c = d :: c' := by
            cases c with
            | nil => simp at lc
            | cons d c' => exact ⟨d, c', rfl⟩
          have h1' : wo r1 = [40] :: partT d :: (c'.map partT ++ [[41]] ++ [40] :: b :: rest) := by rw [h1, ec]; rfl
          have e2 : wayT r2 = .ok ([a, c], r3) := by
            unfold wayT
            rw [e1]
            show (if hdT r1 = [40] ∧ tx (sndT r1) ∉ wordsS then thn1 (rowT (some a.length) r1) (fun q2 => Except.ok ([a, q2.1], q2.2)) else _) = _
            rw [if_pos ⟨(wo_cons h1').1, by rw [snd_T h1']; exact part_noword⟩, e3]
            rfl
          rw [e2]
          show thn1 (treeT (n' + 1) (deep + 1) r3) _ = _
          have e4 : treeT (n' + 1) (deep + 1) r3 = .error (plT (r3.drop 1)) := by
            refine tree_fail (t := t) (k := 1) h.2 (by omega) (by omega) ?_ (by rw [h3, h40])
            by_cases z : 1 < t.wds.length
            · exact z
            · exfalso
              obtain ⟨w0, t0, e0, hb0⟩ := behind_tree (ws := b :: rest) h.2
              rw [et] at z e0
              have : tl = [] := by simp only [List.length_cons] at z; exact List.length_eq_zero_iff.mp (by omega)
              subst this
              have e0 : [40] :: b :: rest = w0 :: t0 := e0
              injection e0 with e0 e1
              obtain ⟨v, u, e2, hv⟩ := hb0 e0.symm
              rw [← e1] at e2
              injection e2 with e2 _
              rw [← e2] at hv
              exact B.w hv
          rw [e4, er3, er, List.drop_drop, List.drop_drop, List.length_append]
          show Except.error _ = Except.error _
          congr 3
  | .pr w t u, n + 1, deep, r, rest, k, h, hn, hd, hk, hr => by
    have dp : Tr.depth (.pr w t u) = max t.depth u.depth + 1 := rfl
    refine node_bad B (w := w) (ws := t.wds ++ u.wds) (by omega) (pairs_words h.1) hk hr fun r2 j hj hr2 => ?_
    have eb : bodyT n deep w r2 = thn1 (treeT n (deep + 1) r2) fun q => thn1 (treeT n (deep + 1) q.2) fun q2 => .ok (Tr.pr w q.1 q2.1, q2.2) := by
      unfold bodyT
      rw [if_pos h.1]
    rw [eb]
    by_cases hw : j < t.wds.length
    · left
      rw [List.take_append_of_le_length (by omega)] at hr2
      rw [tree_fail h.2.1 (by omega) (by omega) hw hr2]
      rfl
    · obtain ⟨i, rfl⟩ : ∃ i, j = t.wds.length + i := ⟨j - t.wds.length, by omega⟩
      rw [List.length_append] at hj
      rw [List.take_append, List.take_of_length_le (by omega), Nat.add_sub_cancel_left, List.append_assoc] at hr2
      obtain ⟨e4, h4⟩ := tree_whole B (n := n) (deep := deep + 1) h.2.1 (by omega) (by omega) hr2
      rw [e4]
      show thn1 (treeT n (deep + 1) (r2.drop t.wds.length)) _ = _ ∨ _ ∧ ∃ t_1, thn1 (treeT n (deep + 1) (r2.drop t.wds.length)) _ = _
      have ed : (r2.drop t.wds.length).drop i = r2.drop (t.wds.length + i) := by rw [List.drop_drop]
      by_cases hl : i < u.wds.length
      · left
        rw [tree_fail h.2.2 (by omega) (by omega) hl h4, ed]
        rfl
      · right
        have hi2 : i = u.wds.length := by omega
        rw [List.take_of_length_le (by omega)] at h4
        obtain ⟨e5, _⟩ := tree_whole B (n := n) (deep := deep + 1) h.2.2 (by omega) (by omega) h4
        refine ⟨by rw [List.length_append, hi2], .pr w t u, ?_⟩
        rw [e5, ← hi2, ed]
        rfl
end


end
section
/-! Words and their places; spoilt, cut and overlong texts. -/
open PySem PyProof.Rows L2 Evl
theorem tkw_wdP : ∀ {u : List Nat} {r w : List Nat} {p : Nat}, (∀ c ∈ u, sepC c = false) → tkw (u ++ r) p w = tkw r (p + u.length) (w ++ u)
  | [], r, w, p, _ => by rw [List.append_nil]; rfl
  | c :: u, r, w, p, h => by
    show (if sepC c then _ else tkw (u ++ r) (p + 1) (w ++ [c])) = _
    rw [if_neg (by rw [h c List.mem_cons_self]; decide), tkw_wdP fun x hx => h x (List.mem_cons_of_mem _ hx), List.append_assoc, List.length_cons, show p + 1 + u.length = p + (u.length + 1) by omega]
    rfl
theorem tkw_flP {r w : List Nat} {p : Nat} (h : sepHd r) : tkw r p w = flu w p ++ tkw r p [] := qt_of (by simp (disch := with_unfolding_all
  rcases h with rfl | ⟨c, t, rfl, hc⟩
  · show flu w p = flu w p ++ flu [] p
    rw [show flu [] p = [] from if_pos rfl, List.append_nil]
  · show (if sepC c then flu w p ++ ((if c = 32 then [] else [([c], p)]) ++ tkw t (p + 1) []) else tkw t (p + 1) (w ++ [c])) = flu w p ++ if sepC c then flu [] p ++ ((if c = 32 then [] else [([c], p)]) ++ tkw t (p + 1) []) else tkw t (p + 1) ([] ++ [c])
    rw [if_pos hc, if_pos hc]
    rfl
  ) only [↓qt_eq])
theorem tkw_sps : ∀ (k : Nat) (r : List Nat) (p : Nat), tkw (sps k ++ r) p [] = tkw r (p + k) []
  | 0, r, p => rfl
  | k + 1, r, p => by
    have := tkw_sps k r (p + 1)
    rw [show p + 1 + k = p + (k + 1) by omega] at this
    exact this
theorem tkw_br {c : Nat} (h : c = 40 ∨ c = 41) (r : List Nat) (p : Nat) : tkw (c :: r) p [] = ([c], p) :: tkw r (p + 1) [] := by
  rcases h with rfl | rfl <;> rfl
theorem tkw_one {w r : List Nat} {p : Nat} (h : Wd1 w) (hr : isBr w ∨ sepHd r) : tkw (w ++ r) p [] = (w, p) :: tkw r (p + w.length) [] := qt_of (by simp (disch := with_unfolding_all
  rcases h with rfl | rfl | h
  · exact tkw_br (.inl rfl) r p
  · exact tkw_br (.inr rfl) r p
  · rcases hr with (rfl | rfl) | hr
    · exact tkw_br (.inl rfl) r p
    · exact tkw_br (.inr rfl) r p
    · rw [tkw_wdP h.2, tkw_flP hr]
      show flu w (p + w.length) ++ _ = _
      unfold flu
      rw [if_neg h.1, Nat.add_sub_cancel]
      rfl
  ) only [↓qt_eq])
noncomputable def Gpt (f : List Nat) (pre : List Tok1) (b : Prop) : Prop := ∀ r, (b ∨ sepHd r) → tkw (f ++ r) 0 [] = pre ++ tkw r f.length []
theorem gpt_nil : Gpt [] [] True := fun r _ => rfl
theorem gpt_step {f w : List Nat} {pre : List Tok1} {b : Prop} {k : Nat} (g : Gpt f pre b) (h : Wd1 w) (hk : 1 ≤ k ∨ b ∨ isBr w) : Gpt ((f ++ sps k) ++ w) (pre ++ [(w, f.length + k)]) (isBr w) := fun r hr => by
  rw [List.append_assoc, List.append_assoc, g, tkw_sps, tkw_one h hr, List.append_assoc, List.length_append, List.length_append, List.length_replicate]
  · rfl
  rcases hk with hk | hk | hk
  · obtain ⟨j, rfl⟩ : ∃ j, k = j + 1 := ⟨k - 1, by omega⟩
    exact .inr (.inr ⟨32, _, rfl, by decide⟩)
  · exact .inl hk
  · right
    cases k with
    | zero =>
      rcases hk with rfl | rfl
      · exact .inr ⟨40, _, rfl, by decide⟩
      · exact .inr ⟨41, _, rfl, by decide⟩
    | succ j => exact .inr ⟨32, _, rfl, by decide⟩
theorem gpt_end {f : List Nat} {pre : List Tok1} {b : Prop} {k : Nat} (g : Gpt f pre b) : toks (f ++ sps k) = pre ++ [([], (f ++ sps k).length)] := qt_of (by simp (disch := with_unfolding_all
  unfold toks
  rw [g, show tkw (sps k) f.length [] = [] from ?_, List.append_nil]
  · have := tkw_sps k [] f.length
    rw [List.append_nil] at this
    rw [this]; rfl
  · right
    cases k with
    | zero => exact .inl rfl
    | succ j => exact .inr ⟨32, _, rfl, by decide⟩
  ) only [↓qt_eq])
/-- where a word of a joined text stands -/
noncomputable def plc (ws : List (List Nat)) (k : Nat) : Nat := (Jn (ws.take k)).length + if 0 < k then 1 else 0
theorem gpt_Jn {xs : List (List Nat)} (hw : ∀ w ∈ xs, Wd1 w) : ∀ n, n < xs.length → ∃ (pre : List Tok1) (z : List Nat), xs[n]? = some z ∧ Gpt (Jn (xs.take (n + 1))) pre (isBr z) ∧ pre.map (·.1) = xs.take (n + 1) ∧ ∀ i ≤ n, pre[i]?.map (·.2) = some (plc xs i)
  | 0, hn => by
    obtain ⟨z, r, rfl⟩ : ∃ z r, xs = z :: r := by
      cases xs with
      | nil => simp at hn
      | cons z r => exact ⟨z, r, rfl⟩
    have g := gpt_step (k := 0) gpt_nil (hw z (by simp)) (.inr (.inl trivial))
    refine ⟨[(z, 0)], z, rfl, ?_, rfl, fun i hi => ?_⟩
    · have e : ([] ++ sps 0) ++ z = Jn ((z :: r).take (0 + 1)) := rfl
      rw [e] at g
      exact g
    · have : i = 0 := by omega
      subst this
      rfl
  | n + 1, hn => by
    obtain ⟨pre, z, hz, g, hm, hp⟩ := gpt_Jn hw n (by omega)
    obtain ⟨y, hy⟩ : ∃ y, xs[n + 1]? = some y := ⟨xs[n + 1], List.getElem?_eq_getElem hn⟩
    have tk : xs.take (n + 1 + 1) = xs.take (n + 1) ++ [y] := by rw [List.take_add_one, hy]; rfl
    have ne : xs.take (n + 1) ≠ [] := by
      intro e
      have := congrArg List.length e
      rw [List.length_take, List.length_nil] at this
      omega
    have g2 := gpt_step (k := 1) g (hw y (List.mem_of_getElem? hy)) (.inl (Nat.le_refl _))
    have pl : pre.length = n + 1 := by
      have := congrArg List.length hm
      rw [List.length_map, List.length_take] at this
      omega
    refine ⟨pre ++ [(y, (Jn (xs.take (n + 1))).length + 1)], y, hy, ?_, ?_, fun i hi => ?_⟩
    · rw [tk, Jn_app ne]
      have e : (Jn (xs.take (n + 1)) ++ sps 1) ++ y = Jn (xs.take (n + 1)) ++ 32 :: y := by rw [List.append_assoc]; rfl
      rw [e] at g2
      exact g2
    · rw [List.map_append, hm, tk]; rfl
    · by_cases h : i ≤ n
      · rw [List.getElem?_append_left (by omega)]; exact hp i h
      · have : i = n + 1 := by omega
        subst this
        rw [List.getElem?_append_right (by omega), pl, Nat.sub_self]
        show some ((Jn (xs.take (n + 1))).length + 1) = _
        unfold plc
        rw [if_pos (Nat.succ_pos _)]
theorem plT_at {pre : List Tok1} {e : Tok1} {k p : Nat} (h : pre[k]?.map (·.2) = some p) : plT ((pre ++ [e]).drop k) = p := qt_of (by simp (disch := with_unfolding_all
  obtain ⟨q, hq, hp⟩ : ∃ q, pre[k]? = some q ∧ q.2 = p := by
    cases e : pre[k]? with
    | none => rw [e] at h; cases h
    | some q => rw [e] at h; exact ⟨q, rfl, by simpa using h⟩
  have hk : k < pre.length := (List.getElem?_eq_some_iff.mp hq).1
  rw [List.drop_append_of_le_length (by omega)]
  have : pre.drop k = q :: pre.drop (k + 1) := by
    obtain ⟨h1, h2⟩ := List.getElem?_eq_some_iff.mp hq
    rw [← h2]; exact (List.getElem_cons_drop h1).symm
  rw [this]
  exact hp
  ) only [↓qt_eq])
section
variable {t : Tr} {l : List Nat} {pre : List Tok1} {k p : Nat} {b : List Nat} {C : List (List Nat)}
/-- a word that fits nowhere -/
theorem read_bad (h : t.Rd) (hd : t.depth ≤ 12) (B : Bw b) (hl : toks l = pre ++ [([], l.length)]) (hm : pre.map (·.1) = t.wds.take k ++ b :: C) (hk : k < t.wds.length) (hp : pre[k]?.map (·.2) = some p) : readT l = .error p := qt_of (by simp (disch := with_unfolding_all
  have hr : wo (toks l) = t.wds.take k ++ b :: (C ++ [[]]) := by
    show (toks l).map (·.1) = _
    rw [hl, List.map_append, hm]
    simp
  have e := tree_fail B (n := 14) (deep := 0) h (by omega) (by omega) hk hr
  unfold readT
  rw [e, hl, plT_at hp]
  rfl
  ) only [↓qt_eq])
theorem bw_nil : Bw [] := ⟨by decide, by decide, by decide +kernel, by decide +kernel, by decide +kernel, by decide +kernel⟩
/-- a text that ends too soon -/
theorem read_cut (h : t.Rd) (hd : t.depth ≤ 12) (hl : toks l = pre ++ [([], l.length)]) (hm : pre.map (·.1) = t.wds.take k) (hk : k < t.wds.length) : readT l = .error l.length := qt_of (by simp (disch := with_unfolding_all
  have hr : wo (toks l) = t.wds.take k ++ [] :: [] := by
    show (toks l).map (·.1) = _
    rw [hl, List.map_append, hm]
    rfl
  have e := tree_fail bw_nil (n := 14) (deep := 0) h (by omega) (by omega) hk hr
  have pl : pre.length = k := by
    have := congrArg List.length hm
    rw [List.length_map, List.length_take] at this
    omega
  unfold readT
  rw [e, hl, ← pl, List.drop_left]
  rfl
  ) only [↓qt_eq])
/-- a text that goes on behind the tree -/
theorem read_more (h : t.Rd) (hd : t.depth ≤ 12) (hb : b ≠ []) (hl : toks l = pre ++ [([], l.length)]) (hm : pre.map (·.1) = t.wds ++ [b]) (hp : pre[t.wds.length]?.map (·.2) = some p) : readT l = .error p := qt_of (by simp (disch := with_unfolding_all
  have hr : wo (toks l) = t.wds ++ ([b] ++ [[]]) := by
    show (toks l).map (·.1) = _
    rw [hl, List.map_append, hm]
    simp
  obtain ⟨e, hw⟩ := tree_whole bw_nil (n := 14) (deep := 0) h (by omega) (by omega) hr
  unfold readT
  rw [e]
  show thn1 (takeT (decide (hdT ((toks l).drop t.wds.length) = [])) ((toks l).drop t.wds.length)) _ = _
  rw [take_no (decide_eq_false (by rw [(wo_cons (show wo ((toks l).drop t.wds.length) = b :: [[]] from hw)).1]; exact hb)), hl, plT_at hp]
  rfl
  ) only [↓qt_eq])
end
theorem plc_app {A C : List (List Nat)} {b : List Nat} {k : Nat} {ws : List (List Nat)} (hA : A = ws.take k) (hk : k ≤ ws.length) : plc (A ++ b :: C) k = plc ws k := by
  unfold plc
  have : A.length = k := by rw [hA, List.length_take]; omega
  rw [List.take_append_of_le_length (by omega), List.take_of_length_le (by omega), hA]
theorem read_spoilt {t : Tr} {k : Nat} {b : List Nat} (h : t.Rd) (hd : t.depth ≤ 12) (B : Bw b) (hb : Wd0 b) (hk : k < t.wds.length) : readT (Jn (t.wds.take k ++ [b] ++ t.wds.drop (k + 1))) = .error (plc t.wds k) := qt_of (by simp (disch := with_unfolding_all
  have wk := (wds_ok h).2
  have hx : ∀ w ∈ t.wds.take k ++ [b] ++ t.wds.drop (k + 1), Wd1 w := fun w hw => by
    rcases List.mem_append.mp hw with hw | hw
    · rcases List.mem_append.mp hw with hw | hw
      · exact wk w (List.mem_of_mem_take hw)
      · rw [List.mem_singleton.mp hw]; exact .inr (.inr hb)
    · exact wk w (List.mem_of_mem_drop hw)
  have len : (t.wds.take k ++ [b] ++ t.wds.drop (k + 1)).length = t.wds.length := by simp; omega
  obtain ⟨pre, z, _, g, hm, hp⟩ := gpt_Jn hx (t.wds.length - 1) (by omega)
  rw [show t.wds.length - 1 + 1 = t.wds.length by omega, List.take_of_length_le (by omega)] at g hm
  have ge := gpt_end (k := 0) g
  rw [show Jn (t.wds.take k ++ [b] ++ t.wds.drop (k + 1)) ++ sps 0 = Jn (t.wds.take k ++ [b] ++ t.wds.drop (k + 1)) from List.append_nil _] at ge
  refine read_bad (k := k) (C := t.wds.drop (k + 1)) h hd B ge (by rw [hm]; simp) hk ?_
  rw [hp k (by omega)]
  rw [List.append_assoc]
  exact congrArg some (plc_app rfl (by omega))
  ) only [↓qt_eq])
theorem read_cut2 {t : Tr} {k j : Nat} (h : t.Rd) (hd : t.depth ≤ 12) (hk : k < t.wds.length) : readT (Jn (t.wds.take k) ++ sps j) = .error (Jn (t.wds.take k) ++ sps j).length := qt_of (by simp (disch := with_unfolding_all
  have wk := (wds_ok h).2
  cases k with
  | zero =>
    have ge := gpt_end (k := j) gpt_nil
    exact read_cut (k := 0) h hd ge rfl hk
  | succ k =>
    obtain ⟨pre, z, _, g, hm, hp⟩ := gpt_Jn wk k (by omega)
    exact read_cut (k := k + 1) h hd (gpt_end (k := j) g) hm hk
  ) only [↓qt_eq])
theorem read_more2 {t : Tr} {b : List Nat} (h : t.Rd) (hd : t.depth ≤ 12) (hb : Wd1 b) : readT (Jn t.wds ++ [32] ++ b) = .error ((Jn t.wds).length + 1) := qt_of (by simp (disch := with_unfolding_all
  obtain ⟨ne, wk⟩ := wds_ok h
  have l0 : 0 < t.wds.length := List.length_pos_iff.mpr ne
  obtain ⟨pre, z, _, g, hm, hp⟩ := gpt_Jn wk (t.wds.length - 1) (by omega)
  rw [show t.wds.length - 1 + 1 = t.wds.length by omega, List.take_of_length_le (Nat.le_refl _)] at g hm
  have g2 := gpt_step (k := 1) g hb (.inl (Nat.le_refl _))
  have ge := gpt_end (k := 0) g2
  rw [show (Jn t.wds ++ sps 1 ++ b) ++ sps 0 = Jn t.wds ++ [32] ++ b from List.append_nil _] at ge
  have pl : pre.length = t.wds.length := by
    have := congrArg List.length hm
    rw [List.length_map] at this
    omega
  refine read_more (b := b) h hd (fun z => ?_) ge (by rw [List.map_append, hm]; rfl) ?_
  · subst z
    rcases hb with z | z | z
    · cases z
    · cases z
    · exact z.1 rfl
  · rw [← pl, List.getElem?_append_right (Nat.le_refl _), Nat.sub_self]
    rfl
  ) only [↓qt_eq])
/-- the words that the law puts in -/
noncomputable def badsS : List Str := ["A", "a-b", "2/4", "0x", "1/0", "/", "-0", "abcdefghijklm", "00", "+1", "_a"]
noncomputable instance (b : List Nat) : Decidable (Wd0 b) := inferInstanceAs (Decidable (b ≠ [] ∧ ∀ c ∈ b, sepC c = false))
theorem bads_ok : ∀ s ∈ badsS, Bw (TL.tl s) ∧ Wd0 (TL.tl s) ∧ (TL.tl s).length ≤ 13 := qt_of (by simp (disch := with_unfolding_all
  have one : ∀ l : List Nat, (l ≠ [40] ∧ l ≠ [41] ∧ tx l ∉ wordsS ∧ isNameL l = false ∧ wholeL l 18 = none ∧ partL l 18 = none) ∧ Wd0 l ∧ l.length ≤ 13 → Bw l ∧ Wd0 l ∧ l.length ≤ 13 := fun l h => ⟨⟨h.1.1, h.1.2.1, h.1.2.2.1, h.1.2.2.2.1, h.1.2.2.2.2.1, h.1.2.2.2.2.2⟩, h.2⟩
  intro s hs
  simp only [badsS, List.mem_cons, List.not_mem_nil, or_false] at hs
  rcases hs with rfl | rfl | rfl | rfl | rfl | rfl | rfl | rfl | rfl | rfl | rfl <;> (rw [TL.tl_ofString]; exact one _ (by decide +kernel))
  ) only [↓qt_eq])


end
section
/-! The defs of the law of texts that are none. -/
open PySem PyProof.Rows L2 Evl

theorem sum_wl : ∀ ws : List (List Nat), ((ws.map tx).map (·.length)).sum + (ws.map tx).length * 1 = wlen ws
  | [] => rfl
  | w :: ws => by
    have := sum_wl ws
    rw [wlen_cons, List.map_cons, List.map_cons, List.sum_cons, List.length_cons, tx_len]
    omega
theorem jn_ok {ψ : List Str → Prop} {ws : List (List Nat)} (h : wlen ws ≤ 1000000) (p : ψ (ws.map tx)) : ∃ ys : List Str, strsD ws = .list (ys.map PyData.str) ∧ (ys.map (·.length)).sum + ys.length * (" " : Str).length ≤ 16777216 ∧ ψ ys := by
  refine ⟨ws.map tx, rfl, ?_, p⟩
  have := sum_wl ws
  rw [show (" " : Str).length = 1 from rfl]
  omega
theorem Jn_wlen : ∀ ws : List (List Nat), (Jn ws).length ≤ wlen ws
  | [] => Nat.le_refl _
  | [a] => by rw [wlen_cons]; show a.length ≤ _; omega
  | a :: b :: ws => by
    have := Jn_wlen (b :: ws)
    rw [Jn_cons, wlen_cons, List.length_append, List.length_cons]
    omega
theorem wlen_take (ws : List (List Nat)) (k : Nat) : wlen (ws.take k) ≤ wlen ws := by
  have := wlen_app (ws.take k) (ws.drop k)
  rw [List.take_append_drop] at this
  omega
section
variable {K : Fg} {cs : Cs} {gs : Gs} {φ : PyData → Prop} {A : Rs → Prop} {ε : Xw → Prop} {w : World}
noncomputable def P_told53 : Pr := fun ds A => ∃ l : List Nat, ds = [.str (tx l)] ∧ l.length ≤ 99990 ∧ (∀ p, readT l = .error p → A (.ok (.list [.str "Unread", .int (p : Nat)]))) ∧ ∀ t, readT l = .ok t → A (.ok t.enc)
noncomputable def t_told53 (K : Fg) (cs : Cs) : TS := (tTryAs K (.ref (cs "Unread")) 1 (fun W => (tRet (tCallSD (spW K cs P_read) [] (WE W) (tCons (tVar 0) tNil)))) (fun a cls d => (tSeq (tIfS (tOr (tB (tCB (rIsD K a cls d (cs "Unread")) (tCons (tVar 1) (tCons (tC (V.ref (cs "BadRow"))) tNil)))) (tNot (tB (tCB (rIsD K a cls d (cs "Unread")) (tCons (tVar 1) (tCons (tC (V.ref (cs "Unfit"))) tNil)))))) (tRet (tC V.non)) tNext)
  (tRet (tLst (tCons (tXf a cls d (cs "Unread") "word" (tVar 1)) (tCons (tXf a cls d (cs "Unread") "at" (tVar 1)) tNil)))))))
-- slots of told53: 0 _law_text_here, 1 why
theorem ln_told53 : ∀ ds A, P_told53 ds A → ds.length = 1 := fun ds A h => by obtain ⟨_, rfl, _⟩ := h; rfl
theorem rd_told53 {ds A} (em : PySem.W.exmOne K (.ref (cs "Unread")) (.ref (cs "Unread")) = some true) (k1 : PySem.W.kitOne K (.ref (cs "Unread")) (.ref (cs "BadRow")) = some false) (k2 : PySem.W.kitOne K (.ref (cs "Unread")) (.ref (cs "Unfit")) = some true) (h : P_told53 ds A) : SW K cs W0 (t_told53 K cs) (frame 2 ds) (rts0 A) := qt_of (by simp (disch := with_unfolding_all
  obtain ⟨l, rfl, hl, hE, hO⟩ := h
  unfold t_told53
  refine sw_try fun W' => ?_
  refine sw_ret ?_
  walk_at "w"
  refine ⟨l, rfl, hl, fun p e => ?_, fun t e => hO t e⟩
  refine ⟨em, fun a d => ?_⟩
  refine sw_seq ?_
  walk_at "s"
  refine ew_isD rfl k1 ?_
  walk_at "s"
  refine ew_isD rfl k2 ?_
  walk_at "w"
  refine ew_xfS rfl rfl ?_
  refine ew_xf rfl rfl (fun _ => .int _) ?_
  exact hE p e
  ) only [↓qt_eq])
theorem c_told53 {l : List Nat} {p : Nat} (hl : l.length ≤ 99990) (e : readT l = .error p) (h : φ (.list [.str "Unread", .int (p : Nat)])) : P_told53 [.str (tx l)] (rE φ ε) := ⟨l, rfl, hl, fun q z => by rw [e] at z; cases z; exact h, fun t z => by rw [e] at z; cases z⟩
noncomputable def P_lplaced : Pr := fun ds A => ∃ (ws : List (List Nat)) (k : Nat), ds = [strsD ws, .int (k : Nat)] ∧ wlen ws ≤ 99990 ∧ A (.ok (.int (plc ws k : Nat)))
noncomputable def t__law_placed (K : Fg) : TS := (tRet (tOp rAddI (tCB rLenS (tCons (tM1 (rJoin K) (tC (V.str " ")) (tSl (rSlL K) (tVar 0) tNoPart (tPart (tVar 1)))) tNil)) (tCB rInt1 (tCons (tOp rGtI (tVar 1) (tC (V.int 0))) tNil))))
-- slots of _law_placed: 0 _law_words_here, 1 _law_at
theorem ln__law_placed : ∀ ds A, P_lplaced ds A → ds.length = 2 := fun ds A h => by obtain ⟨_, _, rfl, _⟩ := h; rfl
theorem rd__law_placed {ds A} (h : P_lplaced ds A) : SW K cs W0 (t__law_placed K) (frame 2 ds) (rts0 A) := qt_of (by simp (disch := with_unfolding_all
  obtain ⟨ws, k, rfl, hl, h⟩ := h
  unfold t__law_placed
  walk_at "w"
  rw [cutD_to, show ((ws.map tx).map PyData.str).take k = ((ws.take k).map tx).map PyData.str by rw [List.map_take, List.map_take]]
  have l2 := wlen_take ws k
  refine jn_ok (ws := ws.take k) (by omega) ?_
  rw [join_tx]
  have l3 := Jn_wlen (ws.take k)
  walk_at "w"
  refine ⟨_, rfl, by rw [tx_len]; exact Nat.le_trans (show (Jn (ws.take k)).length ≤ 1000000 by omega) (by decide), _, rfl, ?_⟩
  rw [tx_len]
  walk_at "w"
  have e : (((Jn (ws.take k)).length : Nat) : Int) + (if decide ((0 : Int) < (k : Int)) = true then 1 else 0) = ((plc ws k : Nat) : Int) := by
    unfold plc
    by_cases h0 : 0 < k
    · rw [if_pos h0, if_pos (decide_eq_true (by omega))]; omega
    · rw [if_neg h0, if_neg (by rw [decide_eq_false (by omega)]; decide)]; omega
  rw [e]
  exact h
  ) only [↓qt_eq])
noncomputable def deepL (n : Nat) : List Nat := repT n (TL.tl "(turn ") ++ [97] ++ repT n [41]
noncomputable def P_ldeep : Pr := fun ds A => ∃ n : Nat, ds = [.int (n : Nat)] ∧ n ≤ 100 ∧ A (.ok (.str (tx (deepL n))))
noncomputable def t__law_deep_text (K : Fg) : TS := (tRet (tOp rAddStr (tOp rAddStr (tOp rMulT (tC (V.str "(turn ")) (tVar 0)) (tC (V.str "a"))) (tOp rMulT (tC (V.str ")")) (tVar 0))))
-- slots of _law_deep_text: 0 _law_many
theorem ln__law_deep_text : ∀ ds A, P_ldeep ds A → ds.length = 1 := fun ds A h => by obtain ⟨_, rfl, _⟩ := h; rfl
theorem rd__law_deep_text {ds A} (h : P_ldeep ds A) : SW K cs W0 (t__law_deep_text K) (frame 1 ds) (rts0 A) := qt_of (by simp (disch := with_unfolding_all
  obtain ⟨n, rfl, hn, h⟩ := h
  unfold t__law_deep_text
  walk_at "w"
  have lt : (tx (repT n (TL.tl "(turn "))).length = n * 6 := by rw [tx_len, repT_len, show TL.tl ("(turn " : Str) = [40, 116, 117, 114, 110, 32] by rw [TL.tl_ofString]; rfl]; rfl
  have la : (tx (repT n [41])).length = n := by rw [tx_len, repT_len]; simp
  refine ⟨n, rfl, by decide, by omega, _, rfl, ?_⟩
  walk_at "w"
  rw [show repSt n "(turn " = tx (repT n (TL.tl "(turn ")) from rfl, show ("a" : Str) = tx [97] from TL.ext_tl (by rw [TL.tl_ofString] <;> rfl)]
  refine ⟨by rw [lt]; exact Nat.le_trans (show n * 6 + 1 ≤ 1000 by omega) (by decide), _, rfl, ?_⟩
  walk_at "w"
  rw [tx_app]
  refine ⟨n, rfl, by decide, by omega, _, rfl, ?_⟩
  have e2 : repSt n ")" = tx (repT n [41]) := by
    show tx (repT n (TL.tl ")")) = _
    rw [show TL.tl (")" : Str) = [41] by rw [TL.tl_ofString]; rfl]
  rw [e2]
  refine ⟨by rw [la, tx_len, List.length_append, repT_len]; exact Nat.le_trans (show n * (TL.tl "(turn ").length + 1 + n ≤ 1000 by rw [show TL.tl ("(turn " : Str) = [40, 116, 117, 114, 110, 32] by rw [TL.tl_ofString]; rfl]; show n * 6 + 1 + n ≤ 1000; omega) (by decide), ?_⟩
  rw [tx_app]
  exact h
  ) only [↓qt_eq])
noncomputable def P_lglued : Pr := fun ds A => ∃ ws : List (List Nat), ds = [strsD ws] ∧ ws.length ≤ 5000 ∧ wlen ws ≤ 99990 ∧ (∀ w ∈ ws, Wd1 w) ∧ ∀ (f : List Nat) (pre : List Tok1), toks f = pre ++ [([], f.length)] → pre.map (·.1) = ws → f.length ≤ 99990 → A (.ok (.tuple [.str (tx f), .list (pre.map fun t => .int (t.2 : Nat))]))
noncomputable def t__law_glued (K : Fg) : TS := (tSeq (tAsg (tC (V.str "")) (gName 1))
  (tSeq (tAsg (tLst tNil) (gName 2))
  (tSeq (tFor (iRng1 (tCons (tCB (rLenQ K) (tCons (tVar 0) tNil)) tNil)) (gName 3) (tSeq (tIfS (tAnd (tTest (tOp rGtI (tVar 3) (tC (V.int 0)))) (tAnd (tTest (tOp (rInT K true) (tOp (rIx K) (tVar 0) (tVar 3)) (tLst (tCons (tC (V.str "(")) (tCons (tC (V.str ")")) tNil))))) (tTest (tOp (rInT K true) (tOp (rIx K) (tVar 0) (tOp rSubI (tVar 3) (tC (V.int 1)))) (tLst (tCons (tC (V.str "(")) (tCons (tC (V.str ")")) tNil))))))) (tAsg (tOp rAddStr (tVar 1) (tC (V.str " "))) (gName 1)) tNext)
  (tSeq (tDrop (tBM K "list" rAppend (tVar 2) (tCons (tCB rLenS (tCons (tVar 1) tNil)) tNil)))
  (tAsg (tOp rAddStr (tVar 1) (tOp (rIx K) (tVar 0) (tVar 3))) (gName 1)))))
  (tRet (tTup (tCons (tVar 1) (tCons (tVar 2) tNil)))))))
-- slots of _law_glued: 0 _law_words_here, 1 _law_text_here, 2 _law_places, 3 _law_at
theorem ln__law_glued : ∀ ds A, P_lglued ds A → ds.length = 1 := fun ds A h => by obtain ⟨_, rfl, _⟩ := h; rfl
theorem rd__law_glued {ds A} (h : P_lglued ds A) : SW K cs W0 (t__law_glued K) (frame 4 ds) (rts0 A) := qt_of (by simp (disch := with_unfolding_all
  obtain ⟨ws, rfl, hn, hl, hw, h⟩ := h
  unfold t__law_glued
  have br : ∀ z : List Nat, decide (tx z ∈ (["(", ")"] : List Str)) = decide (isBr z) := fun z => by
    refine decide_eq_decide.mpr ?_
    rw [tx_op, tx_cl]
    simp only [List.mem_cons, List.not_mem_nil, or_false, tx_eq]
  have hm : ((ws.map tx).map PyData.str).length = ws.length := by rw [List.length_map, List.length_map]
  refine sw_seq ?_
  walk_at "s"
  refine sw_seq (sw_asgF (ef_lst0 ?_))
  refine sw_seq ?_
  show SW K cs W0 _ [.d (strsD ws), .d (.str ""), .ow (ol []), .un] _
  refine sw_for (iw_rng1 (aw_cons (ew_len (aw_cons (ew_var rfl (aw_nil ⟨_, _, rfl, rfl, aw_nil ⟨(ws.length : Int), by rw [hm], ⟨by omega, by omega⟩, ?_⟩⟩))))))
  rw [show ((ws.length : Int)).toNat = ws.length by omega]
  refine forN (fun i G => i ≤ ws.length ∧ ∃ (f : List Nat) (pre : List Tok1) (b : Prop) (e3 : En), Gpt f pre b ∧ pre.map (·.1) = ws.take i ∧ f.length ≤ wlen (ws.take i) ∧ (b ↔ (i = 0 ∨ ∃ z, ws[i - 1]? = some z ∧ isBr z)) ∧ G = [.d (strsD ws), .d (.str (tx f)), .ow (ol (pre.map fun t => .int (t.2 : Nat))), e3]) ⟨Nat.zero_le _, [], [], True, _, gpt_nil, rfl, Nat.le_refl _, ⟨fun _ => .inl rfl, fun _ => trivial⟩, by rw [← tx_none]; rfl⟩ ?_ ?_
  · rintro i _ il ⟨_, f, pre, b, e3, hg, hpm, hfl, hb, rfl⟩
    obtain ⟨y, hy⟩ : ∃ y, ws[i]? = some y := ⟨ws[i], List.getElem?_eq_getElem il⟩
    have hy1 := hw y (List.mem_of_getElem? hy)
    have at1 : atI ((ws.map tx).map PyData.str) (i : Int) = some (.str (tx y)) := atI_nat (by rw [List.getElem?_map, List.getElem?_map, hy]; rfl)
    have tk : ws.take (i + 1) = ws.take i ++ [y] := by rw [List.take_add_one, hy]; rfl
    have wt := wlen_take ws (i + 1)
    have wt2 : wlen (ws.take (i + 1)) = wlen (ws.take i) + (y.length + 1) := by rw [tk, wlen_app, wlen_cons, wlen_nil]
    have pl : pre.length = i := by
      have := congrArg List.length hpm
      rw [List.length_map, List.length_take] at this
      omega
    refine gw_name ?_
    show SW K cs W0 _ [.d (strsD ws), .d (.str (tx f)), .ow (ol (pre.map fun t => .int (t.2 : Nat))), .d (.int (i : Nat))] _
    refine sw_cut (fun G => ∃ k : Nat, k ≤ 1 ∧ (1 ≤ k ∨ b ∨ isBr y) ∧ G = [.d (strsD ws), .d (.str (tx (f ++ sps k))), .ow (ol (pre.map fun t => .int (t.2 : Nat))), .d (.int (i : Nat))]) ?_ ?_
    · have no : (b ∨ isBr y) → ∃ k : Nat, k ≤ 1 ∧ (1 ≤ k ∨ b ∨ isBr y) ∧ [En.d (strsD ws), .d (.str (tx f)), .ow (ol (pre.map fun t => PyData.int (t.2 : Nat))), .d (.int (i : Nat))] = [.d (strsD ws), .d (.str (tx (f ++ sps k))), .ow (ol (pre.map fun t => PyData.int (t.2 : Nat))), .d (.int (i : Nat))] := fun z => ⟨0, by decide, .inr z, by rw [show f ++ sps 0 = f from List.append_nil f]⟩
      walk_at "s"
      refine cnd_d (fun h0 => ?_) fun h0 => cnd_f ?_
      · obtain ⟨j, rfl⟩ : ∃ j, i = j + 1 := ⟨i - 1, by omega⟩
        obtain ⟨z, hz⟩ : ∃ z, ws[j]? = some z := ⟨ws[j], List.getElem?_eq_getElem (by omega)⟩
        have at0 : atI ((ws.map tx).map PyData.str) (((j + 1 : Nat) : Int) - 1) = some (.str (tx z)) := by
          rw [show ((j + 1 : Nat) : Int) - 1 = ((j : Nat) : Int) by omega]
          exact atI_nat (by rw [List.getElem?_map, List.getElem?_map, hz]; rfl)
        have bz : b ↔ isBr z := by
          rw [hb]
          constructor
          · rintro (q | ⟨z', q, r⟩)
            · omega
            · rw [Nat.add_sub_cancel, hz] at q
              cases q
              exact r
          · exact fun r => .inr ⟨z, by rw [Nat.add_sub_cancel]; exact hz, r⟩
        refine tw_and (tw_test (ew_inT (ew_ix (ew_var rfl ⟨_, rfl, ew_var rfl ⟨_, rfl, _, at1, _, rfl, ew_lst2 (ew_str (ew_str ⟨["(", ")"], rfl, _, rfl, ?_⟩))⟩⟩))))
        rw [if_pos rfl, br]
        refine cnd_nd (fun ny => ?_) fun yy => cnd_f ?_
        · refine tw_test (ew_inT (ew_ix (ew_var rfl ⟨_, rfl, ew_sub (ew_var rfl ⟨_, rfl, ew_int ⟨1, rfl, _, rfl, _, at0, _, rfl, ew_lst2 (ew_str (ew_str ⟨["(", ")"], rfl, _, rfl, ?_⟩))⟩⟩)⟩)))
          rw [if_pos rfl, br]
          refine cnd_nd (fun nz => ?_) fun zz => ?_
          · walk_at "w"
            refine ⟨by rw [tx_len]; exact Nat.le_trans (show f.length + 1 ≤ 200000 by omega) (by decide), ?_⟩
            rw [tx_blank, tx_app]
            exact ⟨_, rfl, 1, Nat.le_refl _, .inl (Nat.le_refl _), rfl⟩
          · walk_at "w"
            exact no (.inl (bz.mpr zz))
        · walk_at "w"
          exact no (.inr yy)
      · walk_at "w"
        exact no (.inl (hb.mpr (.inl (by omega))))
    · rintro _ ⟨k, hk, hkb, rfl⟩
      have lf : (f ++ sps k).length ≤ wlen (ws.take i) + 1 := by rw [List.length_append, List.length_replicate]; omega
      refine sw_seq (sw_app (i := 2) rfl (by rw [List.length_map]; omega) ?_)
      walk_at "w"
      refine ⟨_, rfl, by rw [tx_len]; exact Nat.le_trans (show (f ++ sps k).length ≤ 200000 by omega) (by decide), ?_⟩
      rw [tx_len]
      walk_at "w"
      refine ⟨_, at1, _, rfl, by rw [tx_len, tx_len]; exact Nat.le_trans (show (f ++ sps k).length + y.length ≤ 300000 by omega) (by decide), ?_⟩
      rw [tx_app]
      refine ⟨il, (f ++ sps k) ++ y, pre ++ [(y, f.length + k)], isBr y, .d (.int (i : Nat)), gpt_step hg hy1 hkb, by rw [List.map_append, hpm, tk]; rfl, by rw [wt2, List.length_append]; omega, ⟨fun q => .inr ⟨y, by rw [Nat.add_sub_cancel]; exact hy, q⟩, ?_⟩, ?_⟩
      · rintro (q | ⟨z', q, r⟩)
        · omega
        · rw [Nat.add_sub_cancel, hy] at q
          cases q
          exact r
      · rw [List.map_append, List.length_append, List.length_replicate]
        rfl
  · rintro _ ⟨_, f, pre, b, e3, hg, hpm, hfl, hb, rfl⟩
    rw [List.take_of_length_le (Nat.le_refl _)] at hpm hfl
    have ge := gpt_end (k := 0) hg
    rw [show f ++ sps 0 = f from List.append_nil f] at ge
    refine sw_freeze (i := 2) rfl ?_
    walk_at "w"
    exact h f pre ge hpm (by omega)
  ) only [↓qt_eq])
end


end
end
namespace Law
local macro_rules | `(tactic| walk_at "sd") => `(tactic| first | with_reducible assumption | omega | rfl | decide | assumption | exact Gd.mono (by assumption) (by first | decide | omega) | (simp only [List.length_map, List.length_append, List.length_cons, List.length_nil]; omega) | (simp; done))
local macro_rules | `(tactic| walk_at "ca") => `(tactic| first
  | ((with_reducible apply c_pull); (case h0 => walk_at "sd"); (case h1 => walk_at "sd"); intro _ _ _)
  | ((with_reducible apply c_map); (case h1 => walk_at "sd"); (case h2 => walk_at "sd"); (case l1 => walk_at "sd"); (case l2 => walk_at "sd"); intro _ _))
local macro_rules | `(tactic| walk_at "keo") => `(tactic| first
  | with_reducible refine ew_add ?_
  | with_reducible refine ew_sub ?_
  | with_reducible refine ew_mul ?_
  | with_reducible refine ew_mod ?_
  | with_reducible refine ew_pow ?_
  | with_reducible refine ew_lt ?_
  | with_reducible refine ew_gt ?_
  | with_reducible refine ew_eq ?_
  | with_reducible refine ew_ne ?_
  | with_reducible refine ew_isNo ?_
  | with_reducible refine ew_noNo ?_
  | with_reducible refine ew_catL ?_
  | with_reducible refine ew_inS ?_
  | with_reducible refine ew_addStr ?_
  | with_reducible refine ew_inSg ?_
  | with_reducible refine ew_ixS ?_
  | with_reducible refine ew_inT ?_
  | with_reducible refine ew_mulT ?_
  | with_reducible refine ew_ix ?_)
local macro_rules | `(tactic| walk_at "keb") => `(tactic| first
  | ((with_reducible apply ew_lenO); (case hi => rfl))
  | ((with_reducible apply ew_tupO); (case hi => rfl))
  | with_reducible refine ew_min ?_
  | with_reducible refine ew_intB ?_
  | with_reducible refine ew_len ?_
  | with_reducible refine ew_list ?_
  | with_reducible refine ew_all ?_
  | with_reducible refine ew_isi ?_
  | with_reducible refine ew_lenS ?_
  | with_reducible refine ew_intS ?_
  | with_reducible refine ew_strI ?_)
local macro_rules | `(tactic| walk_at "kec") => `(tactic| first
  | ((with_reducible apply ew_glob); (case h => assumption))
  | with_reducible refine ew_int ?_
  | with_reducible refine ew_bl ?_
  | with_reducible refine ew_str ?_
  | with_reducible refine ew_non ?_)
local macro_rules | `(tactic| walk_at "kev") => `(tactic| first
  | ((with_reducible apply ew_var); (case h => rfl)))
local macro_rules | `(tactic| walk_at "kex") => `(tactic| first
  | ((with_reducible apply ew_callB); (case hi => rfl))
  | ((with_reducible apply ew_callWB); (case hi => rfl))
  | with_reducible refine ew_tup1 ?_
  | with_reducible refine ew_tup2 ?_
  | with_reducible refine ew_tup3 ?_
  | with_reducible refine ew_tup ?_
  | with_reducible refine ew_lst0 ?_
  | with_reducible refine ew_lst1 ?_
  | with_reducible refine ew_lst2 ?_
  | with_reducible refine ew_lst ?_
  | with_reducible refine ew_neg ?_
  | with_reducible refine ew_leLe ?_
  | with_reducible refine ew_andV ?_
  | with_reducible refine ew_if ?_
  | with_reducible refine ew_cP ?_
  | with_reducible refine ew_c0 ?_
  | with_reducible refine ew_cW ?_
  | with_reducible refine ew_slL ?_
  | with_reducible refine ew_slA ?_
  | with_reducible refine ew_lc ?_
  | with_reducible refine ew_slS ?_
  | with_reducible refine ew_partS ?_
  | with_reducible refine ew_joinS ?_
  | with_reducible refine ew_callNW ?_
  | with_reducible refine ew_callN ?_
  | with_reducible refine ew_callN0 ?_)
local macro_rules | `(tactic| walk_at "kew") => `(tactic| first
  | ((with_reducible show EW _ _ _ (tVar _) _ _ _); walk_at "kev")
  | ((with_reducible show EW _ _ _ (tOp _ _ _) _ _ _); walk_at "keo")
  | ((with_reducible show EW _ _ _ (tC _) _ _ _); walk_at "kec")
  | ((with_reducible show EW _ _ _ (tCB _ _) _ _ _); walk_at "keb")
  | walk_at "kex")
local macro_rules | `(tactic| walk_at "ksw") => `(tactic| first
  | ((with_reducible apply sw_app); (case hi => rfl); (case hl => walk_at "sd"))
  | ((with_reducible apply sw_clear); (case hi => rfl))
  | with_reducible refine sw_next ?_
  | with_reducible refine sw_if ?_
  | with_reducible refine sw_ret ?_
  | with_reducible refine sw_for ?_
  | with_reducible refine sw_try ?_
  | with_reducible refine sw_asg ?_
  | ((with_reducible apply sw_dset); (case hi => rfl))
  | ((with_reducible apply sw_setI); (case hi => rfl))
  | with_reducible refine sw_asgT ?_)
local macro_rules | `(tactic| walk_at "ktw") => `(tactic| first
  | with_reducible refine tw_test ?_
  | with_reducible refine tw_B ?_
  | with_reducible refine tw_yes ?_
  | with_reducible refine tw_not ?_
  | with_reducible refine tw_and ?_
  | with_reducible refine tw_or ?_)
local macro_rules | `(tactic| walk_at "kaw") => `(tactic| first
  | with_reducible refine aw_nil ?_
  | with_reducible refine aw_cons ?_)
local macro_rules | `(tactic| walk_at "kiw") => `(tactic| first
  | with_reducible refine iw_list ?_
  | with_reducible refine iw_tup ?_
  | with_reducible refine iw_rng1 ?_
  | with_reducible refine iw_str ?_
  | with_reducible refine iw_enumS ?_)
local macro_rules | `(tactic| walk_at "kow") => `(tactic| first
  | with_reducible refine ow_none ?_
  | with_reducible refine ow_some ?_)
local macro_rules | `(tactic| walk_at "km") => `(tactic| first
  | ((with_reducible apply x_all); (case h => exact allB_map))
  | ((with_reducible apply x_any); (case h => exact anyB_map))
  | ((with_reducible apply x_sum); (case h => exact sumI_map))
  | ((with_reducible apply cw_elt); (case hm => walk_at "sd"))
  | ((with_reducible apply x1_rng); (case hb => walk_at "sd"))
  | ((with_reducible apply x2_rng); (case hb => walk_at "sd"); (case hc => walk_at "sd"))
  | ((with_reducible apply at0); (case h => rfl))
  | ((with_reducible apply at1); (case h => rfl))
  | ((with_reducible apply xi_it); (case h => rfl))
  | ((with_reducible apply x1_it); (case h => rfl))
  | with_reducible refine sq_nx ?_
  | with_reducible refine sq_rt ?_
  | with_reducible refine lp_nx ?_
  | with_reducible refine gsw_nil ?_
  | with_reducible refine gsw_cons ?_
  | with_reducible refine rE_ok ?_
  | with_reducible refine xi_int ?_
  | with_reducible refine xi_bool ?_
  | with_reducible refine xi_str ?_
  | with_reducible refine xi_tup ?_
  | with_reducible refine xi_list ?_
  | with_reducible refine x1_int ?_
  | with_reducible refine x1_bool ?_
  | with_reducible refine x2_int ?_
  | with_reducible refine sc_int ?_
  | with_reducible refine sc_str ?_
  | with_reducible refine x_ol ?_
  | with_reducible refine x_nx ?_
  | with_reducible refine gw_name ?_
  | ((with_reducible refine gc_name ?wa ?_); (case wa => simp))
  | ((with_reducible refine gc_tup ?wa ?_); (case wa => rfl))
  | ((with_reducible refine gw_tup ?wa ?_); (case wa => rfl))
  | with_reducible refine cnd_t ?_
  | with_reducible refine cnd_f ?_
  | with_reducible refine cnd_nt ?_
  | with_reducible refine cnd_nf ?_
  | walk_at "ca"
  | ((with_reducible apply zip_f); (case hx => rfl); (case hy => rfl))
  | ((with_reducible apply zip_t); (case hx => rfl); (case hy => rfl); (case hl => walk_at "sd"))
  | refine gsw_cons ?_
  | refine gsc_cons ?_
  | refine gsw_nil ?_
  | refine gsc_nil ?_
  | with_reducible exact trivial)
local macro_rules | `(tactic| walk_at "s1") => `(tactic| first
  | ((with_reducible show EW _ _ _ _ _ _ _); walk_at "kew")
  | ((with_reducible show SW _ _ _ _ _ _); walk_at "ksw")
  | ((with_reducible show TW _ _ _ _ _ _ _); walk_at "ktw")
  | ((with_reducible show AW _ _ _ _ _ _ _); walk_at "kaw")
  | ((with_reducible show IW _ _ _ _ _ _ _); walk_at "kiw")
  | ((with_reducible show OW _ _ _ _ _ _ _); walk_at "kow")
  | walk_at "km")
local macro_rules | `(tactic| walk_at "w1") => `(tactic| first | ((with_reducible show SW _ _ _ _ _ _); first | walk_at "ksw" | with_reducible refine sw_seqA ?_ | with_reducible refine sw_seqD ?_ | with_reducible refine sw_seqF ?_ | with_reducible refine sw_seqP ?_ | with_reducible refine sw_seqG ?_ | with_reducible refine sw_seqW ?_) | walk_at "s1")
local macro_rules | `(tactic| walk_at "s") => `(tactic| repeat walk_at "s1")
local macro_rules | `(tactic| walk_at "ef") => `(tactic| first
  | with_reducible refine ef_lst0 ?_
  | with_reducible refine ef_lst1 ?_
  | with_reducible refine ef_lst2 ?_
  | with_reducible refine ef_lst ?_
  | with_reducible refine ef_lc ?_
  | with_reducible refine ef_list ?_
  | with_reducible refine ef_slL ?_
  | with_reducible refine ef_catL ?_)
local macro_rules | `(tactic| walk_at "wi") => `(tactic| repeat (first | walk_at "w1" | with_reducible refine sw_seq ?_))
local macro_rules | `(tactic| walk_at "w") => `(tactic| repeat walk_at "w1")
def topS (i : Nat) : Stmt := PySem.Challenge.pw_umbrage_k53_texts_that_are_none.main.body.getD i (.Pass ⟨0, 0, 0, 0⟩)
def clsS (i j : Nat) : Stmt := match topS i with | .ClassDef _ _ _ b _ _ _ _ _ _ _ => b.getD j (.Pass ⟨0, 0, 0, 0⟩) | _ => .Pass ⟨0, 0, 0, 0⟩
abbrev si_Unfit : Stmt := clsS 1 0
theorem sci_Unfit : FnScope ["self", "word"] ["self", "word"] (defScope si_Unfit) := ⟨rfl, rfl, rfl, by decide +kernel, rfl, by decide +kernel, by decide +kernel⟩
abbrev si_Unread : Stmt := clsS 2 0
theorem sci_Unread : FnScope ["self", "at"] ["self", "at"] (defScope si_Unread) := ⟨rfl, rfl, rfl, by decide +kernel, rfl, by decide +kernel, by decide +kernel⟩
abbrev si_BadRow : Stmt := clsS 3 0
theorem sci_BadRow : FnScope ["self", "at"] ["self", "at"] (defScope si_BadRow) := ⟨rfl, rfl, rfl, by decide +kernel, rfl, by decide +kernel, by decide +kernel⟩
abbrev s__law_bag : Stmt := topS 21
theorem sc__law_bag : FnScope ["_law_script"] ["_law_script"] (defScope s__law_bag) := ⟨rfl, rfl, rfl, by decide +kernel, rfl, by decide +kernel, by decide +kernel⟩
abbrev s__law_pull : Stmt := topS 22
theorem sc__law_pull : FnScope ["_law_bag_here", "_law_size", "_law_cells", "_law_cell", "_law_spot"] ["_law_bag_here", "_law_size"] (defScope s__law_pull) := ⟨rfl, rfl, rfl, by decide +kernel, rfl, by decide +kernel, by decide +kernel⟩
abbrev s__law_gcd : Stmt := topS 24
theorem sc__law_gcd : FnScope ["_law_one", "_law_other", "_law_kept"] ["_law_one", "_law_other"] (defScope s__law_gcd) := ⟨rfl, rfl, rfl, by decide +kernel, rfl, by decide +kernel, by decide +kernel⟩
abbrev s__law_frac : Stmt := topS 25
theorem sc__law_frac : FnScope ["_law_above", "_law_below", "_law_divisor"] ["_law_above", "_law_below"] (defScope s__law_frac) := ⟨rfl, rfl, rfl, by decide +kernel, rfl, by decide +kernel, by decide +kernel⟩
abbrev s__law_part : Stmt := topS 26
theorem sc__law_part : FnScope ["_law_bag_here"] ["_law_bag_here"] (defScope s__law_part) := ⟨rfl, rfl, rfl, by decide +kernel, rfl, by decide +kernel, by decide +kernel⟩
abbrev s__law_whole_part : Stmt := topS 27
theorem sc__law_whole_part : FnScope ["_law_bag_here"] ["_law_bag_here"] (defScope s__law_whole_part) := ⟨rfl, rfl, rfl, by decide +kernel, rfl, by decide +kernel, by decide +kernel⟩
abbrev s__law_entry : Stmt := topS 29
theorem sc__law_entry : FnScope ["_law_bag_here"] ["_law_bag_here"] (defScope s__law_entry) := ⟨rfl, rfl, rfl, by decide +kernel, rfl, by decide +kernel, by decide +kernel⟩
abbrev s__law_map : Stmt := topS 28
theorem sc__law_map : FnScope ["_law_bag_here", "_law_start", "_law_goal", "_law_row", "_law_at"] ["_law_bag_here", "_law_start", "_law_goal"] (defScope s__law_map) := ⟨rfl, rfl, rfl, by decide +kernel, rfl, by decide +kernel, by decide +kernel⟩
abbrev s__law_tree : Stmt := topS 30
theorem sc__law_tree : FnScope ["_law_bag_here", "_law_deep", "_law_names", "_law_kind", "_law_word", "_law_number", "_law_table"] ["_law_bag_here", "_law_deep", "_law_names"] (defScope s__law_tree) := ⟨rfl, rfl, rfl, by decide +kernel, rfl, by decide +kernel, by decide +kernel⟩
abbrev s__law_words : Stmt := topS 34
theorem sc__law_words : FnScope ["_law_text_here"] ["_law_text_here"] (defScope s__law_words) := ⟨rfl, rfl, rfl, by decide +kernel, rfl, by decide +kernel, by decide +kernel⟩
abbrev s__law_glued : Stmt := topS 37
theorem sc__law_glued : FnScope ["_law_words_here", "_law_text_here", "_law_places", "_law_at"] ["_law_words_here"] (defScope s__law_glued) := ⟨rfl, rfl, rfl, by decide +kernel, rfl, by decide +kernel, by decide +kernel⟩
abbrev s__law_inner : Stmt := topS 32
theorem sc__law_inner : FnScope ["_law_tree_here"] ["_law_tree_here"] (defScope s__law_inner) := ⟨rfl, rfl, rfl, by decide +kernel, rfl, by decide +kernel, by decide +kernel⟩
abbrev s__law_part_text : Stmt := topS 31
theorem sc__law_part_text : FnScope ["_law_one"] ["_law_one"] (defScope s__law_part_text) := ⟨rfl, rfl, rfl, by decide +kernel, rfl, by decide +kernel, by decide +kernel⟩
abbrev s__law_text : Stmt := topS 33
theorem sc__law_text : FnScope ["_law_tree_here", "_law_words_here", "_law_row", "_law_inner_here", "_law_one"] ["_law_tree_here"] (defScope s__law_text) := ⟨rfl, rfl, rfl, by decide +kernel, rfl, by decide +kernel, by decide +kernel⟩
abbrev s__law_like : Stmt := topS 23
theorem sc__law_like : FnScope ["_law_found", "_law_due", "_law_at"] ["_law_found", "_law_due"] (defScope s__law_like) := ⟨rfl, rfl, rfl, by decide +kernel, rfl, by decide +kernel, by decide +kernel⟩
abbrev s_Reading_taken : Stmt := clsS 18 3
theorem sc_Reading_taken : FnScope ["self", "fits", "word", "place"] ["self", "fits"] (defScope s_Reading_taken) := ⟨rfl, rfl, rfl, by decide +kernel, rfl, by decide +kernel, by decide +kernel⟩
abbrev s_Reading_seen : Stmt := clsS 18 1
theorem sc_Reading_seen : FnScope ["self", "ahead"] ["self", "ahead"] (defScope s_Reading_seen) := ⟨rfl, rfl, rfl, by decide +kernel, rfl, by decide +kernel, by decide +kernel⟩
abbrev s_figures_of : Stmt := topS 7
theorem sc_figures_of : FnScope ["text", "most", "sign"] ["text", "most"] (defScope s_figures_of) := ⟨rfl, rfl, rfl, by decide +kernel, rfl, by decide +kernel, by decide +kernel⟩
abbrev s_whole_in : Stmt := topS 8
theorem sc_whole_in : FnScope ["text", "most", "found"] ["text", "most"] (defScope s_whole_in) := ⟨rfl, rfl, rfl, by decide +kernel, rfl, by decide +kernel, by decide +kernel⟩
abbrev s_Reading_number : Stmt := clsS 18 4
theorem sc_Reading_number : FnScope ["self", "found"] ["self"] (defScope s_Reading_number) := ⟨rfl, rfl, rfl, by decide +kernel, rfl, by decide +kernel, by decide +kernel⟩
abbrev s_shared : Stmt := topS 6
theorem sc_shared : FnScope ["one", "other"] ["one", "other"] (defScope s_shared) := ⟨rfl, rfl, rfl, by decide +kernel, rfl, by decide +kernel, by decide +kernel⟩
abbrev s_part_in : Stmt := topS 9
theorem sc_part_in : FnScope ["text", "most", "above", "below", "first", "stroke", "second"] ["text", "most"] (defScope s_part_in) := ⟨rfl, rfl, rfl, by decide +kernel, rfl, by decide +kernel, by decide +kernel⟩
abbrev s_Reading_row : Stmt := clsS 18 5
theorem sc_Reading_row : FnScope ["self", "size", "found", "one"] ["self", "size"] (defScope s_Reading_row) := ⟨rfl, rfl, rfl, by decide +kernel, rfl, by decide +kernel, by decide +kernel⟩
abbrev s_Reading_way : Stmt := clsS 18 6
theorem sc_Reading_way : FnScope ["self", "first"] ["self"] (defScope s_Reading_way) := ⟨rfl, rfl, rfl, by decide +kernel, rfl, by decide +kernel, by decide +kernel⟩
abbrev s_is_name : Stmt := topS 16
theorem sc_is_name : FnScope ["thing", "sign"] ["thing"] (defScope s_is_name) := ⟨rfl, rfl, rfl, by decide +kernel, rfl, by decide +kernel, by decide +kernel⟩
abbrev s_Reading_tree : Stmt := clsS 18 7
theorem sc_Reading_tree : FnScope ["self", "deep", "word", "first", "found", "front"] ["self", "deep"] (defScope s_Reading_tree) := ⟨rfl, rfl, rfl, by decide +kernel, rfl, by decide +kernel, by decide +kernel⟩
abbrev s_tokens_of : Stmt := topS 17
theorem sc_tokens_of : FnScope ["text", "found", "word", "at", "sign"] ["text"] (defScope s_tokens_of) := ⟨rfl, rfl, rfl, by decide +kernel, rfl, by decide +kernel, by decide +kernel⟩
abbrev s_Reading___init__ : Stmt := clsS 18 0
theorem sc_Reading___init__ : FnScope ["self", "text"] ["self", "text"] (defScope s_Reading___init__) := ⟨rfl, rfl, rfl, by decide +kernel, rfl, by decide +kernel, by decide +kernel⟩
abbrev s_read : Stmt := topS 19
theorem sc_read : FnScope ["text", "reading", "found"] ["text"] (defScope s_read) := ⟨rfl, rfl, rfl, by decide +kernel, rfl, by decide +kernel, by decide +kernel⟩
abbrev s__law_told : Stmt := topS 35
theorem sc__law_told : FnScope ["_law_text_here", "why"] ["_law_text_here"] (defScope s__law_told) := ⟨rfl, rfl, rfl, by decide +kernel, rfl, by decide +kernel, by decide +kernel⟩
abbrev s__law_deep_text : Stmt := topS 38
theorem sc__law_deep_text : FnScope ["_law_many"] ["_law_many"] (defScope s__law_deep_text) := ⟨rfl, rfl, rfl, by decide +kernel, rfl, by decide +kernel, by decide +kernel⟩
abbrev s__law_placed : Stmt := topS 36
theorem sc__law_placed : FnScope ["_law_words_here", "_law_at"] ["_law_words_here", "_law_at"] (defScope s__law_placed) := ⟨rfl, rfl, rfl, by decide +kernel, rfl, by decide +kernel, by decide +kernel⟩
abbrev s_law : Stmt := topS 39
theorem sc_law : FnScope ["_law_script", "_law_bag_here", "_law_tree_here", "_law_words_here", "_law_at", "_law_bad", "_law_spoilt", "_law_cut", "_law_more", "_law_whole", "_law_many", "_law_odds", "_law_turn", "_law_glued_here", "_law_places", "_law_text_here", "_law_due"] ["_law_script"] (defScope s_law) := ⟨rfl, rfl, rfl, by decide +kernel, rfl, by decide +kernel, by decide +kernel⟩
set_option genInjectivity false
set_option genSizeOf false
structure TX (K : Fg) (mg : Str → Option Value) where
  cs : Cs
  co_Reading : ClsO K (cs "Reading") ["tokens", "spent"]
  mkA_Reading : Addr
  mk_Reading : Mk K (cs "Reading") mkA_Reading
  g_Reading : mg "Reading" = some (.ref (cs "Reading"))
  ox_Unfit : OxK K (cs "Unfit")
  kC_Unfit : PySem.W.keepIn K (.ref (cs "Unfit")) = true
  fI_Unfit : Addr
  dI_Unfit : FuncData
  FI_Unfit : FunD K "__init__" "Unfit.__init__" (defArgs si_Unfit) (defBody si_Unfit) (defScope si_Unfit) [V.str "Unfit"] [] fI_Unfit dI_Unfit
  i_Unfit : PySem.W.findIn K (.ref (cs "Unfit")) "__init__" = some (some (.ref fI_Unfit))
  ti_Unfit : PySem.W.typeIn K (.ref fI_Unfit) = some (.type "function")
  bi_Unfit : Binds K dI_Unfit ["self", "word"] []
  g_Unfit : mg "Unfit" = some (.ref (cs "Unfit"))
  xf_Unfit : XfC K (cs "Unfit")
  nw_Unfit_word : PySem.W.findIn K (.ref (cs "Unfit")) "word" = some none
  cf_Unfit : ClsF K cs "Unfit" ["word"]
  rd_Unfit : PySem.W.readsIn K (cs "Unfit") (.type "type") = true
  ga_Unfit : PySem.W.specialIn K (.ref (cs "Unfit")) "__getattribute__" = some (some (.builtin "type.__getattribute__"))
  fc_Unfit : PySem.W.findCls K (.ref (cs "Unfit")) (.type "type") "__init__" = some (.val (.ref fI_Unfit))
  ox_Unread : OxK K (cs "Unread")
  kC_Unread : PySem.W.keepIn K (.ref (cs "Unread")) = true
  fI_Unread : Addr
  dI_Unread : FuncData
  FI_Unread : Fun K "__init__" "Unread.__init__" si_Unread fI_Unread dI_Unread
  i_Unread : PySem.W.findIn K (.ref (cs "Unread")) "__init__" = some (some (.ref fI_Unread))
  ti_Unread : PySem.W.typeIn K (.ref fI_Unread) = some (.type "function")
  bi_Unread : Binds K dI_Unread ["self", "at"] []
  g_Unread : mg "Unread" = some (.ref (cs "Unread"))
  xf_Unread : XfC K (cs "Unread")
  nw_Unread_word : PySem.W.findIn K (.ref (cs "Unread")) "word" = some none
  nw_Unread_at : PySem.W.findIn K (.ref (cs "Unread")) "at" = some none
  cf_Unread : ClsF K cs "Unread" ["word", "at"]
  ox_BadRow : OxK K (cs "BadRow")
  kC_BadRow : PySem.W.keepIn K (.ref (cs "BadRow")) = true
  fI_BadRow : Addr
  dI_BadRow : FuncData
  FI_BadRow : Fun K "__init__" "BadRow.__init__" si_BadRow fI_BadRow dI_BadRow
  i_BadRow : PySem.W.findIn K (.ref (cs "BadRow")) "__init__" = some (some (.ref fI_BadRow))
  ti_BadRow : PySem.W.typeIn K (.ref fI_BadRow) = some (.type "function")
  bi_BadRow : Binds K dI_BadRow ["self", "at"] []
  g_BadRow : mg "BadRow" = some (.ref (cs "BadRow"))
  xf_BadRow : XfC K (cs "BadRow")
  nw_BadRow_word : PySem.W.findIn K (.ref (cs "BadRow")) "word" = some none
  nw_BadRow_at : PySem.W.findIn K (.ref (cs "BadRow")) "at" = some none
  cf_BadRow : ClsF K cs "BadRow" ["word", "at"]
  em_Unread_Unread : PySem.W.exmOne K (.ref (cs "Unread")) (.ref (cs "Unread")) = some true
  is_Unread : IsX K (cs "Unread")
  ko_Unread_BadRow : PySem.W.kitOne K (.ref (cs "Unread")) (.ref (cs "BadRow")) = some false
  ko_Unread_Unfit : PySem.W.kitOne K (.ref (cs "Unread")) (.ref (cs "Unfit")) = some true
  a__law_bag : Addr
  d__law_bag : FuncData
  F__law_bag : Fun K "_law_bag" "_law_bag" s__law_bag a__law_bag d__law_bag
  g__law_bag : mg "_law_bag" = some (.ref a__law_bag)
  b__law_bag : Binds K d__law_bag ["_law_script"] []
  a__law_pull : Addr
  d__law_pull : FuncData
  F__law_pull : Fun K "_law_pull" "_law_pull" s__law_pull a__law_pull d__law_pull
  g__law_pull : mg "_law_pull" = some (.ref a__law_pull)
  b__law_pull : Binds K d__law_pull ["_law_bag_here", "_law_size"] []
  a__law_gcd : Addr
  d__law_gcd : FuncData
  F__law_gcd : Fun K "_law_gcd" "_law_gcd" s__law_gcd a__law_gcd d__law_gcd
  g__law_gcd : mg "_law_gcd" = some (.ref a__law_gcd)
  b__law_gcd : Binds K d__law_gcd ["_law_one", "_law_other"] []
  a__law_frac : Addr
  d__law_frac : FuncData
  F__law_frac : Fun K "_law_frac" "_law_frac" s__law_frac a__law_frac d__law_frac
  g__law_frac : mg "_law_frac" = some (.ref a__law_frac)
  b__law_frac : Binds K d__law_frac ["_law_above", "_law_below"] []
  a__law_part : Addr
  d__law_part : FuncData
  F__law_part : Fun K "_law_part" "_law_part" s__law_part a__law_part d__law_part
  g__law_part : mg "_law_part" = some (.ref a__law_part)
  b__law_part : Binds K d__law_part ["_law_bag_here"] []
  a__law_whole_part : Addr
  d__law_whole_part : FuncData
  F__law_whole_part : Fun K "_law_whole_part" "_law_whole_part" s__law_whole_part a__law_whole_part d__law_whole_part
  g__law_whole_part : mg "_law_whole_part" = some (.ref a__law_whole_part)
  b__law_whole_part : Binds K d__law_whole_part ["_law_bag_here"] []
  a__law_entry : Addr
  d__law_entry : FuncData
  F__law_entry : Fun K "_law_entry" "_law_entry" s__law_entry a__law_entry d__law_entry
  g__law_entry : mg "_law_entry" = some (.ref a__law_entry)
  b__law_entry : Binds K d__law_entry ["_law_bag_here"] []
  a__law_map : Addr
  d__law_map : FuncData
  F__law_map : Fun K "_law_map" "_law_map" s__law_map a__law_map d__law_map
  g__law_map : mg "_law_map" = some (.ref a__law_map)
  b__law_map : Binds K d__law_map ["_law_bag_here", "_law_start", "_law_goal"] []
  a__law_tree : Addr
  d__law_tree : FuncData
  F__law_tree : Fun K "_law_tree" "_law_tree" s__law_tree a__law_tree d__law_tree
  g__law_tree : mg "_law_tree" = some (.ref a__law_tree)
  b__law_tree : Binds K d__law_tree ["_law_bag_here", "_law_deep", "_law_names"] []
  a__law_words : Addr
  d__law_words : FuncData
  F__law_words : Fun K "_law_words" "_law_words" s__law_words a__law_words d__law_words
  g__law_words : mg "_law_words" = some (.ref a__law_words)
  b__law_words : Binds K d__law_words ["_law_text_here"] []
  a__law_glued : Addr
  d__law_glued : FuncData
  F__law_glued : Fun K "_law_glued" "_law_glued" s__law_glued a__law_glued d__law_glued
  g__law_glued : mg "_law_glued" = some (.ref a__law_glued)
  b__law_glued : Binds K d__law_glued ["_law_words_here"] []
  a__law_inner : Addr
  d__law_inner : FuncData
  F__law_inner : Fun K "_law_inner" "_law_inner" s__law_inner a__law_inner d__law_inner
  g__law_inner : mg "_law_inner" = some (.ref a__law_inner)
  b__law_inner : Binds K d__law_inner ["_law_tree_here"] []
  a__law_part_text : Addr
  d__law_part_text : FuncData
  F__law_part_text : Fun K "_law_part_text" "_law_part_text" s__law_part_text a__law_part_text d__law_part_text
  g__law_part_text : mg "_law_part_text" = some (.ref a__law_part_text)
  b__law_part_text : Binds K d__law_part_text ["_law_one"] []
  a__law_text : Addr
  d__law_text : FuncData
  F__law_text : Fun K "_law_text" "_law_text" s__law_text a__law_text d__law_text
  g__law_text : mg "_law_text" = some (.ref a__law_text)
  b__law_text : Binds K d__law_text ["_law_tree_here"] []
  a__law_like : Addr
  d__law_like : FuncData
  F__law_like : Fun K "_law_like" "_law_like" s__law_like a__law_like d__law_like
  g__law_like : mg "_law_like" = some (.ref a__law_like)
  b__law_like : Binds K d__law_like ["_law_found", "_law_due"] []
  a_Reading_taken : Addr
  d_Reading_taken : FuncData
  F_Reading_taken : Fun K "taken" "Reading.taken" s_Reading_taken a_Reading_taken d_Reading_taken
  me_Reading_taken : Meth K (cs "Reading") "taken" a_Reading_taken
  b_Reading_taken : Binds K d_Reading_taken ["self", "fits"] []
  a_Reading_seen : Addr
  d_Reading_seen : FuncData
  F_Reading_seen : FunD K "seen" "Reading.seen" (defArgs s_Reading_seen) (defBody s_Reading_seen) (defScope s_Reading_seen) [V.int 0] [] a_Reading_seen d_Reading_seen
  me_Reading_seen : Meth K (cs "Reading") "seen" a_Reading_seen
  b_Reading_seen : Binds K d_Reading_seen ["self", "ahead"] []
  e1_Reading_seen : List Value
  v1_Reading_seen : Vals [V.int 0] e1_Reading_seen
  b1_Reading_seen : Binds K d_Reading_seen ["self", "ahead"] e1_Reading_seen
  a_figures_of : Addr
  d_figures_of : FuncData
  F_figures_of : Fun K "figures_of" "figures_of" s_figures_of a_figures_of d_figures_of
  g_figures_of : mg "figures_of" = some (.ref a_figures_of)
  b_figures_of : Binds K d_figures_of ["text", "most"] []
  a_whole_in : Addr
  d_whole_in : FuncData
  F_whole_in : FunD K "whole_in" "whole_in" (defArgs s_whole_in) (defBody s_whole_in) (defScope s_whole_in) [] [("most", V.int 40)] a_whole_in d_whole_in
  g_whole_in : mg "whole_in" = some (.ref a_whole_in)
  kb_whole_in : KBn K d_whole_in ["text", "most"] 1 ["most"] (fun us ws => us ++ ws) (fun vs zs => vs ++ zs)
  e1_whole_in : List Value
  v1_whole_in : Vals [V.int 40] e1_whole_in
  b1_whole_in : Binds K d_whole_in ["text", "most"] e1_whole_in
  a_Reading_number : Addr
  d_Reading_number : FuncData
  F_Reading_number : Fun K "number" "Reading.number" s_Reading_number a_Reading_number d_Reading_number
  me_Reading_number : Meth K (cs "Reading") "number" a_Reading_number
  b_Reading_number : Binds K d_Reading_number ["self"] []
  a_shared : Addr
  d_shared : FuncData
  F_shared : Fun K "shared" "shared" s_shared a_shared d_shared
  g_shared : mg "shared" = some (.ref a_shared)
  b_shared : Binds K d_shared ["one", "other"] []
  a_part_in : Addr
  d_part_in : FuncData
  F_part_in : FunD K "part_in" "part_in" (defArgs s_part_in) (defBody s_part_in) (defScope s_part_in) [] [("most", V.int 40)] a_part_in d_part_in
  g_part_in : mg "part_in" = some (.ref a_part_in)
  kb_part_in : KBn K d_part_in ["text", "most"] 1 ["most"] (fun us ws => us ++ ws) (fun vs zs => vs ++ zs)
  e1_part_in : List Value
  v1_part_in : Vals [V.int 40] e1_part_in
  b1_part_in : Binds K d_part_in ["text", "most"] e1_part_in
  a_Reading_row : Addr
  d_Reading_row : FuncData
  F_Reading_row : Fun K "row" "Reading.row" s_Reading_row a_Reading_row d_Reading_row
  me_Reading_row : Meth K (cs "Reading") "row" a_Reading_row
  b_Reading_row : Binds K d_Reading_row ["self", "size"] []
  a_Reading_way : Addr
  d_Reading_way : FuncData
  F_Reading_way : Fun K "way" "Reading.way" s_Reading_way a_Reading_way d_Reading_way
  me_Reading_way : Meth K (cs "Reading") "way" a_Reading_way
  b_Reading_way : Binds K d_Reading_way ["self"] []
  a_is_name : Addr
  d_is_name : FuncData
  F_is_name : Fun K "is_name" "is_name" s_is_name a_is_name d_is_name
  g_is_name : mg "is_name" = some (.ref a_is_name)
  b_is_name : Binds K d_is_name ["thing"] []
  a_Reading_tree : Addr
  d_Reading_tree : FuncData
  F_Reading_tree : FunD K "tree" "Reading.tree" (defArgs s_Reading_tree) (defBody s_Reading_tree) (defScope s_Reading_tree) [V.int 0] [] a_Reading_tree d_Reading_tree
  me_Reading_tree : Meth K (cs "Reading") "tree" a_Reading_tree
  b_Reading_tree : Binds K d_Reading_tree ["self", "deep"] []
  e1_Reading_tree : List Value
  v1_Reading_tree : Vals [V.int 0] e1_Reading_tree
  b1_Reading_tree : Binds K d_Reading_tree ["self", "deep"] e1_Reading_tree
  a_tokens_of : Addr
  d_tokens_of : FuncData
  F_tokens_of : Fun K "tokens_of" "tokens_of" s_tokens_of a_tokens_of d_tokens_of
  g_tokens_of : mg "tokens_of" = some (.ref a_tokens_of)
  b_tokens_of : Binds K d_tokens_of ["text"] []
  d_Reading___init__ : FuncData
  F_Reading___init__ : Fun K "__init__" "Reading.__init__" s_Reading___init__ mkA_Reading d_Reading___init__
  b_Reading___init__ : Binds K d_Reading___init__ ["self", "text"] []
  a_read : Addr
  d_read : FuncData
  F_read : Fun K "read" "read" s_read a_read d_read
  g_read : mg "read" = some (.ref a_read)
  b_read : Binds K d_read ["text"] []
  a__law_told : Addr
  d__law_told : FuncData
  F__law_told : Fun K "_law_told" "_law_told" s__law_told a__law_told d__law_told
  g__law_told : mg "_law_told" = some (.ref a__law_told)
  b__law_told : Binds K d__law_told ["_law_text_here"] []
  a__law_deep_text : Addr
  d__law_deep_text : FuncData
  F__law_deep_text : Fun K "_law_deep_text" "_law_deep_text" s__law_deep_text a__law_deep_text d__law_deep_text
  g__law_deep_text : mg "_law_deep_text" = some (.ref a__law_deep_text)
  b__law_deep_text : Binds K d__law_deep_text ["_law_many"] []
  a__law_placed : Addr
  d__law_placed : FuncData
  F__law_placed : Fun K "_law_placed" "_law_placed" s__law_placed a__law_placed d__law_placed
  g__law_placed : mg "_law_placed" = some (.ref a__law_placed)
  b__law_placed : Binds K d__law_placed ["_law_words_here", "_law_at"] []
  n_abs : mg "abs" = none
  n_all : mg "all" = none
  n_bool : mg "bool" = none
  n_enumerate : mg "enumerate" = none
  n_int : mg "int" = none
  n_isinstance : mg "isinstance" = none
  n_len : mg "len" = none
  n_list : mg "list" = none
  n_max : mg "max" = none
  n_min : mg "min" = none
  n_range : mg "range" = none
  n_str : mg "str" = none
  n_tuple : mg "tuple" = none
  gs : Gs
  tk_DEEP : Tok
  c_DEEP : mg "DEEP" = some (Value.int 12 tk_DEEP)
  tk_LETTERS : Tok
  c_LETTERS : mg "LETTERS" = some (Value.str "abcdefghijklmnopqrstuvwxyz" tk_LETTERS)
  tk_LONG : Tok
  c_LONG : mg "LONG" = some (Value.int 18 tk_LONG)
  u_PAIRS : Value
  c_PAIRS : mg "PAIRS" = some u_PAIRS
  r_PAIRS : RelV (gs "PAIRS") u_PAIRS
  gd_PAIRS : ∀ H, Dp K H (gs "PAIRS") (pairsD)
  u_WORDS : Value
  c_WORDS : mg "WORDS" = some u_WORDS
  r_WORDS : RelV (gs "WORDS") u_WORDS
  gd_WORDS : ∀ H, Dp K H (gs "WORDS") (wordsD)
section
variable {Pg : Program} {w : World} {K : Fg} {mg : Str → Option Value} {base : Heap} {cs : Cs} {gs : Gs}
theorem ok_Unfit (T : TX K mg) : FnOk Pg w K mg base CX0 1 T.fI_Unfit T.dI_Unfit ["self", "word"] (spIn K ["word"] gWd) :=
  okWd T.FI_Unfit sci_Unfit (fun cdv A outer sh H E => (pss_one (ps_ox (pv 0) (pv 1))))
theorem ok_Unread (T : TX K mg) : FnOk Pg w K mg base CX0 2 T.fI_Unread T.dI_Unread ["self", "at"] (spIn K ["word", "at"] (gAt "Unread")) :=
  okAt "Unread" T.FI_Unread sci_Unread (fun cdv A outer sh H E hr => (pss_cons (ps_expr (pe_up (by rfl) T.g_Unfit T.rd_Unfit T.ga_Unfit T.fc_Unfit T.FI_Unfit.kp (ok_Unfit T) (hr.mono (by decide)) T.bi_Unfit .nil pass0 (pa_cons (pv 0) (pa_cons pe_str pa_nil)))) (pss_one (ps_ox (pv 0) (pv 1)))))
theorem ok_BadRow (T : TX K mg) : FnOk Pg w K mg base CX0 2 T.fI_BadRow T.dI_BadRow ["self", "at"] (spIn K ["word", "at"] (gAt "BadRow")) :=
  okAt "BadRow" T.FI_BadRow sci_BadRow (fun cdv A outer sh H E hr => (pss_cons (ps_expr (pe_up (by rfl) T.g_Unfit T.rd_Unfit T.ga_Unfit T.fc_Unfit T.FI_Unfit.kp (ok_Unfit T) (hr.mono (by decide)) T.bi_Unfit .nil pass0 (pa_cons (pv 0) (pa_cons pe_str pa_nil)))) (pss_one (ps_ox (pv 0) (pv 1)))))
theorem ok__law_bag (T : TX K mg) : FnOk Pg w K mg base CX0 1 T.a__law_bag T.d__law_bag ["_law_script"] (spBag K) := qt_of (by simp (disch := with_unfolding_all
  refine T.F__law_bag.ok sc__law_bag (fun vs H Q E h => ?_) (fun cdv A outer sh H vs Q E hr h => ?_)
  · obtain ⟨W, ns, _, hd, _⟩ := h
    exact dpa_len hd
  · obtain ⟨W, ns, hW, hd, hl, q⟩ := h
    obtain ⟨v, rfl, dv⟩ := dp1 hd
    exact ⟨t__law_bag K, (pss_one (ps_ret (pe_lst (pa_cons (pe_callTy c_list (by rfl) T.n_list (by decide +kernel) (pa_cons (pe_slice sl_list (pv 0) po_none (po_some pe_int)) pa_nil)) (pa_cons pe_int (pa_cons pe_int pa_nil)))))), rd__law_bag dv hl q⟩
  ) only [↓qt_eq])
theorem ok__law_pull (T : TX K mg) : FnOk Pg w K mg base CX0 1 T.a__law_pull T.d__law_pull ["_law_bag_here", "_law_size"] (spB K P_pull) := qt_of (by simp (disch := with_unfolding_all
  refine T.F__law_pull.ok sc__law_pull (fun vs H Q E h => ?_) (fun cdv A outer sh H vs Q E hr h => ?_)
  · obtain ⟨W, b, c, us, s, ds, r, s', _, rfl, _, hd, hp, _⟩ := h
    rw [List.length_cons, dpa_len hd]
    exact ln__law_pull s ds r s' hp
  · obtain ⟨W, b, c, us, s, ds, r, s', hW, rfl, hB, hd, ⟨n, rfl, h0, h1, rfl, rfl⟩, q⟩ := h
    obtain ⟨v, rfl, dv⟩ := dp1 hd
    cases dv
    exact ⟨t__law_pull K, (pss_cons (ps_set (i := 2) sc__law_pull.nd rfl (by first | exact Or.inl rfl | exact Or.inr rfl) (pe_ix ix_seq (pv 0) pe_int (fun _ _ => rfl)))
      (pss_cons (ps_set (i := 3) sc__law_pull.nd rfl (by first | exact Or.inl rfl | exact Or.inr rfl) pe_int)
      (pss_cons (ps_if (pt_cmpR op_gt (pe_callB c_len (by rfl) T.n_len PySem.boot_len (pa_cons (pv 2) pa_nil)) pe_int (nomark _)) (pss_cons (ps_set (i := 4) sc__law_pull.nd rfl (by first | exact Or.inl rfl | exact Or.inr rfl) (pe_op op_modX (pe_ix ix_seq (pv 0) pe_int (fun _ _ => rfl)) (pe_callB c_len (by rfl) T.n_len PySem.boot_len (pa_cons (pv 2) pa_nil))))
      (pss_cons (ps_set (i := 3) sc__law_pull.nd rfl (by first | exact Or.inl rfl | exact Or.inr rfl) (pe_ix ix_seq (pv 2) (pv 4) (fun _ _ => rfl)))
      (pss_one (ps_if (pt_cmpR op_ge (pe_callB c_abs (by rfl) T.n_abs (by decide +kernel) (pa_cons (pv 3) pa_nil)) (pe_op op_pow pe_int pe_int) (nomark _)) (pss_cons (ps_asg (pe_op op_fdivX (pv 3) (pv 1)) (pg_sub (pv 2) (pv 4) set_list))
      (pss_one (ps_ret (pe_op op_modX (pv 3) (pv 1))))) pss_nil)))) pss_nil)
      (pss_cons (ps_asg (pe_op op_add (pe_ix ix_seq (pv 0) pe_int (fun _ _ => rfl)) pe_int) (pg_sub (pv 0) pe_int set_list))
      (pss_cons (ps_asg (pe_op op_modX (pe_op op_add (pe_op op_add (pe_op op_mulW (pe_ix ix_seq (pv 0) pe_int (fun _ _ => rfl)) pe_int) (pe_op op_modX (pv 3) pe_int)) (pe_ix ix_seq (pv 0) pe_int (fun _ _ => rfl))) pe_int) (pg_sub (pv 0) pe_int set_list))
      (pss_one (ps_ret (pe_op op_modX (pe_op op_fdivX (pe_op op_modX (pe_op op_add (pe_op op_mulW (pe_ix ix_seq (pv 0) pe_int (fun _ _ => rfl)) pe_int) (pe_op op_fdivX (pe_ix ix_seq (pv 0) pe_int (fun _ _ => rfl)) pe_int)) pe_int) pe_int) (pv 1))))))))), rd__law_pull hB h0 h1 q⟩
  ) only [↓qt_eq])
theorem ok__law_gcd (T : TX K mg) : FnOk Pg w K mg base CX0 1 T.a__law_gcd T.d__law_gcd ["_law_one", "_law_other"] (spP K P_gcd) :=
  okP T.F__law_gcd sc__law_gcd ln__law_gcd (fun ds r h cdv A outer sh H E hr => ⟨t__law_gcd K, (pss_cons (ps_set (i := 0) sc__law_gcd.nd rfl (by first | exact Or.inl rfl | exact Or.inr rfl) (pe_callB c_abs (by rfl) T.n_abs (by decide +kernel) (pa_cons (pv 0) pa_nil)))
      (pss_cons (ps_set (i := 1) sc__law_gcd.nd rfl (by first | exact Or.inl rfl | exact Or.inr rfl) (pe_callB c_abs (by rfl) T.n_abs (by decide +kernel) (pa_cons (pv 1) pa_nil)))
      (pss_cons (ps_while PassesOwn.never (pt_cmpR op_gt (pv 1) pe_int (nomark _)) (pss_cons (ps_set (i := 2) sc__law_gcd.nd rfl (by first | exact Or.inl rfl | exact Or.inr rfl) (pv 1))
      (pss_cons (ps_set (i := 1) sc__law_gcd.nd rfl (by first | exact Or.inl rfl | exact Or.inr rfl) (pe_op op_modX (pv 0) (pv 1)))
      (pss_one (ps_set (i := 0) sc__law_gcd.nd rfl (by first | exact Or.inl rfl | exact Or.inr rfl) (pv 2))))))
      (pss_one (ps_ret (pe_callB (c_max2 rfl) (by rfl) T.n_max (by decide +kernel) (pa_cons pe_int (pa_cons (pv 0) pa_nil)))))))), rd__law_gcd h⟩)
theorem ok__law_frac (T : TX K mg) : FnOk Pg w K mg base CX0 2 T.a__law_frac T.d__law_frac ["_law_above", "_law_below"] (spP K P_frac) :=
  okP T.F__law_frac sc__law_frac ln__law_frac (fun ds r h cdv A outer sh H E hr => ⟨t__law_frac K, (pss_cons (ps_set (i := 2) sc__law_frac.nd rfl (by first | exact Or.inl rfl | exact Or.inr rfl) (pe_call (ok__law_gcd T) (hr.mono (by decide)) (by rfl) T.g__law_gcd T.F__law_gcd.kp T.b__law_gcd .nil pass0 (pa_cons (pv 0) (pa_cons (pv 1) pa_nil))))
      (pss_cons (ps_if (pt_cmpR op_lt (pv 1) pe_int (nomark _)) (pss_one (ps_set (i := 2) sc__law_frac.nd rfl (by first | exact Or.inl rfl | exact Or.inr rfl) (pe_un un_neg (pv 2)))) pss_nil)
      (pss_one (ps_ret (pe_tup (pa_cons (pe_op op_fdivX (pv 0) (pv 2)) (pa_cons (pe_op op_fdivX (pv 1) (pv 2)) pa_nil))))))), rd__law_frac h⟩)
theorem ok__law_part (T : TX K mg) : FnOk Pg w K mg base CX0 3 T.a__law_part T.d__law_part ["_law_bag_here"] (spB K P_part) :=
  okB T.F__law_part sc__law_part ln__law_part (fun s ds r s' h ok cdv A outer sh H E hr => ⟨t__law_part K, (pss_one (ps_ret (pe_call (ok__law_frac T) (hr.mono (by decide)) (by rfl) T.g__law_frac T.F__law_frac.kp T.b__law_frac .nil pass0 (pa_cons (pe_op op_sub (pe_call (ok__law_pull T) (hr.mono (by decide)) (by rfl) T.g__law_pull T.F__law_pull.kp T.b__law_pull .nil pass0 (pa_cons (pv 0) (pa_cons pe_int pa_nil))) pe_int) (pa_cons (pe_ix ix_seq (pe_lst (pa_cons pe_int (pa_cons pe_int (pa_cons pe_int (pa_cons pe_int pa_nil))))) (pe_call (ok__law_pull T) (hr.mono (by decide)) (by rfl) T.g__law_pull T.F__law_pull.kp T.b__law_pull .nil pass0 (pa_cons (pv 0) (pa_cons pe_int pa_nil))) (fun _ _ => rfl)) pa_nil))))), rd__law_part h ok⟩)
theorem ok__law_whole_part (T : TX K mg) : FnOk Pg w K mg base CX0 2 T.a__law_whole_part T.d__law_whole_part ["_law_bag_here"] (spB K P_wholePart) :=
  okB T.F__law_whole_part sc__law_whole_part ln__law_whole_part (fun s ds r s' h ok cdv A outer sh H E hr => ⟨t__law_whole_part K, (pss_one (ps_ret (pe_tup (pa_cons (pe_op op_sub (pe_call (ok__law_pull T) (hr.mono (by decide)) (by rfl) T.g__law_pull T.F__law_pull.kp T.b__law_pull .nil pass0 (pa_cons (pv 0) (pa_cons pe_int pa_nil))) pe_int) (pa_cons pe_int pa_nil))))), rd__law_whole_part h ok⟩)
theorem ok__law_entry (T : TX K mg) : FnOk Pg w K mg base CX0 4 T.a__law_entry T.d__law_entry ["_law_bag_here"] (spB K P_entry) :=
  okB T.F__law_entry sc__law_entry ln__law_entry (fun s ds r s' h ok cdv A outer sh H E hr => ⟨t__law_entry K, (pss_one (ps_ret (pe_ifExp (pt_cmpR op_eq (pe_call (ok__law_pull T) (hr.mono (by decide)) (by rfl) T.g__law_pull T.F__law_pull.kp T.b__law_pull .nil pass0 (pa_cons (pv 0) (pa_cons pe_int pa_nil))) pe_int (nomark _)) (pe_call (ok__law_part T) (hr.mono (by decide)) (by rfl) T.g__law_part T.F__law_part.kp T.b__law_part .nil pass0 (pa_cons (pv 0) pa_nil)) (pe_call (ok__law_whole_part T) (hr.mono (by decide)) (by rfl) T.g__law_whole_part T.F__law_whole_part.kp T.b__law_whole_part .nil pass0 (pa_cons (pv 0) pa_nil))))), rd__law_entry h ok⟩)
theorem ok__law_map (T : TX K mg) : FnOk Pg w K mg base CX0 5 T.a__law_map T.d__law_map ["_law_bag_here", "_law_start", "_law_goal"] (spB K P_map) :=
  okB T.F__law_map sc__law_map ln__law_map (fun s ds r s' h ok cdv A outer sh H E hr => ⟨t__law_map K, (pss_one (ps_ret (pe_callTy c_tuple (by rfl) T.n_tuple (by decide +kernel) (pa_cons (pe_lc (own := [("_law_row", 3)]) (g := (gName 3)) (tt := tYes) rfl sc__law_map.nd (pi_range1 (by rfl) T.n_range (pa_cons (pv 2) pa_nil)) (blkOk_by (own := [("_law_row", 3)]) (N := ["_law_bag_here", "_law_start", "_law_goal", "_law_row", "_law_at"]) (sc := defScope s__law_map) (by decide +kernel)) (fun _ _ _ _ _ => (pg_name (i := 3) sc__law_map.nd rfl (by first | exact Or.inl rfl | exact Or.inr rfl))) (fun _ _ _ _ _ => pts_nil) (fun _ _ _ _ _ => (pe_callTy c_tuple (by rfl) T.n_tuple (by decide +kernel) (pa_cons (pe_lc (own := [("_law_at", 4)]) (g := (gName 4)) (tt := tYes) rfl sc__law_map.nd (pi_range1 (by rfl) T.n_range (pa_cons (pe_op op_add (pv 1) pe_int) pa_nil)) (blkOk_by (own := [("_law_at", 4)]) (N := ["_law_bag_here", "_law_start", "_law_goal", "_law_row", "_law_at"]) (sc := ({ kind := PySem.ScopeKind.function, names := [ (PySem.Str.ofString ".0", PySem.NameKind.local), (PySem.Str.ofString "_law_row", PySem.NameKind.local), (PySem.Str.ofString "tuple", PySem.NameKind.globalImplicit), (PySem.Str.ofString "range", PySem.NameKind.globalImplicit), (PySem.Str.ofString "_law_bag_here", PySem.NameKind.cell), (PySem.Str.ofString "_law_start", PySem.NameKind.cell)], isGenerator := false, isCoroutine := false, more := [] : PySem.Scope })) (by decide +kernel)) (fun _ _ _ _ _ => (pg_name (i := 4) sc__law_map.nd rfl (by first | exact Or.inl rfl | exact Or.inr rfl))) (fun _ _ _ _ _ => pts_nil) (fun _ _ _ _ _ => (pe_call (ok__law_entry T) (hr.mono (by decide)) (by rfl) T.g__law_entry T.F__law_entry.kp T.b__law_entry .nil pass0 (pa_cons (pv 0) pa_nil)))) pa_nil)))) pa_nil)))), rd__law_map h ok⟩)
theorem ok__law_tree (T : TX K mg) : ∀ n, FnOk Pg w K mg base CX0 (9 + n) T.a__law_tree T.d__law_tree ["_law_bag_here", "_law_deep", "_law_names"] (spWB K (P_ltreeN n))
  | 0 => fnok_none (fun vs H Q E h => no_WB (fun _ _ z => z) h)
  | n + 1 => okWB T.cs T.F__law_tree sc__law_tree ln_ltreeN (fun ds A h cdv Ar outer sh H E hr => ⟨t_ltreeN K n , (pss_cons (ps_set (i := 3) sc__law_tree.nd rfl (by first | exact Or.inl rfl | exact Or.inr rfl) (pe_call (ok__law_pull T) (hr.mono (by first | omega | (simp only [Nat.add_eq]; omega))) (by rfl) T.g__law_pull T.F__law_pull.kp T.b__law_pull .nil pass0 (pa_cons (pv 0) (pa_cons pe_int pa_nil))))
      (pss_cons (ps_if (PW.pt (pw_or (pt_cmpR op_eq (pv 1) pe_int (nomark _)) (pw_or1 (pt_cmpR op_ltI (pv 3) pe_int (nomark _))))) (pss_one (ps_ret (pe_tup (pa_cons pe_str (pa_cons (pe_ix ix_seq (pv 2) (pe_call (ok__law_pull T) (hr.mono (by first | omega | (simp only [Nat.add_eq]; omega))) (by rfl) T.g__law_pull T.F__law_pull.kp T.b__law_pull .nil pass0 (pa_cons (pv 0) (pa_cons (pe_callB c_len (by rfl) T.n_len PySem.boot_len (pa_cons (pv 2) pa_nil)) pa_nil))) (fun _ _ => rfl)) pa_nil))))) pss_nil)
      (pss_cons (ps_if (pt_cmpR op_ltI (pv 3) pe_int (nomark _)) (pss_cons (ps_set (i := 5) sc__law_tree.nd rfl (by first | exact Or.inl rfl | exact Or.inr rfl) (pe_ix ix_seq (pe_lst (pa_cons pe_int (pa_cons (pe_un un_negI pe_int) (pa_cons pe_int (pa_cons pe_int (pa_cons (pe_un un_negI pe_int) (pa_cons (pe_op op_powI pe_int pe_int) pa_nil))))))) (pe_call (ok__law_pull T) (hr.mono (by first | omega | (simp only [Nat.add_eq]; omega))) (by rfl) T.g__law_pull T.F__law_pull.kp T.b__law_pull .nil pass0 (pa_cons (pv 0) (pa_cons pe_int pa_nil))) (fun _ _ => rfl)))
      (pss_one (ps_ret (pe_tup (pa_cons pe_str (pa_cons (pv 5) (pa_cons (pe_call (ok__law_tree T n) hr (by rfl) T.g__law_tree T.F__law_tree.kp T.b__law_tree .nil pass0 (pa_cons (pv 0) (pa_cons (pe_op op_subI (pv 1) pe_int) (pa_cons (pv 2) pa_nil)))) pa_nil))))))) pss_nil)
      (pss_cons (ps_if (pt_cmpR op_ltI (pv 3) pe_int (nomark _)) (pss_one (ps_ret (pe_tup (pa_cons pe_str (pa_cons (pe_call (ok__law_tree T n) hr (by rfl) T.g__law_tree T.F__law_tree.kp T.b__law_tree .nil pass0 (pa_cons (pv 0) (pa_cons (pe_op op_subI (pv 1) pe_int) (pa_cons (pv 2) pa_nil)))) pa_nil))))) pss_nil)
      (pss_cons (ps_if (pt_cmpR op_ltI (pv 3) pe_int (nomark _)) (pss_cons (ps_set (i := 6) sc__law_tree.nd rfl (by first | exact Or.inl rfl | exact Or.inr rfl) (pe_call (ok__law_map T) (hr.mono (by first | omega | (simp only [Nat.add_eq]; omega))) (by rfl) T.g__law_map T.F__law_map.kp T.b__law_map .nil pass0 (pa_cons (pv 0) (pa_cons (pe_op op_addI pe_int (pe_call (ok__law_pull T) (hr.mono (by first | omega | (simp only [Nat.add_eq]; omega))) (by rfl) T.g__law_pull T.F__law_pull.kp T.b__law_pull .nil pass0 (pa_cons (pv 0) (pa_cons pe_int pa_nil)))) (pa_cons (pe_op op_addI pe_int (pe_call (ok__law_pull T) (hr.mono (by first | omega | (simp only [Nat.add_eq]; omega))) (by rfl) T.g__law_pull T.F__law_pull.kp T.b__law_pull .nil pass0 (pa_cons (pv 0) (pa_cons pe_int pa_nil)))) pa_nil)))))
      (pss_one (ps_ret (pe_tup (pa_cons pe_str (pa_cons (pv 6) (pa_cons (pe_call (ok__law_tree T n) hr (by rfl) T.g__law_tree T.F__law_tree.kp T.b__law_tree .nil pass0 (pa_cons (pv 0) (pa_cons (pe_op op_subI (pv 1) pe_int) (pa_cons (pv 2) pa_nil)))) pa_nil))))))) pss_nil)
      (pss_cons (ps_set (i := 4) sc__law_tree.nd rfl (by first | exact Or.inl rfl | exact Or.inr rfl) (pe_ix ix_seq (pe_lst (pa_cons pe_str (pa_cons pe_str (pa_cons pe_str (pa_cons pe_str (pa_cons pe_str (pa_cons pe_str pa_nil))))))) (pe_call (ok__law_pull T) (hr.mono (by first | omega | (simp only [Nat.add_eq]; omega))) (by rfl) T.g__law_pull T.F__law_pull.kp T.b__law_pull .nil pass0 (pa_cons (pv 0) (pa_cons pe_int pa_nil))) (fun _ _ => rfl)))
      (pss_one (ps_ret (pe_tup (pa_cons (pv 4) (pa_cons (pe_call (ok__law_tree T n) hr (by rfl) T.g__law_tree T.F__law_tree.kp T.b__law_tree .nil pass0 (pa_cons (pv 0) (pa_cons (pe_op op_subI (pv 1) pe_int) (pa_cons (pv 2) pa_nil)))) (pa_cons (pe_call (ok__law_tree T n) hr (by rfl) T.g__law_tree T.F__law_tree.kp T.b__law_tree .nil pass0 (pa_cons (pv 0) (pa_cons (pe_op op_subI (pv 1) pe_int) (pa_cons (pv 2) pa_nil)))) pa_nil)))))))))))), rd_ltreeN h⟩)
theorem ok__law_words (T : TX K mg) : FnOkT Pg w K mg base CX0 1 T.a__law_words T.d__law_words ["_law_text_here"] (spW0 K P_lwords) :=
  okWT T.cs T.F__law_words sc__law_words ln__law_words (fun ds A h cdv Ar outer sh H E hr => ⟨t__law_words K, (CwR.psst_one (CwR.pst_ret (pet_wordsQ (CwR.pet_replT (CwR.pet_replC (pv 0)))))), rd__law_words h⟩)
theorem ok__law_glued (T : TX K mg) : FnOk Pg w K mg base CX0 1 T.a__law_glued T.d__law_glued ["_law_words_here"] (spW0 K P_lglued) :=
  okW T.cs T.F__law_glued sc__law_glued ln__law_glued (fun ds A h cdv Ar outer sh H E hr => ⟨t__law_glued K, (pss_cons (ps_set (i := 1) sc__law_glued.nd rfl (by first | exact Or.inl rfl | exact Or.inr rfl) pe_str)
      (pss_cons (ps_set (i := 2) sc__law_glued.nd rfl (by first | exact Or.inl rfl | exact Or.inr rfl) (pe_lst pa_nil))
      (pss_cons (ps_for PassesOwn.never rfl (pi_range1 (by rfl) T.n_range (pa_cons (pe_callB c_len (by rfl) T.n_len PySem.boot_len (pa_cons (pv 0) pa_nil)) pa_nil)) (pg_name (i := 3) sc__law_glued.nd rfl (by first | exact Or.inl rfl | exact Or.inr rfl)) (pss_cons (ps_if (PW.pt (pw_and (pt_cmpR op_gtI (pv 3) pe_int (nomark _)) (pw_and (pt_cmpR op_notInT (pe_ix ix_seq (pv 0) (pv 3) (fun _ _ => rfl)) (pe_lst (pa_cons pe_str (pa_cons pe_str pa_nil))) (by rfl)) (pw_and1 (pt_cmpR op_notInT (pe_ix ix_seq (pv 0) (pe_op op_subI (pv 3) pe_int) (fun _ _ => rfl)) (pe_lst (pa_cons pe_str (pa_cons pe_str pa_nil))) (by rfl)))))) (pss_one (ps_set (i := 1) sc__law_glued.nd rfl (by first | exact Or.inl rfl | exact Or.inr rfl) (pe_op op_addStr (pv 1) pe_str))) pss_nil)
      (pss_cons (ps_expr (pe_bm PySem.F.plainAttrs_list PySem.F.slot_list_append PySem.F.type_list_append mt_append (pv 2) (pa_cons (pe_callB c_lenS (by rfl) T.n_len PySem.boot_len (pa_cons (pv 1) pa_nil)) pa_nil)))
      (pss_one (ps_set (i := 1) sc__law_glued.nd rfl (by first | exact Or.inl rfl | exact Or.inr rfl) (pe_op op_addStr (pv 1) (pe_ix ix_seq (pv 0) (pv 3) (fun _ _ => rfl))))))))
      (pss_one (ps_ret (pe_tup (pa_cons (pv 1) (pa_cons (pv 2) pa_nil)))))))), rd__law_glued h⟩)
theorem ok__law_inner (T : TX K mg) : FnOk Pg w K mg base CX0 1 T.a__law_inner T.d__law_inner ["_law_tree_here"] (spW0 K P_linnerK) :=
  okW T.cs T.F__law_inner sc__law_inner ln_linnerK (fun ds A h cdv Ar outer sh H E hr => ⟨t_linnerK K, (pss_cons (ps_if (pt_cmpR op_eq (pe_ix ix_seq (pv 0) pe_int (fun _ _ => rfl)) pe_str (nomark _)) (pss_one (ps_ret (pe_lst pa_nil))) pss_nil)
      (pss_one (ps_ret (pe_ifExp (pt_cmpR (op_inS (u65 hr)) (pe_ix ix_seq (pv 0) pe_int (fun _ _ => rfl)) (pe_lst (pa_cons pe_str (pa_cons pe_str pa_nil))) (by rfl)) (pe_callTy c_list (by rfl) T.n_list (by decide +kernel) (pa_cons (pe_slice sl_tupA (pv 0) (po_some pe_int) po_none) pa_nil)) (pe_callTy c_list (by rfl) T.n_list (by decide +kernel) (pa_cons (pe_slice sl_tupA (pv 0) (po_some pe_int) po_none) pa_nil)))))), rd_linnerK h⟩)
theorem ok__law_part_text (T : TX K mg) : FnOk Pg w K mg base CX0 1 T.a__law_part_text T.d__law_part_text ["_law_one"] (spW0 K P_lpartText) :=
  okW T.cs T.F__law_part_text sc__law_part_text ln__law_part_text (fun ds A h cdv Ar outer sh H E hr => ⟨t__law_part_text K, (pss_one (ps_ret (pe_ifExp (pt_cmpR op_eq (pe_ix ix_seq (pv 0) pe_int (fun _ _ => rfl)) pe_int (nomark _)) (pe_callTy c_strI (by rfl) T.n_str (by decide +kernel) (pa_cons (pe_ix ix_seq (pv 0) pe_int (fun _ _ => rfl)) pa_nil)) (pe_op op_addStr (pe_op op_addStr (pe_callTy c_strI (by rfl) T.n_str (by decide +kernel) (pa_cons (pe_ix ix_seq (pv 0) pe_int (fun _ _ => rfl)) pa_nil)) pe_str) (pe_callTy c_strI (by rfl) T.n_str (by decide +kernel) (pa_cons (pe_ix ix_seq (pv 0) pe_int (fun _ _ => rfl)) pa_nil)))))), rd__law_part_text h⟩)
theorem ok__law_text (T : TX K mg) : ∀ n, FnOk Pg w K mg base CX0 (4 + n) T.a__law_text T.d__law_text ["_law_tree_here"] (spW0 K (P_ltext n))
  | 0 => fnok_none (fun vs H Q E h => no_W0 (fun _ _ z => z) h)
  | n + 1 => okW T.cs T.F__law_text sc__law_text ln__law_text (fun ds A h cdv Ar outer sh H E hr => ⟨t__law_text K n , (pss_cons (ps_if (pt_cmpR op_eq (pe_ix ix_seq (pv 0) pe_int (fun _ _ => rfl)) pe_str (nomark _)) (pss_one (ps_ret (pe_ix ix_seq (pv 0) pe_int (fun _ _ => rfl)))) pss_nil)
      (pss_cons (ps_set (i := 1) sc__law_text.nd rfl (by first | exact Or.inl rfl | exact Or.inr rfl) (pe_lst (pa_cons (pe_ix ix_seq (pv 0) pe_int (fun _ _ => rfl)) pa_nil)))
      (pss_cons (ps_if (pt_cmpR op_eq (pe_ix ix_seq (pv 0) pe_int (fun _ _ => rfl)) pe_str (nomark _)) (pss_one (ps_expr (pe_bm PySem.F.plainAttrs_list PySem.F.slot_list_append PySem.F.type_list_append mt_append (pv 1) (pa_cons (pe_callTy c_strI (by rfl) T.n_str (by decide +kernel) (pa_cons (pe_ix ix_seq (pv 0) pe_int (fun _ _ => rfl)) pa_nil)) pa_nil)))) pss_nil)
      (pss_cons (ps_if (pt_cmpR op_eq (pe_ix ix_seq (pv 0) pe_int (fun _ _ => rfl)) pe_str (nomark _)) (pss_one (ps_expr (pe_bm PySem.F.plainAttrs_list PySem.F.slot_list_extend PySem.F.type_list_extend mt_extend (pv 1) (pa_cons (pe_lc (own := [("_law_row", 2)]) (g := (gName 2)) (tt := tYes) rfl sc__law_text.nd (pi_tup (pe_ix ix_seq (pv 0) pe_int (fun _ _ => rfl))) (blkOk_by (own := [("_law_row", 2)]) (N := ["_law_tree_here", "_law_words_here", "_law_row", "_law_inner_here", "_law_one"]) (sc := defScope s__law_text) (by decide +kernel)) (fun _ _ _ _ _ => (pg_name (i := 2) sc__law_text.nd rfl (by first | exact Or.inl rfl | exact Or.inr rfl))) (fun _ _ _ _ _ => pts_nil) (fun _ _ _ _ _ => (pe_op op_addStr (pe_op op_addStr pe_str (pe_joinS pe_str (pe_lc (own := [("_law_one", 4)]) (g := (gName 4)) (tt := tYes) rfl sc__law_text.nd (pi_tup (pv 2)) (blkOk_by (own := [("_law_one", 4)]) (N := ["_law_tree_here", "_law_words_here", "_law_row", "_law_inner_here", "_law_one"]) (sc := ({ kind := PySem.ScopeKind.function, names := [(PySem.Str.ofString ".0", PySem.NameKind.local), (PySem.Str.ofString "_law_row", PySem.NameKind.local)], isGenerator := false, isCoroutine := false, more := [] : PySem.Scope })) (by decide +kernel)) (fun _ _ _ _ _ => (pg_name (i := 4) sc__law_text.nd rfl (by first | exact Or.inl rfl | exact Or.inr rfl))) (fun _ _ _ _ _ => pts_nil) (fun _ _ _ _ _ => (pe_call (ok__law_part_text T) (hr.mono (by first | omega | (simp only [Nat.add_eq]; omega))) (by rfl) T.g__law_part_text T.F__law_part_text.kp T.b__law_part_text .nil pass0 (pa_cons (pv 4) pa_nil)))))) pe_str))) pa_nil)))) pss_nil)
      (pss_one (ps_ret (pe_op op_addStr (pe_op op_addStr pe_str (pe_joinS pe_str (pe_op op_catL (pv 1) (pe_lc (own := [("_law_inner_here", 3)]) (g := (gName 3)) (tt := tYes) rfl sc__law_text.nd (pi_list (pe_call (ok__law_inner T) (hr.mono (by first | omega | (simp only [Nat.add_eq]; omega))) (by rfl) T.g__law_inner T.F__law_inner.kp T.b__law_inner .nil pass0 (pa_cons (pv 0) pa_nil))) (blkOk_by (own := [("_law_inner_here", 3)]) (N := ["_law_tree_here", "_law_words_here", "_law_row", "_law_inner_here", "_law_one"]) (sc := defScope s__law_text) (by decide +kernel)) (fun _ _ _ _ _ => (pg_name (i := 3) sc__law_text.nd rfl (by first | exact Or.inl rfl | exact Or.inr rfl))) (fun _ _ _ _ _ => pts_nil) (fun _ _ _ _ _ => (pe_call (ok__law_text T n) hr (by rfl) T.g__law_text T.F__law_text.kp T.b__law_text .nil pass0 (pa_cons (pv 3) pa_nil))))))) pe_str))))))), rd__law_text h⟩)
theorem ok__law_like (T : TX K mg) : ∀ n, FnOk Pg w K mg base CX0 n T.a__law_like T.d__law_like ["_law_found", "_law_due"] (spP K (P_like n))
  | 0 => fnok_false
  | n + 1 => okP T.F__law_like sc__law_like ln_like16 (fun ds r h cdv A outer sh H E hr => ⟨t_like16 K n, (pss_cons (ps_if (pt_val (pe_callB call_isiT (by rfl) T.n_isinstance (by decide +kernel) (pa_cons (pv 1) (pa_cons (pe_tup (pa_cons (pe_bltn (v := .ty "tuple") (by rfl) T.n_tuple (by decide +kernel) rfl) (pa_cons (pe_bltn (v := .ty "list") (by rfl) T.n_list (by decide +kernel) rfl) pa_nil))) pa_nil)))) (pss_cons (ps_if (pt_cmpR op_ne (pe_callB call_isi (by rfl) T.n_isinstance (by decide +kernel) (pa_cons (pv 0) (pa_cons (pe_bltn (v := .ty "tuple") (by rfl) T.n_tuple (by decide +kernel) rfl) pa_nil))) (pe_callB call_isi (by rfl) T.n_isinstance (by decide +kernel) (pa_cons (pv 1) (pa_cons (pe_bltn (v := .ty "tuple") (by rfl) T.n_tuple (by decide +kernel) rfl) pa_nil))) (nomark _)) (pss_one (ps_ret pe_bl)) pss_nil)
      (pss_cons (ps_if (PW.pt (pw_or (pt_not (pt_val (pe_callB call_isiT (by rfl) T.n_isinstance (by decide +kernel) (pa_cons (pv 0) (pa_cons (pe_tup (pa_cons (pe_bltn (v := .ty "tuple") (by rfl) T.n_tuple (by decide +kernel) rfl) (pa_cons (pe_bltn (v := .ty "list") (by rfl) T.n_list (by decide +kernel) rfl) pa_nil))) pa_nil))))) (pw_or1 (pt_cmpR op_ne (pe_callB c_len (by rfl) T.n_len PySem.boot_len (pa_cons (pv 0) pa_nil)) (pe_callB c_len (by rfl) T.n_len PySem.boot_len (pa_cons (pv 1) pa_nil)) (nomark _))))) (pss_one (ps_ret pe_bl)) pss_nil)
      (pss_one (ps_ret (pe_callB (cr_all rfl) (by rfl) T.n_all (by decide +kernel) (pa_cons (pe_lc (own := [("_law_at", 2)]) (g := (gName 2)) (tt := tYes) rfl sc__law_like.nd (pi_range1 (by rfl) T.n_range (pa_cons (pe_callB c_len (by rfl) T.n_len PySem.boot_len (pa_cons (pv 1) pa_nil)) pa_nil)) (blkOk_by (own := [("_law_at", 2)]) (N := ["_law_found", "_law_due", "_law_at"]) (sc := defScope s__law_like) (by decide +kernel)) (fun _ _ _ _ _ => (pg_name (i := 2) sc__law_like.nd rfl (by first | exact Or.inl rfl | exact Or.inr rfl))) (fun _ _ _ _ _ => pts_nil) (fun _ _ _ _ _ => (pe_call (ok__law_like T n) hr (by rfl) T.g__law_like T.F__law_like.kp T.b__law_like .nil pass0 (pa_cons (pe_ix ix_seq (pv 0) (pv 2) (fun _ _ => rfl)) (pa_cons (pe_ix ix_seq (pv 1) (pv 2) (fun _ _ => rfl)) pa_nil))))) pa_nil)))))) pss_nil)
      (pss_cons (ps_if (pt_val (pe_callB call_isi (by rfl) T.n_isinstance (by decide +kernel) (pa_cons (pv 1) (pa_cons (pe_bltn (v := .ty "bool") (by rfl) T.n_bool (by decide +kernel) rfl) pa_nil)))) (pss_one (ps_ret (pe_and (pe_callB call_isi (by rfl) T.n_isinstance (by decide +kernel) (pa_cons (pv 0) (pa_cons (pe_bltn (v := .ty "bool") (by rfl) T.n_bool (by decide +kernel) rfl) pa_nil))) (pe_one (pe_cmpR op_eq (pv 0) (pv 1) (nomark _)))))) pss_nil)
      (pss_cons (ps_if (pt_val (pe_callB call_isi (by rfl) T.n_isinstance (by decide +kernel) (pa_cons (pv 1) (pa_cons (pe_bltn (v := .ty "int") (by rfl) T.n_int (by decide +kernel) rfl) pa_nil)))) (pss_one (ps_ret (pe_and (pe_callB call_isi (by rfl) T.n_isinstance (by decide +kernel) (pa_cons (pv 0) (pa_cons (pe_bltn (v := .ty "int") (by rfl) T.n_int (by decide +kernel) rfl) pa_nil))) (pe_and (pe_not (pe_callB call_isi (by rfl) T.n_isinstance (by decide +kernel) (pa_cons (pv 0) (pa_cons (pe_bltn (v := .ty "bool") (by rfl) T.n_bool (by decide +kernel) rfl) pa_nil)))) (pe_one (pe_cmpR op_eq (pv 0) (pv 1) (nomark _))))))) pss_nil)
      (pss_cons (ps_if (pt_val (pe_callB call_isi (by rfl) T.n_isinstance (by decide +kernel) (pa_cons (pv 1) (pa_cons (pe_bltn (v := .ty "str") (by rfl) T.n_str (by decide +kernel) rfl) pa_nil)))) (pss_one (ps_ret (pe_and (pe_callB call_isi (by rfl) T.n_isinstance (by decide +kernel) (pa_cons (pv 0) (pa_cons (pe_bltn (v := .ty "str") (by rfl) T.n_str (by decide +kernel) rfl) pa_nil))) (pe_one (pe_cmpR op_eq (pv 0) (pv 1) (nomark _)))))) pss_nil)
      (pss_one (ps_ret (pe_and (pe_cmpR o_isN (pv 1) pe_non (nomark _)) (pe_one (pe_cmpR o_isN (pv 0) pe_non (nomark _)))))))))), rd_like16 h⟩)
theorem ok_Reading_taken (T : TX K mg) : FnOk Pg w K mg base (L2.CX Pg w) 4 T.a_Reading_taken T.d_Reading_taken ["self", "fits"] (spO K T.cs (P_taken T.cs)) :=
  okO T.F_Reading_taken sc_Reading_taken ln_Reading_taken (fun es O A h cdv Ar outer sh H E hr => ⟨t_Reading_taken K T.cs (WD E), (pss_cons (ps_asg (pe_ix ix_seq (pe_fld (pv 0) rfl) (pe_fld (pv 0) rfl) (fun _ _ => rfl)) (pg_tup rfl (pgs_cons (pg_name (i := 2) sc_Reading_taken.nd rfl (by first | exact Or.inl rfl | exact Or.inr rfl)) (pgs_cons (pg_name (i := 3) sc_Reading_taken.nd rfl (by first | exact Or.inl rfl | exact Or.inr rfl)) pgs_nil))))
      (pss_cons (ps_if (pt_not (pt_val (pv 1))) (pss_one (ps_raise rfl (takes_of rfl rfl rfl rfl) (pmk_ox T.ox_Unread T.kC_Unread T.i_Unread T.ti_Unread (ok_Unread T) (hr.mono (by decide)) T.bi_Unread .nil pass0 (by rfl) T.g_Unread (pa_cons (pv 3) pa_nil)))) pss_nil)
      (pss_cons (ps_fldaug (pv 0) pe_int iop_addI)
      (pss_one (ps_ret (pv 2)))))), rd_Reading_taken T.co_Reading T.cf_Unread h (WD E)⟩)
theorem ok_Reading_seen (T : TX K mg) : FnOk Pg w K mg base CX0 1 T.a_Reading_seen T.d_Reading_seen ["self", "ahead"] (spO0 K (P_seen T.cs)) :=
  okO0D T.cs T.F_Reading_seen sc_Reading_seen ln_Reading_seen (fun es O A h cdv Ar outer sh H E hr => ⟨t_Reading_seen K, (pss_one (ps_ret (pe_ix ix_seq (pe_ix ix_seq (pe_fld (pv 0) rfl) (pe_callB (c_min2 rfl) (by rfl) T.n_min (by decide +kernel) (pa_cons (pe_op op_addI (pe_fld (pv 0) rfl) (pv 1)) (pa_cons (pe_op op_subI (pe_callB c_len (by rfl) T.n_len PySem.boot_len (pa_cons (pe_fld (pv 0) rfl) pa_nil)) pe_int) pa_nil))) (fun _ _ => rfl)) pe_int (fun _ _ => rfl)))), rd_Reading_seen T.co_Reading h⟩)
theorem ok_figures_of (T : TX K mg) : FnOk Pg w K mg base CX0 1 T.a_figures_of T.d_figures_of ["text", "most"] (spW0 K P_figures) :=
  okW T.cs T.F_figures_of sc_figures_of ln_figures_of (fun ds A h cdv Ar outer sh H E hr => ⟨t_figures_of K, (pss_cons (ps_if (PW.pt (pw_or (pt_not (pt_chain op_leI op_leI pe_int (pe_callB c_lenS (by rfl) T.n_len PySem.boot_len (pa_cons (pv 0) pa_nil)) (pv 1))) (pw_or1 (pt_not (pt_val (pe_callB (cr_all rfl) (by rfl) T.n_all (by decide +kernel) (pa_cons (pe_lc (own := [("sign", 2)]) (g := (gName 2)) (tt := tYes) rfl sc_figures_of.nd (pi_str (pv 0)) (blkOk_by (own := [("sign", 2)]) (N := ["text", "most", "sign"]) (sc := defScope s_figures_of) (by decide +kernel)) (fun _ _ _ _ _ => (pg_name (i := 2) sc_figures_of.nd rfl (by first | exact Or.inl rfl | exact Or.inr rfl))) (fun _ _ _ _ _ => pts_nil) (fun _ _ _ _ _ => (pe_cmpR op_inSg (pv 2) pe_str (by rfl)))) pa_nil))))))) (pss_one (ps_ret pe_non)) pss_nil)
      (pss_cons (ps_if (PW.pt (pw_and (pt_cmpR op_eq (pe_ix ix_str (pv 0) pe_int (fun _ _ => rfl)) pe_str (nomark _)) (pw_and1 (pt_cmpR op_gtI (pe_callB c_lenS (by rfl) T.n_len PySem.boot_len (pa_cons (pv 0) pa_nil)) pe_int (nomark _))))) (pss_one (ps_ret pe_non)) pss_nil)
      (pss_one (ps_ret (pe_callTy c_intS (by rfl) T.n_int (by decide +kernel) (pa_cons (pv 0) pa_nil)))))), rd_figures_of h⟩)
theorem ok_whole_in (T : TX K mg) : FnOk Pg w K mg base CX0 2 T.a_whole_in T.d_whole_in ["text", "most"] (spW0 K P_wholeIn) :=
  okWD T.cs T.F_whole_in sc_whole_in ln_whole_in (fun ds A h cdv Ar outer sh H E hr => ⟨t_whole_in K, (pss_cons (ps_if (pt_cmpR op_ne (pe_slice sl_str (pv 0) po_none (po_some pe_int)) pe_str (nomark _)) (pss_one (ps_ret (pe_call (ok_figures_of T) (hr.mono (by decide)) (by rfl) T.g_figures_of T.F_figures_of.kp T.b_figures_of .nil pass0 (pa_cons (pv 0) (pa_cons (pv 1) pa_nil))))) pss_nil)
      (pss_cons (ps_set (i := 2) sc_whole_in.nd rfl (by first | exact Or.inl rfl | exact Or.inr rfl) (pe_call (ok_figures_of T) (hr.mono (by decide)) (by rfl) T.g_figures_of T.F_figures_of.kp T.b_figures_of .nil pass0 (pa_cons (pe_slice sl_str (pv 0) (po_some pe_int) po_none) (pa_cons (pv 1) pa_nil))))
      (pss_one (ps_ret (pe_ifExp (PW.pt (pw_or (pt_cmpR o_isN (pv 2) pe_non (nomark _)) (pw_or1 (pt_cmpR op_eq (pv 2) pe_int (nomark _))))) pe_non (pe_un un_negI (pv 2))))))), rd_whole_in h⟩)
theorem ok_Reading_number (T : TX K mg) : FnOk Pg w K mg base (L2.CX Pg w) 5 T.a_Reading_number T.d_Reading_number ["self"] (spO K T.cs (P_number T.cs)) :=
  okO T.F_Reading_number sc_Reading_number ln_Reading_number (fun es O A h cdv Ar outer sh H E hr => ⟨t_Reading_number K T.cs (WD E), (pss_cons (ps_set (i := 1) sc_Reading_number.nd rfl (by first | exact Or.inl rfl | exact Or.inr rfl) (pe_callN (n := 1) (ks := ["most"]) (ok_whole_in T) (hr.mono (by decide)) (by rfl) T.g_whole_in T.F_whole_in.kp T.kb_whole_in pass0 (pa_cons (pe_meth0 (pv 0) T.co_Reading.c T.me_Reading_seen (ok_Reading_seen T) (hr.mono (by decide)) T.b1_Reading_seen T.v1_Reading_seen pass0) pa_nil) (pk_cons (pe_glob (v := V.int 18) (by rfl) T.c_LONG ⟨_, rfl⟩) pk_nil)))
      (pss_cons (ps_expr (pe_methX (pv 0) T.co_Reading.c T.me_Reading_taken (ok_Reading_taken T) (hr.mono (by decide)) T.b_Reading_taken .nil (fun σ => passAt (takes_of rfl rfl rfl rfl) σ) (pa_cons (pe_cmpR o_notN (pv 1) pe_non (nomark _)) pa_nil)))
      (pss_one (ps_ret (pv 1))))), rd_Reading_number h (WD E)⟩)
theorem ok_shared (T : TX K mg) : FnOk Pg w K mg base CX0 1 T.a_shared T.d_shared ["one", "other"] (spP K P_gcd) :=
  okP T.F_shared sc_shared ln_shared (fun ds r h cdv A outer sh H E hr => ⟨t_shared K, (pss_cons (ps_par (i := 0) (j := 1) (by rfl) sc_shared.nd rfl rfl (by decide) rfl rfl (pa_cons (pe_callB c_abs (by rfl) T.n_abs (by decide +kernel) (pa_cons (pv 0) pa_nil)) (pa_cons (pe_callB c_abs (by rfl) T.n_abs (by decide +kernel) (pa_cons (pv 1) pa_nil)) pa_nil)) (by rfl))
      (pss_cons (ps_while PassesOwn.never (pt_cmpR op_gt (pv 1) pe_int (nomark _)) (pss_one (ps_par (i := 0) (j := 1) (by rfl) sc_shared.nd rfl rfl (by decide) rfl rfl (pa_cons (pv 1) (pa_cons (pe_op op_modX (pv 0) (pv 1)) pa_nil)) (by rfl))))
      (pss_one (ps_ret (pe_callB (c_max2 rfl) (by rfl) T.n_max (by decide +kernel) (pa_cons (pv 0) (pa_cons pe_int pa_nil))))))), rd_shared h⟩)
theorem ok_part_in (T : TX K mg) : FnOk Pg w K mg base CX0 3 T.a_part_in T.d_part_in ["text", "most"] (spW0 K P_partIn) :=
  okWD T.cs T.F_part_in sc_part_in ln_part_in (fun ds A h cdv Ar outer sh H E hr => ⟨t_part_in K, (pss_cons (ps_asg (pe_partS (pv 0) pe_str) (pg_tup rfl (pgs_cons (pg_name (i := 4) sc_part_in.nd rfl (by first | exact Or.inl rfl | exact Or.inr rfl)) (pgs_cons (pg_name (i := 5) sc_part_in.nd rfl (by first | exact Or.inl rfl | exact Or.inr rfl)) (pgs_cons (pg_name (i := 6) sc_part_in.nd rfl (by first | exact Or.inl rfl | exact Or.inr rfl)) pgs_nil)))))
      (pss_cons (ps_set (i := 2) sc_part_in.nd rfl (by first | exact Or.inl rfl | exact Or.inr rfl) (pe_callN (n := 1) (ks := ["most"]) (ok_whole_in T) (hr.mono (by decide)) (by rfl) T.g_whole_in T.F_whole_in.kp T.kb_whole_in pass0 (pa_cons (pv 4) pa_nil) (pk_cons (pv 1) pk_nil)))
      (pss_cons (ps_set (i := 3) sc_part_in.nd rfl (by first | exact Or.inl rfl | exact Or.inr rfl) (pe_ifExp (pt_cmpR op_eq (pv 5) pe_str (nomark _)) pe_int (pe_call (ok_figures_of T) (hr.mono (by decide)) (by rfl) T.g_figures_of T.F_figures_of.kp T.b_figures_of .nil pass0 (pa_cons (pv 6) (pa_cons (pv 1) pa_nil)))))
      (pss_cons (ps_if (PW.pt (pw_or (pt_cmpR o_isN (pv 2) pe_non (nomark _)) (pw_or1 (pt_cmpR o_isN (pv 3) pe_non (nomark _))))) (pss_one (ps_ret pe_non)) pss_nil)
      (pss_cons (ps_if (PW.pt (pw_or (PW.pt (pw_and (pt_cmpR op_ne (pv 5) pe_str (nomark _)) (pw_and1 (pt_cmpR op_ltI (pv 3) pe_int (nomark _))))) (pw_or1 (pt_cmpR op_ne (pe_call (ok_shared T) (hr.mono (by decide)) (by rfl) T.g_shared T.F_shared.kp T.b_shared .nil pass0 (pa_cons (pv 2) (pa_cons (pv 3) pa_nil))) pe_int (nomark _))))) (pss_one (ps_ret pe_non)) pss_nil)
      (pss_one (ps_ret (pe_tup (pa_cons (pv 2) (pa_cons (pv 3) pa_nil)))))))))), rd_part_in h⟩)
theorem ok_Reading_row (T : TX K mg) : FnOk Pg w K mg base (L2.CX Pg w) 5 T.a_Reading_row T.d_Reading_row ["self", "size"] (spO K T.cs (P_rdRow T.cs)) :=
  okO T.F_Reading_row sc_Reading_row ln_Reading_row (fun es O A h cdv Ar outer sh H E hr => ⟨t_Reading_row K T.cs (WD E), (pss_cons (ps_expr (pe_methX (pv 0) T.co_Reading.c T.me_Reading_taken (ok_Reading_taken T) (hr.mono (by decide)) T.b_Reading_taken .nil (fun σ => passAt (takes_of rfl rfl rfl rfl) σ) (pa_cons (pe_cmpR op_eq (pe_meth0 (pv 0) T.co_Reading.c T.me_Reading_seen (ok_Reading_seen T) (hr.mono (by decide)) T.b1_Reading_seen T.v1_Reading_seen pass0) pe_str (nomark _)) pa_nil)))
      (pss_cons (ps_set (i := 2) sc_Reading_row.nd rfl (by first | exact Or.inl rfl | exact Or.inr rfl) (pe_lst pa_nil))
      (pss_cons (ps_while (passes_of rfl) (PW.pt (pw_or (pt_cmpR op_ltI (pe_callB c_len (by rfl) T.n_len PySem.boot_len (pa_cons (pv 2) pa_nil)) (pe_ifExp (pt_cmpR o_isN (pv 1) pe_non (nomark _)) pe_int (pv 1)) (nomark _)) (pw_or1 (PW.pt (pw_and (pt_cmpR o_isN (pv 1) pe_non (nomark _)) (pw_and (pt_cmpR op_ltI (pe_callB c_len (by rfl) T.n_len PySem.boot_len (pa_cons (pv 2) pa_nil)) pe_int (nomark _)) (pw_and1 (pt_cmpR op_ne (pe_meth0 (pv 0) T.co_Reading.c T.me_Reading_seen (ok_Reading_seen T) (hr.mono (by decide)) T.b1_Reading_seen T.v1_Reading_seen pass0) pe_str (nomark _))))))))) (pss_cons (ps_set (i := 3) sc_Reading_row.nd rfl (by first | exact Or.inl rfl | exact Or.inr rfl) (pe_callN (n := 1) (ks := ["most"]) (ok_part_in T) (hr.mono (by decide)) (by rfl) T.g_part_in T.F_part_in.kp T.kb_part_in pass0 (pa_cons (pe_meth0 (pv 0) T.co_Reading.c T.me_Reading_seen (ok_Reading_seen T) (hr.mono (by decide)) T.b1_Reading_seen T.v1_Reading_seen pass0) pa_nil) (pk_cons (pe_glob (v := V.int 18) (by rfl) T.c_LONG ⟨_, rfl⟩) pk_nil)))
      (pss_cons (ps_expr (pe_methX (pv 0) T.co_Reading.c T.me_Reading_taken (ok_Reading_taken T) (hr.mono (by decide)) T.b_Reading_taken .nil (fun σ => passAt (takes_of rfl rfl rfl rfl) σ) (pa_cons (pe_cmpR o_notN (pv 3) pe_non (nomark _)) pa_nil)))
      (pss_one (ps_expr (pe_bm PySem.F.plainAttrs_list PySem.F.slot_list_append PySem.F.type_list_append mt_append (pv 2) (pa_cons (pv 3) pa_nil)))))))
      (pss_cons (ps_expr (pe_methX (pv 0) T.co_Reading.c T.me_Reading_taken (ok_Reading_taken T) (hr.mono (by decide)) T.b_Reading_taken .nil (fun σ => passAt (takes_of rfl rfl rfl rfl) σ) (pa_cons (pe_cmpR op_eq (pe_meth0 (pv 0) T.co_Reading.c T.me_Reading_seen (ok_Reading_seen T) (hr.mono (by decide)) T.b1_Reading_seen T.v1_Reading_seen pass0) pe_str (nomark _)) pa_nil)))
      (pss_one (ps_ret (pe_callTy c_tuple (by rfl) T.n_tuple (by decide +kernel) (pa_cons (pv 2) pa_nil)))))))), rd_Reading_row h (WD E)⟩)
theorem ok_Reading_way (T : TX K mg) : FnOk Pg w K mg base (L2.CX Pg w) 6 T.a_Reading_way T.d_Reading_way ["self"] (spO K T.cs (P_rdWay T.cs)) :=
  okO T.F_Reading_way sc_Reading_way ln_Reading_way (fun es O A h cdv Ar outer sh H E hr => ⟨t_Reading_way K T.cs T.gs (WD E), (pss_cons (ps_set (i := 1) sc_Reading_way.nd rfl (by first | exact Or.inl rfl | exact Or.inr rfl) (pe_methX (pv 0) T.co_Reading.c T.me_Reading_row (ok_Reading_row T) (hr.mono (by decide)) T.b_Reading_row .nil (fun σ => passAt (takes_of rfl rfl rfl rfl) σ) (pa_cons pe_non pa_nil)))
      (pss_cons (ps_if (PW.pt (pw_and (pt_cmpR op_eq (pe_meth0 (pv 0) T.co_Reading.c T.me_Reading_seen (ok_Reading_seen T) (hr.mono (by decide)) T.b1_Reading_seen T.v1_Reading_seen pass0) pe_str (nomark _)) (pw_and1 (pt_cmpR op_notInT (pe_meth (pv 0) T.co_Reading.c T.me_Reading_seen (ok_Reading_seen T) (hr.mono (by decide)) T.b_Reading_seen .nil pass0 (pa_cons pe_int pa_nil)) (pe_glob (v := T.gs "WORDS") (by rfl) T.c_WORDS T.r_WORDS) (by rfl))))) (pss_one (ps_ret (pe_tup (pa_cons (pv 1) (pa_cons (pe_methX (pv 0) T.co_Reading.c T.me_Reading_row (ok_Reading_row T) (hr.mono (by decide)) T.b_Reading_row .nil (fun σ => passAt (takes_of rfl rfl rfl rfl) σ) (pa_cons (pe_callB c_len (by rfl) T.n_len PySem.boot_len (pa_cons (pv 1) pa_nil)) pa_nil)) pa_nil))))) pss_nil)
      (pss_one (ps_ret (pe_tup (pa_cons (pv 1) pa_nil)))))), rd_Reading_way T.gd_WORDS h (WD E)⟩)
theorem ok_is_name (T : TX K mg) : FnOk Pg w K mg base CX0 1 T.a_is_name T.d_is_name ["thing"] (spW0 K P_isName) :=
  okW T.cs T.F_is_name sc_is_name ln_is_name (fun ds A h cdv Ar outer sh H E hr => ⟨t_is_name K T.gs, (pss_cons (ps_if (PW.pt (pw_or (pt_not (pt_val (pe_callB call_isi (by rfl) T.n_isinstance (by decide +kernel) (pa_cons (pv 0) (pa_cons (pe_bltn (v := .ty "str") (by rfl) T.n_str (by decide +kernel) rfl) pa_nil))))) (pw_or (pt_not (pt_chain op_leI op_leI pe_int (pe_callB c_lenS (by rfl) T.n_len PySem.boot_len (pa_cons (pv 0) pa_nil)) pe_int)) (pw_or1 (pt_cmpR op_inT (pv 0) (pe_glob (v := T.gs "WORDS") (by rfl) T.c_WORDS T.r_WORDS) (by rfl)))))) (pss_one (ps_ret pe_bl)) pss_nil)
      (pss_one (ps_ret (pe_and (pe_cmpR op_inSg (pe_ix ix_str (pv 0) pe_int (fun _ _ => rfl)) (pe_glob (v := V.str "abcdefghijklmnopqrstuvwxyz") (by rfl) T.c_LETTERS ⟨_, rfl⟩) (by rfl)) (pe_one (pe_callB (cr_all rfl) (by rfl) T.n_all (by decide +kernel) (pa_cons (pe_lc (own := [("sign", 1)]) (g := (gName 1)) (tt := tYes) rfl sc_is_name.nd (pi_str (pv 0)) (blkOk_by (own := [("sign", 1)]) (N := ["thing", "sign"]) (sc := defScope s_is_name) (by decide +kernel)) (fun _ _ _ _ _ => (pg_name (i := 1) sc_is_name.nd rfl (by first | exact Or.inl rfl | exact Or.inr rfl))) (fun _ _ _ _ _ => pts_nil) (fun _ _ _ _ _ => (pe_cmpR op_inSg (pv 1) (pe_op op_addStr (pe_glob (v := V.str "abcdefghijklmnopqrstuvwxyz") (by rfl) T.c_LETTERS ⟨_, rfl⟩) pe_str) (by rfl)))) pa_nil))))))), rd_is_name T.gd_WORDS h⟩)
theorem ok_Reading_tree (T : TX K mg) : ∀ n, FnOk Pg w K mg base (L2.CX Pg w) (9 + n) T.a_Reading_tree T.d_Reading_tree ["self", "deep"] (spO K T.cs (P_rdTree T.cs n))
  | 0 => fnok_none (fun vs H Q E h => no_O (fun _ _ _ z => z) h)
  | n + 1 => okOD T.F_Reading_tree sc_Reading_tree ln_Reading_tree (fun es O A h cdv Ar outer sh H E hr => ⟨t_Reading_tree K n T.cs T.gs (WD E), (pss_cons (ps_if (pt_cmpR op_ne (pe_meth0 (pv 0) T.co_Reading.c T.me_Reading_seen (ok_Reading_seen T) (hr.mono (by first | omega | (simp only [Nat.add_eq]; omega))) T.b1_Reading_seen T.v1_Reading_seen pass0) pe_str (nomark _)) (pss_one (ps_ret (pe_tup (pa_cons pe_str (pa_cons (pe_methX (pv 0) T.co_Reading.c T.me_Reading_taken (ok_Reading_taken T) (hr.mono (by first | omega | (simp only [Nat.add_eq]; omega))) T.b_Reading_taken .nil (fun σ => passAt (takes_of rfl rfl rfl rfl) σ) (pa_cons (pe_call (ok_is_name T) (hr.mono (by first | omega | (simp only [Nat.add_eq]; omega))) (by rfl) T.g_is_name T.F_is_name.kp T.b_is_name .nil pass0 (pa_cons (pe_meth0 (pv 0) T.co_Reading.c T.me_Reading_seen (ok_Reading_seen T) (hr.mono (by first | omega | (simp only [Nat.add_eq]; omega))) T.b1_Reading_seen T.v1_Reading_seen pass0) pa_nil)) pa_nil)) pa_nil))))) pss_nil)
      (pss_cons (ps_expr (pe_methX (pv 0) T.co_Reading.c T.me_Reading_taken (ok_Reading_taken T) (hr.mono (by first | omega | (simp only [Nat.add_eq]; omega))) T.b_Reading_taken .nil (fun σ => passAt (takes_of rfl rfl rfl rfl) σ) (pa_cons (pe_cmpR op_ltI (pv 1) (pe_glob (v := V.int 12) (by rfl) T.c_DEEP ⟨_, rfl⟩) (nomark _)) pa_nil)))
      (pss_cons (ps_set (i := 2) sc_Reading_tree.nd rfl (by first | exact Or.inl rfl | exact Or.inr rfl) (pe_methX (pv 0) T.co_Reading.c T.me_Reading_taken (ok_Reading_taken T) (hr.mono (by first | omega | (simp only [Nat.add_eq]; omega))) T.b_Reading_taken .nil (fun σ => passAt (takes_of rfl rfl rfl rfl) σ) (pa_cons (pe_cmpR op_inT (pe_meth0 (pv 0) T.co_Reading.c T.me_Reading_seen (ok_Reading_seen T) (hr.mono (by first | omega | (simp only [Nat.add_eq]; omega))) T.b1_Reading_seen T.v1_Reading_seen pass0) (pe_glob (v := T.gs "WORDS") (by rfl) T.c_WORDS T.r_WORDS) (by rfl)) pa_nil)))
      (pss_cons (ps_if (pt_cmpR op_inT (pv 2) (pe_glob (v := T.gs "PAIRS") (by rfl) T.c_PAIRS T.r_PAIRS) (by rfl)) (pss_cons (ps_set (i := 3) sc_Reading_tree.nd rfl (by first | exact Or.inl rfl | exact Or.inr rfl) (pe_methX (pv 0) T.co_Reading.c T.me_Reading_tree (ok_Reading_tree T n) hr T.b_Reading_tree .nil (fun σ => passAt (takes_of rfl rfl rfl rfl) σ) (pa_cons (pe_op op_addI (pv 1) pe_int) pa_nil)))
      (pss_one (ps_set (i := 4) sc_Reading_tree.nd rfl (by first | exact Or.inl rfl | exact Or.inr rfl) (pe_tup (pa_cons (pv 2) (pa_cons (pv 3) (pa_cons (pe_methX (pv 0) T.co_Reading.c T.me_Reading_tree (ok_Reading_tree T n) hr T.b_Reading_tree .nil (fun σ => passAt (takes_of rfl rfl rfl rfl) σ) (pa_cons (pe_op op_addI (pv 1) pe_int) pa_nil)) pa_nil))))))) (pss_one (ps_if (pt_cmpR op_eq (pv 2) pe_str (nomark _)) (pss_one (ps_set (i := 4) sc_Reading_tree.nd rfl (by first | exact Or.inl rfl | exact Or.inr rfl) (pe_tup (pa_cons (pv 2) (pa_cons (pe_methX (pv 0) T.co_Reading.c T.me_Reading_tree (ok_Reading_tree T n) hr T.b_Reading_tree .nil (fun σ => passAt (takes_of rfl rfl rfl rfl) σ) (pa_cons (pe_op op_addI (pv 1) pe_int) pa_nil)) pa_nil))))) (pss_cons (ps_set (i := 5) sc_Reading_tree.nd rfl (by first | exact Or.inl rfl | exact Or.inr rfl) (pe_ifExp (pt_cmpR op_eq (pv 2) pe_str (nomark _)) (pe_methX0 (pv 0) T.co_Reading.c T.me_Reading_number (ok_Reading_number T) (hr.mono (by first | omega | (simp only [Nat.add_eq]; omega))) T.b_Reading_number .nil (fun σ => passAt (takes_of rfl rfl rfl rfl) σ)) (pe_methX0 (pv 0) T.co_Reading.c T.me_Reading_way (ok_Reading_way T) (hr.mono (by first | omega | (simp only [Nat.add_eq]; omega))) T.b_Reading_way .nil (fun σ => passAt (takes_of rfl rfl rfl rfl) σ))))
      (pss_one (ps_set (i := 4) sc_Reading_tree.nd rfl (by first | exact Or.inl rfl | exact Or.inr rfl) (pe_tup (pa_cons (pv 2) (pa_cons (pv 5) (pa_cons (pe_methX (pv 0) T.co_Reading.c T.me_Reading_tree (ok_Reading_tree T n) hr T.b_Reading_tree .nil (fun σ => passAt (takes_of rfl rfl rfl rfl) σ) (pa_cons (pe_op op_addI (pv 1) pe_int) pa_nil)) pa_nil))))))))))
      (pss_cons (ps_expr (pe_methX (pv 0) T.co_Reading.c T.me_Reading_taken (ok_Reading_taken T) (hr.mono (by first | omega | (simp only [Nat.add_eq]; omega))) T.b_Reading_taken .nil (fun σ => passAt (takes_of rfl rfl rfl rfl) σ) (pa_cons (pe_cmpR op_eq (pe_meth0 (pv 0) T.co_Reading.c T.me_Reading_seen (ok_Reading_seen T) (hr.mono (by first | omega | (simp only [Nat.add_eq]; omega))) T.b1_Reading_seen T.v1_Reading_seen pass0) pe_str (nomark _)) pa_nil)))
      (pss_one (ps_ret (pv 4)))))))), rd_Reading_tree T.gd_WORDS T.gd_PAIRS h (WD E)⟩)
theorem ok_tokens_of (T : TX K mg) : FnOk Pg w K mg base CX0 1 T.a_tokens_of T.d_tokens_of ["text"] (spW0 K P_tokens) :=
  okW T.cs T.F_tokens_of sc_tokens_of ln_tokens_of (fun ds A h cdv Ar outer sh H E hr => ⟨t_tokens_of K, (pss_cons (ps_set (i := 1) sc_tokens_of.nd rfl (by first | exact Or.inl rfl | exact Or.inr rfl) (pe_lst pa_nil))
      (pss_cons (ps_set (i := 2) sc_tokens_of.nd rfl (by first | exact Or.inl rfl | exact Or.inr rfl) pe_str)
      (pss_cons (ps_for PassesOwn.never rfl (pi_enumS (by rfl) T.n_enumerate (pa_cons (pe_op op_addStr (pv 0) pe_str) pa_nil)) (pg_tup rfl (pgs_cons (pg_name (i := 3) sc_tokens_of.nd rfl (by first | exact Or.inl rfl | exact Or.inr rfl)) (pgs_cons (pg_name (i := 4) sc_tokens_of.nd rfl (by first | exact Or.inl rfl | exact Or.inr rfl)) pgs_nil))) (pss_one (ps_if (pt_cmpR op_inSg (pv 4) pe_str (by rfl)) (pss_cons (ps_if (pt_cmpR op_ne (pv 2) pe_str (nomark _)) (pss_one (ps_expr (pe_bm PySem.F.plainAttrs_list PySem.F.slot_list_append PySem.F.type_list_append mt_append (pv 1) (pa_cons (pe_tup (pa_cons (pv 2) (pa_cons (pe_op op_subI (pv 3) (pe_callB c_lenS (by rfl) T.n_len PySem.boot_len (pa_cons (pv 2) pa_nil))) pa_nil))) pa_nil)))) pss_nil)
      (pss_cons (ps_set (i := 2) sc_tokens_of.nd rfl (by first | exact Or.inl rfl | exact Or.inr rfl) pe_str)
      (pss_one (ps_if (pt_cmpR op_ne (pv 4) pe_str (nomark _)) (pss_one (ps_expr (pe_bm PySem.F.plainAttrs_list PySem.F.slot_list_append PySem.F.type_list_append mt_append (pv 1) (pa_cons (pe_tup (pa_cons (pv 4) (pa_cons (pv 3) pa_nil))) pa_nil)))) pss_nil)))) (pss_one (ps_aug (i := 2) sc_tokens_of.nd rfl (by first | exact Or.inl rfl | exact Or.inr rfl) (pv 4) ip_addStr)))))
      (pss_one (ps_ret (pe_op op_catL (pv 1) (pe_lst (pa_cons (pe_tup (pa_cons pe_str (pa_cons (pe_callB c_lenS (by rfl) T.n_len PySem.boot_len (pa_cons (pv 0) pa_nil)) pa_nil))) pa_nil)))))))), rd_tokens_of h⟩)
theorem ok_Reading___init__ (T : TX K mg) : FnOk Pg w K mg base CX0 2 T.mkA_Reading T.d_Reading___init__ ["self", "text"] (spO0 K (P_rdInit T.cs)) :=
  okO0 T.cs T.F_Reading___init__ sc_Reading___init__ ln_Reading___init__ (fun es O A h cdv Ar outer sh H E hr => ⟨t_Reading___init__ K, (pss_cons (ps_fld (pv 0) (pe_call (ok_tokens_of T) (hr.mono (by decide)) (by rfl) T.g_tokens_of T.F_tokens_of.kp T.b_tokens_of .nil pass0 (pa_cons (pv 1) pa_nil)) rfl)
      (pss_one (ps_fld (pv 0) pe_int rfl))), rd_Reading___init__ T.co_Reading h⟩)
theorem ok_read (T : TX K mg) : FnOk Pg w K mg base (L2.CX Pg w) 24 T.a_read T.d_read ["text"] (spW K T.cs P_read) :=
  okWX T.F_read sc_read ln_read (fun ds A h cdv Ar outer sh H E hr => ⟨t_read K T.cs (WD E), (pss_cons (ps_set (i := 1) sc_read.nd rfl (by first | exact Or.inl rfl | exact Or.inr rfl) (pe_make T.mk_Reading (ok_Reading___init__ T) (hr.mono (by decide)) (by rfl) T.g_Reading T.b_Reading___init__ .nil pass0 (pa_cons (pv 0) pa_nil)))
      (pss_cons (ps_set (i := 2) sc_read.nd rfl (by first | exact Or.inl rfl | exact Or.inr rfl) (pe_methX0 (pv 1) T.co_Reading.c T.me_Reading_tree (ok_Reading_tree T 14) (hr.mono (by decide)) T.b1_Reading_tree T.v1_Reading_tree (fun σ => passAt (takes_of rfl rfl rfl rfl) σ)))
      (pss_cons (ps_expr (pe_methX (pv 1) T.co_Reading.c T.me_Reading_taken (ok_Reading_taken T) (hr.mono (by decide)) T.b_Reading_taken .nil (fun σ => passAt (takes_of rfl rfl rfl rfl) σ) (pa_cons (pe_cmpR op_eq (pe_meth0 (pv 1) T.co_Reading.c T.me_Reading_seen (ok_Reading_seen T) (hr.mono (by decide)) T.b1_Reading_seen T.v1_Reading_seen pass0) pe_str (nomark _)) pa_nil)))
      (pss_one (ps_ret (pv 2)))))), rd_read h (WD E)⟩)
theorem ok__law_told (T : TX K mg) : FnOk Pg w K mg base CX0 25 T.a__law_told T.d__law_told ["_law_text_here"] (spW0 K P_told53) :=
  okW T.cs T.F__law_told sc__law_told ln_told53 (fun ds A h cdv Ar outer sh H E hr => ⟨t_told53 K T.cs, (pss_one (ps_try_as (i := 1) (tb := fun W => (tRet (tCallSD (spW K T.cs P_read) [] (WE W) (tCons (tVar 0) tNil)))) (ts := fun a cls d => (tSeq (tIfS (tOr (tB (tCB (rIsD K a cls d (T.cs "Unread")) (tCons (tVar 1) (tCons (tC (V.ref (T.cs "BadRow"))) tNil)))) (tNot (tB (tCB (rIsD K a cls d (T.cs "Unread")) (tCons (tVar 1) (tCons (tC (V.ref (T.cs "Unfit"))) tNil)))))) (tRet (tC V.non)) tNext)
  (tRet (tLst (tCons (tXf a cls d (T.cs "Unread") "word" (tVar 1)) (tCons (tXf a cls d (T.cs "Unread") "at" (tVar 1)) tNil)))))) (Wout := fun _ _ _ _ => False) rfl rfl sc__law_told.nd rfl rfl ⟨rfl, by decide, Or.inl T.g_Unread⟩ takes0 (fun W pn xe tk _ => (pss_one (ps_ret (pe_callSD (ok_read T) (hr.mono (by decide)) (by rfl) T.g_read T.F_read.kp T.b_read .nil (fun σ => passAt tk σ) (pa_cons (pv 0) pa_nil))))) (fun a oe cls d pn hz hf => (pss_cons (ps_if (PW.pt (pw_or (pt_val (pe_callB (call_isD T.xf_Unread T.is_Unread hz hf) (by rfl) T.n_isinstance (by decide +kernel) (pa_cons (pv 1) (pa_cons (pe_glob (v := V.ref (T.cs "BadRow")) (by rfl) T.g_BadRow rfl) pa_nil)))) (pw_or1 (pt_not (pt_val (pe_callB (call_isD T.xf_Unread T.is_Unread hz hf) (by rfl) T.n_isinstance (by decide +kernel) (pa_cons (pv 1) (pa_cons (pe_glob (v := V.ref (T.cs "Unfit")) (by rfl) T.g_Unfit rfl) pa_nil)))))))) (pss_one (ps_ret pe_non)) pss_nil)
      (pss_one (ps_ret (pe_lst (pa_cons (pe_xf T.xf_Unread T.nw_Unread_word hz hf (pv 1)) (pa_cons (pe_xf T.xf_Unread T.nw_Unread_at hz hf (pv 1)) pa_nil))))))))), rd_told53 T.em_Unread_Unread T.ko_Unread_BadRow T.ko_Unread_Unfit h⟩)
theorem ok__law_deep_text (T : TX K mg) : FnOk Pg w K mg base CX0 1 T.a__law_deep_text T.d__law_deep_text ["_law_many"] (spW0 K P_ldeep) :=
  okW T.cs T.F__law_deep_text sc__law_deep_text ln__law_deep_text (fun ds A h cdv Ar outer sh H E hr => ⟨t__law_deep_text K, (pss_one (ps_ret (pe_op op_addStr (pe_op op_addStr (pe_op op_mulT pe_str (pv 0)) pe_str) (pe_op op_mulT pe_str (pv 0))))), rd__law_deep_text h⟩)
theorem ok__law_placed (T : TX K mg) : FnOk Pg w K mg base CX0 1 T.a__law_placed T.d__law_placed ["_law_words_here", "_law_at"] (spW0 K P_lplaced) :=
  okW T.cs T.F__law_placed sc__law_placed ln__law_placed (fun ds A h cdv Ar outer sh H E hr => ⟨t__law_placed K, (pss_one (ps_ret (pe_op op_addI (pe_callB c_lenS (by rfl) T.n_len PySem.boot_len (pa_cons (pe_joinS pe_str (pe_slice sl_list (pv 0) po_none (po_some (pv 1)))) pa_nil)) (pe_callTy c_int1 (by rfl) T.n_int (by decide +kernel) (pa_cons (pe_cmpR op_gtI (pv 1) pe_int (nomark _)) pa_nil))))), rd__law_placed h⟩)
def t_law (K : Fg) : TS := (tSeq (tAsg (tCall (spWB K (P_ltreeN 8)) [] E0 (tCons (tVar 1) (tCons (tOp rAddI (tC (V.int 1)) (tCall (spB K P_pull) [] E0 (tCons (tVar 1) (tCons (tC (V.int 4)) tNil)))) (tCons (tLst (tCons (tC (V.str "a")) (tCons (tC (V.str "b1")) tNil))) tNil)))) (gName 2))
  (tSeq (tAsg (tCall (spW0 K P_lwords) [] E0 (tCons (tCall (spW0 K (P_ltext 26)) [] E0 (tCons (tVar 2) tNil)) tNil)) (gName 3))
  (tSeq (tAsg (tCall (spB K P_pull) [] E0 (tCons (tVar 1) (tCons (tCB (rLenQ K) (tCons (tVar 3) tNil)) tNil))) (gName 4))
  (tSeq (tAsg (tOp (rIx K) (tLst (tCons (tC (V.str "A")) (tCons (tC (V.str "a-b")) (tCons (tC (V.str "2/4")) (tCons (tC (V.str "0x")) (tCons (tC (V.str "1/0")) (tCons (tC (V.str "/")) (tCons (tC (V.str "-0")) (tCons (tC (V.str "abcdefghijklm")) (tCons (tC (V.str "00")) (tCons (tC (V.str "+1")) (tCons (tC (V.str "_a")) tNil)))))))))))) (tCall (spB K P_pull) [] E0 (tCons (tVar 1) (tCons (tC (V.int 11)) tNil)))) (gName 5))
  (tSeq (tAsg (tM1 (rJoin K) (tC (V.str " ")) (tOp (rCatL K) (tOp (rCatL K) (tSl (rSlL K) (tVar 3) tNoPart (tPart (tVar 4))) (tLst (tCons (tVar 5) tNil))) (tSl (rSlL K) (tVar 3) (tPart (tOp rAddI (tVar 4) (tC (V.int 1)))) tNoPart))) (gName 6))
  (tSeq (tIfS (tNot (tB (tCall (spP K (P_like 16)) [] E0 (tCons (tCall (spW0 K P_told53) [] E0 (tCons (tVar 6) tNil)) (tCons (tLst (tCons (tC (V.str "Unread")) (tCons (tCall (spW0 K P_lplaced) [] E0 (tCons (tVar 3) (tCons (tVar 4) tNil))) tNil))) tNil))))) (tRet (tC (V.bl false))) tNext)
  (tSeq (tAsg (tCall (spW0 K P_lglued) [] E0 (tCons (tOp (rCatL K) (tOp (rCatL K) (tSl (rSlL K) (tVar 3) tNoPart (tPart (tVar 4))) (tLst (tCons (tVar 5) tNil))) (tSl (rSlL K) (tVar 3) (tPart (tOp rAddI (tVar 4) (tC (V.int 1)))) tNoPart)) tNil)) (gTup K 2 (gCons (gName 13) (gCons (gName 14) gNil))))
  (tSeq (tIfS (tNot (tB (tCall (spP K (P_like 16)) [] E0 (tCons (tCall (spW0 K P_told53) [] E0 (tCons (tVar 13) tNil)) (tCons (tLst (tCons (tC (V.str "Unread")) (tCons (tOp (rIx K) (tVar 14) (tVar 4)) tNil))) tNil))))) (tRet (tC (V.bl false))) tNext)
  (tSeq (tAsg (tOp rAddStr (tM1 (rJoin K) (tC (V.str " ")) (tSl (rSlL K) (tVar 3) tNoPart (tPart (tVar 4)))) (tOp rMulT (tC (V.str " ")) (tCall (spB K P_pull) [] E0 (tCons (tVar 1) (tCons (tC (V.int 3)) tNil))))) (gName 7))
  (tSeq (tIfS (tNot (tB (tCall (spP K (P_like 16)) [] E0 (tCons (tCall (spW0 K P_told53) [] E0 (tCons (tVar 7) tNil)) (tCons (tLst (tCons (tC (V.str "Unread")) (tCons (tCB rLenS (tCons (tVar 7) tNil)) tNil))) tNil))))) (tRet (tC (V.bl false))) tNext)
  (tSeq (tAsg (tOp (rIx K) (tLst (tCons (tC (V.str "a")) (tCons (tC (V.str "(")) (tCons (tC (V.str ")")) (tCons (tC (V.str "2")) (tCons (tC (V.str "turn")) tNil)))))) (tCall (spB K P_pull) [] E0 (tCons (tVar 1) (tCons (tC (V.int 5)) tNil)))) (gName 8))
  (tSeq (tAsg (tM1 (rJoin K) (tC (V.str " ")) (tVar 3)) (gName 9))
  (tSeq (tIfS (tNot (tB (tCall (spP K (P_like 16)) [] E0 (tCons (tCall (spW0 K P_told53) [] E0 (tCons (tOp rAddStr (tOp rAddStr (tVar 9) (tC (V.str " "))) (tVar 8)) tNil)) (tCons (tLst (tCons (tC (V.str "Unread")) (tCons (tOp rAddI (tCB rLenS (tCons (tVar 9) tNil)) (tC (V.int 1))) tNil))) tNil))))) (tRet (tC (V.bl false))) tNext)
  (tSeq (tIfS (tNot (tB (tCall (spP K (P_like 16)) [] E0 (tCons (tCall (spW0 K P_told53) [] E0 (tCons (tCall (spW0 K P_ldeep) [] E0 (tCons (tC (V.int 13)) tNil)) tNil)) (tCons (tLst (tCons (tC (V.str "Unread")) (tCons (tC (V.int 72)) tNil))) tNil))))) (tRet (tC (V.bl false))) tNext)
  (tSeq (tIfS (tB (tCB (rIsi K) (tCons (tCall (spW0 K P_told53) [] E0 (tCons (tCall (spW0 K P_ldeep) [] E0 (tCons (tC (V.int 12)) tNil)) tNil)) (tCons (tC (V.ty "list")) tNil)))) (tRet (tC (V.bl false))) tNext)
  (tSeq (tAsg (tCall (spB K P_pull) [] E0 (tCons (tVar 1) (tCons (tC (V.int 21)) tNil))) (gName 10))
  (tSeq (tAsg (tLst (tCons (tTup (tCons (tC (V.str "(turn a b)")) (tCons (tC (V.int 8)) tNil))) (tCons (tTup (tCons (tC (V.str "(add a)")) (tCons (tC (V.int 6)) tNil))) (tCons (tTup (tCons (tC (V.str "(times a a)")) (tCons (tC (V.int 7)) tNil))) (tCons (tTup (tCons (tC (V.str "(times 1/2 a)")) (tCons (tC (V.int 7)) tNil))) tNil))))) (gName 11))
  (tSeq (tAsg (tOp (rCatL K) (tVar 11) (tLst (tCons (tTup (tCons (tC (V.str "(carry a)")) (tCons (tC (V.int 7)) tNil))) (tCons (tTup (tCons (tC (V.str "turn")) (tCons (tC (V.int 0)) tNil))) (tCons (tTup (tCons (tC (V.str "(carry (1) a)")) (tCons (tC (V.int 9)) tNil))) (tCons (tTup (tCons (tC (V.str "(carry (1 0 2 3) a)")) (tCons (tC (V.int 14)) tNil))) tNil)))))) (gName 11))
  (tSeq (tAsg (tOp (rCatL K) (tVar 11) (tLst (tCons (tTup (tCons (tC (V.str "(carry (1 0) (1 0 0) a)")) (tCons (tC (V.int 18)) tNil))) (tCons (tTup (tCons (tC (V.str "()")) (tCons (tC (V.int 1)) tNil))) (tCons (tTup (tCons (tC (V.str "")) (tCons (tC (V.int 0)) tNil))) (tCons (tTup (tCons (tC (V.str "(carry (1 0 0) (1 0) a)")) (tCons (tC (V.int 19)) tNil))) tNil)))))) (gName 11))
  (tSeq (tAsg (tOp (rCatL K) (tVar 11) (tLst (tCons (tTup (tCons (tC (V.str "(carry (1 0) (1 0) (1 0) a)")) (tCons (tC (V.int 20)) tNil))) (tCons (tTup (tCons (tOp rAddStr (tOp rAddStr (tC (V.str "(times 1")) (tOp rMulT (tC (V.str "0")) (tC (V.int 18)))) (tC (V.str " a)"))) (tCons (tC (V.int 7)) tNil))) tNil)))) (gName 11))
  (tSeq (tAsg (tOp (rCatL K) (tVar 11) (tLst (tCons (tTup (tCons (tOp rAddStr (tOp rAddStr (tC (V.str "(carry (1")) (tOp rMulT (tC (V.str "0")) (tC (V.int 18)))) (tC (V.str " 0) a)"))) (tCons (tC (V.int 8)) tNil))) (tCons (tTup (tCons (tOp rAddStr (tOp rAddStr (tC (V.str "(carry (1 1/1")) (tOp rMulT (tC (V.str "0")) (tC (V.int 18)))) (tC (V.str ") a)"))) (tCons (tC (V.int 10)) tNil))) tNil)))) (gName 11))
  (tSeq (tAsg (tOp (rCatL K) (tVar 11) (tLst (tCons (tTup (tCons (tC (V.str "(a b)")) (tCons (tC (V.int 1)) tNil))) (tCons (tTup (tCons (tC (V.str "(turn 2)")) (tCons (tC (V.int 6)) tNil))) (tCons (tTup (tCons (tC (V.str ")")) (tCons (tC (V.int 0)) tNil))) (tCons (tTup (tCons (tC (V.str "(carry (1 0) ())")) (tCons (tC (V.int 14)) tNil))) (tCons (tTup (tCons (tC (V.str "(lay a (b))")) (tCons (tC (V.int 8)) tNil))) tNil))))))) (gName 11))
  (tSeq (tFor (iRng1 (tCons (tC (V.int 6)) tNil)) (gName 12) (tSeq (tAsg (tOp (rIx K) (tVar 11) (tOp rModI (tOp rAddI (tVar 10) (tOp rMulI (tC (V.int 5)) (tVar 12))) (tC (V.int 21)))) (gTup K 2 (gCons (gName 15) (gCons (gName 16) gNil))))
  (tIfS (tNot (tB (tCall (spP K (P_like 16)) [] E0 (tCons (tCall (spW0 K P_told53) [] E0 (tCons (tVar 15) tNil)) (tCons (tLst (tCons (tC (V.str "Unread")) (tCons (tVar 16) tNil))) tNil))))) (tRet (tC (V.bl false))) tNext)))
  (tRet (tC (V.bl true))))))))))))))))))))))))))
-- slots of law: 0 _law_script, 1 _law_bag_here, 2 _law_tree_here, 3 _law_words_here, 4 _law_at, 5 _law_bad, 6 _law_spoilt, 7 _law_cut, 8 _law_more, 9 _law_whole, 10 _law_many, 11 _law_odds, 12 _law_turn, 13 _law_glued_here, 14 _law_places, 15 _law_text_here, 16 _law_due
theorem cut_spoil {ws : List (List Nat)} {k : Nat} {b : List Nat} : cutD ((ws.map tx).map PyData.str) none (some (k : Int)) ++ [.str (tx b)] ++ cutD ((ws.map tx).map PyData.str) (some ((k : Int) + 1)) none = ((ws.take k ++ [b] ++ ws.drop (k + 1)).map tx).map PyData.str := qt_of (by simp (disch := with_unfolding_all
  rw [cutD_to, show ((k : Int) + 1) = ((k + 1 : Nat) : Int) by omega, cutD_from, ← List.map_take, ← List.map_drop, ← List.map_take, ← List.map_drop, List.map_append, List.map_append, List.map_append, List.map_append]
  rfl
  ) only [↓qt_eq])
def errAt : Except Nat Tr → Option Nat
  | .error p => some p
  | .ok _ => none
theorem read_err {l : List Nat} {p : Nat} (h : errAt (readT l) = some p) : readT l = .error p := by
  cases e : readT l with
  | error q => rw [e] at h; cases h; rfl
  | ok t => rw [e] at h; cases h
theorem deep_eq (n : Nat) : deepL n = repT n [40, 116, 117, 114, 110, 32] ++ [97] ++ repT n [41] := by
  unfold deepL
  rw [show TL.tl ("(turn " : Str) = [40, 116, 117, 114, 110, 32] by rw [TL.tl_ofString]; rfl]
theorem deep13 : readT (deepL 13) = .error 72 := read_err (by rw [deep_eq]; decide +kernel)
theorem deep12 {p : Nat} (h : readT (deepL 12) = .error p) : False := by
  have e : errAt (readT (deepL 12)) = none := by rw [deep_eq]; decide +kernel
  rw [h] at e
  cases e
theorem deep_len (n : Nat) (h : n ≤ 13) : (deepL n).length ≤ 99990 := by
  rw [deep_eq, List.length_append, List.length_append, repT_len, repT_len]
  simp only [List.length_cons, List.length_nil]
  omega
theorem enc_nolist (t : Tr) : kitB (tyN t.enc) "list" = some false := by
  cases t <;> (show kitB "tuple" "list" = some false; decide)
noncomputable def oddsS : List (Str × Nat) := [("(turn a b)", 8), ("(add a)", 6), ("(times a a)", 7), ("(times 1/2 a)", 7), ("(carry a)", 7), ("turn", 0), ("(carry (1) a)", 9), ("(carry (1 0 2 3) a)", 14),
  ("(carry (1 0) (1 0 0) a)", 18), ("()", 1), ("", 0), ("(carry (1 0 0) (1 0) a)", 19), ("(carry (1 0) (1 0) (1 0) a)", 20), (("(times 1" ++ repSt 18 "0") ++ " a)", 7),
  (("(carry (1" ++ repSt 18 "0") ++ " 0) a)", 8), (("(carry (1 1/1" ++ repSt 18 "0") ++ ") a)", 10), ("(a b)", 1), ("(turn 2)", 6), (")", 0), ("(carry (1 0) ())", 14), ("(lay a (b))", 8)]
abbrev oddD (p : Str × Nat) : PyData := .tuple [.str p.1, .int (p.2 : Nat)]
theorem tl_repSt (n : Nat) (a : Str) : TL.tl (repSt n a) = repT n (TL.tl a) := rfl
theorem odd_one {s : Str} {n : Nat} {l : List Nat} (e : TL.tl s = l) (h : l.length ≤ 99990 ∧ errAt (readT l) = some n) : (TL.tl s).length ≤ 99990 ∧ readT (TL.tl s) = .error n := by
  rw [e]; exact ⟨h.1, read_err h.2⟩
theorem odds_ok : ∀ p ∈ oddsS, (TL.tl p.1).length ≤ 99990 ∧ readT (TL.tl p.1) = .error p.2 := qt_of (by simp (disch := with_unfolding_all
  intro p hp
  simp only [oddsS, List.mem_cons, List.not_mem_nil, or_false] at hp
  rcases hp with rfl | rfl | rfl | rfl | rfl | rfl | rfl | rfl | rfl | rfl | rfl | rfl | rfl | rfl | rfl | rfl | rfl | rfl | rfl | rfl | rfl <;>
    first | (refine odd_one (TL.tl_ofString _) ?_; decide +kernel) | (refine odd_one (show TL.tl ((_ ++ _) ++ _) = _ from by rw [TL.tl_append, TL.tl_append, tl_repSt, TL.tl_ofString, TL.tl_ofString, TL.tl_ofString]) ?_; decide +kernel)
  ) only [↓qt_eq])
theorem okE_un {n : Nat} (s : Str) (i : Int) : okD (n + 1) (.list [.str s, .int i]) = true := okD_list (by simp) fun x hx => by
  simp only [List.mem_cons, List.not_mem_nil, or_false] at hx
  rcases hx with rfl | rfl
  · exact okE_str _ _
  · exact okE_int _ _
theorem rd_law (ns : List Int) (hl : ns.length ≤ 63) : SW K cs W0 (t_law K) (.d (.list (ns.map PyData.int)) :: .bag :: List.replicate (17 - 2) .un) (fun o => o = .rt (.bool true)) := qt_of (by simp (disch := with_unfolding_all
  unfold t_law
  refine sw_seq ?_
  walk_at "s"
  rename_i v v0 v1
  obtain ⟨d, rfl⟩ := Int.eq_ofNat_of_zero_le v0
  rw [show (1 : Int) + (d : Int) = ((d + 1 : Nat) : Int) by omega]
  refine c_ltreeN (ns := ["a", "b1"]) (by omega) (Nat.le_refl _) (by decide) (by decide) fun t w0 b0 d0 n0 => ?_
  obtain ⟨Ht, _⟩ := t52_of (fun s hs => by
    simp only [List.mem_cons, List.not_mem_nil, or_false] at hs
    rcases hs with rfl | rfl <;> (rw [TL.tl_ofString]; decide +kernel)) w0 b0 (by omega) n0
  have wl := Ht.wl
  have wd := wds_ok Ht.rd
  have wl2 : wlen t.wds ≤ 40000 ∧ t.wds.length ≤ 2000 := by
    have n := Tr.nn_depth t
    have m : 2 ^ (t.depth + 1) ≤ 2 ^ 7 := Nat.pow_le_pow_right (by decide) (by have := Ht.dp; omega)
    have w := wds_wl Ht.rd
    omega
  have dp12 : t.depth ≤ 12 := by have := Ht.dp; omega
  have l0 : 0 < t.wds.length := List.length_pos_iff.mpr wd.1
  have lm : ((t.wds.map tx).map PyData.str).length = t.wds.length := by rw [List.length_map, List.length_map]
  walk_at "s"
  refine sw_seq ?_
  walk_at "s"
  refine Ht.ltext ?_
  walk_at "s"
  refine c_lwords Ht.len (pl_txt Ht.rd).gc ?_
  rw [tkn_txt Ht.rd]
  walk_at "s"
  refine sw_seq ?_
  walk_at "s"
  rename_i k k0 k1
  obtain ⟨k, rfl⟩ := Int.eq_ofNat_of_zero_le k0
  have hk : k < t.wds.length := by rw [lm] at k1; omega
  clear k0 k1
  refine sw_seq ?_
  walk_at "s"
  refine ⟨by decide, _, rfl, ?_⟩
  walk_at "s"
  rename_i u u0 u1
  obtain ⟨z, mz, ez⟩ := menu_at (xs := badsS.map PyData.str) u0 u1
  refine ⟨z, ez, ?_⟩
  obtain ⟨bs, hbs, rfl⟩ := List.mem_map.mp mz
  obtain ⟨B, hb0, hbl⟩ := bads_ok bs hbs
  rw [← tx_tlS bs]
  generalize TL.tl bs = b at B hb0 hbl
  clear mz ez u0 u1
  walk_at "s"
  refine sw_seq ?_
  walk_at "s"
  have c1 : (cutD ((t.wds.map tx).map PyData.str) none (some (k : Int))).length ≤ 99990 := by rw [cutD_to, List.length_take, lm]; omega
  have c2 : (cutD ((t.wds.map tx).map PyData.str) (some ((k : Int) + 1)) none).length ≤ 99990 := by rw [show ((k : Int) + 1) = ((k + 1 : Nat) : Int) by omega, cutD_from, List.length_drop, lm]; omega
  have z1 : (cutD ((t.wds.map tx).map PyData.str) none (some (k : Int))).length + [PyData.str (tx b)].length ≤ 16000000 := by rw [List.length_singleton]; omega
  have z2 : (cutD ((t.wds.map tx).map PyData.str) none (some (k : Int)) ++ [PyData.str (tx b)]).length + (cutD ((t.wds.map tx).map PyData.str) (some ((k : Int) + 1)) none).length ≤ 16000000 := by rw [List.length_append, List.length_singleton]; omega
  have ws1 : ∀ x ∈ t.wds.take k ++ [b] ++ t.wds.drop (k + 1), Wd1 x := fun x hx => by
    rcases List.mem_append.mp hx with hx | hx
    · rcases List.mem_append.mp hx with hx | hx
      · exact wd.2 x (List.mem_of_mem_take hx)
      · rw [List.mem_singleton.mp hx]; exact .inr (.inr hb0)
    · exact wd.2 x (List.mem_of_mem_drop hx)
  have wl1 : wlen (t.wds.take k ++ [b] ++ t.wds.drop (k + 1)) ≤ wlen t.wds + 14 := by
    rw [wlen_app, wlen_app, wlen_cons, wlen_nil]
    have e := wlen_app (t.wds.take k) (t.wds.drop k)
    rw [List.take_append_drop] at e
    have e2 := wlen_app (t.wds.drop k |>.take 1) (t.wds.drop k |>.drop 1)
    rw [List.take_append_drop, List.drop_drop] at e2
    omega
  have ln1 : (t.wds.take k ++ [b] ++ t.wds.drop (k + 1)).length = t.wds.length := by simp; omega
  refine ⟨z1, _, rfl, ?_⟩
  walk_at "s"
  refine ⟨z2, ?_⟩
  rw [cut_spoil]
  have jl := Jn_wlen (t.wds.take k ++ [b] ++ t.wds.drop (k + 1))
  refine jn_ok (ws := t.wds.take k ++ [b] ++ t.wds.drop (k + 1)) (by omega) ?_
  rw [join_tx]
  refine sw_seq ?_
  walk_at "s"
  refine c_told53 (by omega) (read_spoilt Ht.rd dp12 B hb0 hk) ?_
  walk_at "s"
  refine ⟨t.wds, k, rfl, by omega, ?_⟩
  walk_at "s"
  refine c_like16 rfl (okE_un _ _) ?_
  walk_at "s"
  refine sw_seq ?_
  walk_at "s"
  refine ⟨z1, _, rfl, ?_⟩
  walk_at "s"
  refine ⟨z2, ?_⟩
  rw [cut_spoil]
  walk_at "s"
  refine ⟨t.wds.take k ++ [b] ++ t.wds.drop (k + 1), rfl, by omega, by omega, ws1, fun f pre hf hpm hfl => ?_⟩
  refine gw_tup (xs := [.str (tx f), .list (pre.map fun t => .int (t.2 : Nat))]) rfl (gsw_cons (gw_name (gsw_cons (gw_name (gsw_nil ?_)))))
  have pk : pre.length = t.wds.length := by
    have := congrArg List.length hpm
    rw [List.length_map, ln1] at this
    exact this
  obtain ⟨q, hq⟩ : ∃ q, pre[k]? = some q := ⟨pre[k]'(by omega), List.getElem?_eq_getElem _⟩
  have hat : atI (pre.map fun t => PyData.int (t.2 : Nat)) (k : Int) = some (.int (q.2 : Nat)) := atI_nat (by rw [List.getElem?_map, hq]; rfl)
  have hrd : readT f = .error q.2 := read_bad Ht.rd dp12 B hf (by rw [hpm, List.append_assoc]; rfl) hk (by rw [hq]; rfl)
  walk_at "s"
  refine sw_seq ?_
  walk_at "s"
  refine c_told53 hfl hrd ?_
  walk_at "s"
  refine ⟨_, hat, ?_⟩
  walk_at "s"
  refine c_like16 rfl (okE_un _ _) ?_
  walk_at "s"
  refine sw_seq ?_
  walk_at "s"
  rw [cutD_to, ← List.map_take, ← List.map_take]
  have wt := wlen_take t.wds k
  refine jn_ok (ws := t.wds.take k) (by omega) ?_
  rw [join_tx]
  have jl2 := Jn_wlen (t.wds.take k)
  walk_at "s"
  rename_i j j0 j1
  obtain ⟨j, rfl⟩ := Int.eq_ofNat_of_zero_le j0
  have jl3 : (Jn (t.wds.take k) ++ sps j).length ≤ 99990 := by rw [List.length_append, List.length_replicate]; omega
  refine ⟨j, rfl, by decide, by omega, _, rfl, ?_⟩
  rw [rep_sp, tx_app]
  refine ⟨by rw [tx_len, tx_len, ← List.length_append]; exact Nat.le_trans jl3 (by decide), ?_⟩
  refine sw_seq ?_
  walk_at "s"
  refine c_told53 jl3 (read_cut2 Ht.rd dp12 hk) ?_
  walk_at "s"
  refine ⟨_, rfl, by rw [tx_len]; exact Nat.le_trans jl3 (by decide), ?_⟩
  rw [tx_len]
  walk_at "s"
  refine c_like16 rfl (okE_un _ _) ?_
  walk_at "s"
  refine sw_seq ?_
  walk_at "s"
  refine ⟨by decide, _, rfl, ?_⟩
  walk_at "s"
  rename_i m m0 m1
  obtain ⟨z, mz, ez⟩ := menu_at (xs := (["a", "(", ")", "2", "turn"] : List Str).map PyData.str) m0 m1
  refine ⟨z, ez, ?_⟩
  obtain ⟨mo, hmo, rfl⟩ := List.mem_map.mp mz
  have hm1 : Wd1 (TL.tl mo) ∧ (TL.tl mo).length ≤ 4 := by
    simp only [List.mem_cons, List.not_mem_nil, or_false] at hmo
    rcases hmo with rfl | rfl | rfl | rfl | rfl <;> (rw [TL.tl_ofString])
    · exact ⟨.inr (.inr (by decide)), by decide⟩
    · exact ⟨.inl rfl, by decide⟩
    · exact ⟨.inr (.inl rfl), by decide⟩
    · exact ⟨.inr (.inr (by decide)), by decide⟩
    · exact ⟨.inr (.inr (by decide)), by decide⟩
  rw [← tx_tlS mo]
  generalize TL.tl mo = more at hm1
  clear mz ez hmo
  walk_at "s"
  refine sw_seq ?_
  walk_at "s"
  refine jn_ok (ws := t.wds) (by omega) ?_
  rw [join_tx]
  have jl4 := Jn_wlen t.wds
  refine sw_seq ?_
  walk_at "s"
  refine ⟨by rw [tx_len]; exact Nat.le_trans (show (Jn t.wds).length + 1 ≤ 100000 by omega) (by decide), _, rfl, ?_⟩
  rw [tx_blank, tx_app]
  walk_at "s"
  refine ⟨by rw [tx_len, tx_len, List.length_append]; exact Nat.le_trans (show (Jn t.wds).length + 1 + more.length ≤ 100000 by omega) (by decide), ?_⟩
  rw [tx_app]
  walk_at "s"
  refine c_told53 (by rw [List.length_append, List.length_append, List.length_singleton]; omega) (read_more2 Ht.rd dp12 hm1.1) ?_
  walk_at "s"
  refine ⟨_, rfl, by rw [tx_len]; exact Nat.le_trans (show (Jn t.wds).length ≤ 100000 by omega) (by decide), ?_⟩
  rw [tx_len]
  walk_at "s"
  rw [show (((Jn t.wds).length : Nat) : Int) + 1 = (((Jn t.wds).length + 1 : Nat) : Int) by omega]
  refine c_like16 rfl (okE_un _ _) ?_
  walk_at "s"
  refine sw_seq ?_
  walk_at "s"
  refine ⟨13, rfl, by decide, ?_⟩
  walk_at "s"
  refine c_told53 (deep_len 13 (by decide)) deep13 ?_
  walk_at "s"
  refine c_like16 rfl (okE_un _ _) ?_
  walk_at "s"
  refine sw_seq ?_
  walk_at "s"
  refine ⟨12, rfl, by decide, ?_⟩
  walk_at "s"
  refine ⟨deepL 12, rfl, deep_len 12 (by decide), fun p e => (deep12 e).elim, fun t2 _ => ?_⟩
  walk_at "s"
  refine ⟨false, enc_nolist t2, false, rfl, cnd_f ?_⟩
  walk_at "s"
  refine sw_seq ?_
  walk_at "s"
  rename_i my my0 my1
  refine sw_seq ?_
  walk_at "s"
  refine ⟨by decide, ?_⟩
  refine sw_seq ?_
  walk_at "s"
  refine ⟨by decide, _, rfl, by decide, ?_⟩
  refine sw_seq ?_
  walk_at "s"
  refine ⟨by decide, _, rfl, by decide, ?_⟩
  refine sw_seq ?_
  walk_at "s"
  refine ⟨18, rfl, by decide, by decide, _, rfl, by decide +kernel, _, rfl, ?_⟩
  walk_at "s"
  refine ⟨by decide +kernel, ?_⟩
  walk_at "s"
  refine ⟨by decide, ?_⟩
  refine sw_seq ?_
  walk_at "s"
  refine ⟨18, rfl, by decide, by decide, _, rfl, by decide +kernel, _, rfl, ?_⟩
  walk_at "s"
  refine ⟨by decide +kernel, ?_⟩
  walk_at "s"
  refine ⟨18, rfl, by decide, by decide, _, rfl, by decide +kernel, _, rfl, ?_⟩
  walk_at "s"
  refine ⟨by decide +kernel, ?_⟩
  walk_at "s"
  refine ⟨by decide, ?_⟩
  refine sw_seq ?_
  walk_at "s"
  refine ⟨by decide, _, rfl, by decide, ?_⟩
  refine sw_seq ?_
  show SW K cs W0 _ [.d (.list (ns.map PyData.int)), .bag, .d t.enc, .d (strsD t.wds), .d (.int (k : Nat)), .d (.str (tx b)), .d (.str (tx (Jn (t.wds.take k ++ [b] ++ t.wds.drop (k + 1))))), .d (.str (tx (Jn (t.wds.take k) ++ sps j))), .d (.str (tx more)), .d (.str (tx (Jn t.wds))), .d (.int my), .d (.list (oddsS.map oddD)), .un, .d (.str (tx f)), .d (.list (pre.map fun t => PyData.int (t.2 : Nat))), .un, .un] _
  walk_at "s"
  refine forN (k := 6) (fun i G => ∃ e2 e3 e4 e5 e6 e7 e8 e9 e12 e13 e14 e15 e16, G = [.d (.list (ns.map PyData.int)), .bag, e2, e3, e4, e5, e6, e7, e8, e9, .d (.int my), .d (.list (oddsS.map oddD)), e12, e13, e14, e15, e16]) ⟨_, _, _, _, _, _, _, _, _, _, _, _, _, rfl⟩ ?_ ?_
  · rintro i _ hi ⟨e2, e3, e4, e5, e6, e7, e8, e9, e12, e13, e14, e15, e16, rfl⟩
    refine gw_name ?_
    refine sw_seq ?_
    walk_at "s"
    refine ⟨c_small (by decide) (by rw [Int.natAbs_natCast]; exact Nat.le_trans (Nat.le_of_lt hi) (by decide)), _, rfl, _, rfl, ?_⟩
    walk_at "s"
    have f0 : 0 ≤ (my + 5 * (i : Int)).fmod 21 := Int.fmod_nonneg_of_pos _ (by decide)
    have f1 : (my + 5 * (i : Int)).fmod 21 < (oddsS.length : Int) := Int.fmod_lt_of_pos _ (by decide)
    obtain ⟨q, hq, eq⟩ := atI_in (f := oddD) f0 f1
    obtain ⟨o1, o2⟩ := odds_ok q hq
    refine ⟨by unfold CNz; decide, _, rfl, _, eq, ?_⟩
    refine gw_tup (xs := [.str q.1, .int (q.2 : Nat)]) rfl (gsw_cons (gw_name (gsw_cons (gw_name (gsw_nil ?_)))))
    rw [← tx_tlS q.1]
    generalize TL.tl q.1 = l at o1 o2
    walk_at "s"
    refine c_told53 o1 o2 ?_
    walk_at "s"
    refine c_like16 rfl (okE_un _ _) ?_
    walk_at "s"
    exact ⟨_, _, _, _, _, _, _, _, _, _, _, _, _, rfl⟩
  · rintro _ ⟨e2, e3, e4, e5, e6, e7, e8, e9, e12, e13, e14, e15, e16, rfl⟩
    walk_at "s"
    rfl
  ) only [↓qt_eq])
theorem ok_law (T : TX K mg) {f : Addr} {fd : FuncData} (F : Fun K "law" "law" s_law f fd) : FnOk Pg w K mg base CX0 31 f fd ["_law_script"] (spP K PLaw) :=
  okLawW T.cs F sc_law rfl (by decide) (fun ns hl cdv A outer sh H E hr => ⟨t_law K, (pss_cons (ps_set (i := 1) sc_law.nd rfl (by first | exact Or.inl rfl | exact Or.inr rfl) (pe_call (ok__law_bag T) (hr.mono (by decide)) (by rfl) T.g__law_bag T.F__law_bag.kp T.b__law_bag .nil pass0 (pa_cons (pv 0) pa_nil)))
      (pss_consT (pst_setg (i := 2) sc_law.nd rfl (by first | exact Or.inl rfl | exact Or.inr rfl) (peg_call (ok__law_tree T 8) (hr.mono (by decide)) (by rfl) T.g__law_tree T.F__law_tree.kp T.b__law_tree .nil pass0 (pag_there (pv 1) (pag_here (peg_opL op_addI peg_int (pe_call (ok__law_pull T) (hr.mono (by decide)) (by rfl) T.g__law_pull T.F__law_pull.kp T.b__law_pull .nil pass0 (pa_cons (pv 1) (pa_cons pe_int pa_nil)))) (pa_cons (pe_lst (pa_cons pe_str (pa_cons pe_str pa_nil))) pa_nil)))))
      (psst_cons (pst_set (i := 3) sc_law.nd rfl (by first | exact Or.inl rfl | exact Or.inr rfl) (pet_callT (ok__law_words T) (hr.mono (by decide)) (by rfl) T.g__law_words T.F__law_words.kp T.b__law_words .nil pass0 (pa_cons (pe_call (ok__law_text T 26) (hr.mono (by decide)) (by rfl) T.g__law_text T.F__law_text.kp T.b__law_text .nil pass0 (pa_cons (pv 2) pa_nil)) pa_nil)))
      (PSsT.of (pss_cons (ps_set (i := 4) sc_law.nd rfl (by first | exact Or.inl rfl | exact Or.inr rfl) (pe_call (ok__law_pull T) (hr.mono (by decide)) (by rfl) T.g__law_pull T.F__law_pull.kp T.b__law_pull .nil pass0 (pa_cons (pv 1) (pa_cons (pe_callB c_len (by rfl) T.n_len PySem.boot_len (pa_cons (pv 3) pa_nil)) pa_nil))))
      (pss_cons (ps_set (i := 5) sc_law.nd rfl (by first | exact Or.inl rfl | exact Or.inr rfl) (pe_ix ix_seq (pe_lst (pa_cons pe_str (pa_cons pe_str (pa_cons pe_str (pa_cons pe_str (pa_cons pe_str (pa_cons pe_str (pa_cons pe_str (pa_cons pe_str (pa_cons pe_str (pa_cons pe_str (pa_cons pe_str pa_nil)))))))))))) (pe_call (ok__law_pull T) (hr.mono (by decide)) (by rfl) T.g__law_pull T.F__law_pull.kp T.b__law_pull .nil pass0 (pa_cons (pv 1) (pa_cons pe_int pa_nil))) (fun _ _ => rfl)))
      (pss_cons (ps_set (i := 6) sc_law.nd rfl (by first | exact Or.inl rfl | exact Or.inr rfl) (pe_joinS pe_str (pe_op op_catL (pe_op op_catL (pe_slice sl_list (pv 3) po_none (po_some (pv 4))) (pe_lst (pa_cons (pv 5) pa_nil))) (pe_slice sl_list (pv 3) (po_some (pe_op op_addI (pv 4) pe_int)) po_none))))
      (pss_cons (ps_if (pt_not (pt_val (pe_call (ok__law_like T 16) (hr.mono (by decide)) (by rfl) T.g__law_like T.F__law_like.kp T.b__law_like .nil pass0 (pa_cons (pe_call (ok__law_told T) (hr.mono (by decide)) (by rfl) T.g__law_told T.F__law_told.kp T.b__law_told .nil pass0 (pa_cons (pv 6) pa_nil)) (pa_cons (pe_lst (pa_cons pe_str (pa_cons (pe_call (ok__law_placed T) (hr.mono (by decide)) (by rfl) T.g__law_placed T.F__law_placed.kp T.b__law_placed .nil pass0 (pa_cons (pv 3) (pa_cons (pv 4) pa_nil))) pa_nil))) pa_nil))))) (pss_one (ps_ret pe_bl)) pss_nil)
      (pss_cons (ps_asg (pe_call (ok__law_glued T) (hr.mono (by decide)) (by rfl) T.g__law_glued T.F__law_glued.kp T.b__law_glued .nil pass0 (pa_cons (pe_op op_catL (pe_op op_catL (pe_slice sl_list (pv 3) po_none (po_some (pv 4))) (pe_lst (pa_cons (pv 5) pa_nil))) (pe_slice sl_list (pv 3) (po_some (pe_op op_addI (pv 4) pe_int)) po_none)) pa_nil)) (pg_tup rfl (pgs_cons (pg_name (i := 13) sc_law.nd rfl (by first | exact Or.inl rfl | exact Or.inr rfl)) (pgs_cons (pg_name (i := 14) sc_law.nd rfl (by first | exact Or.inl rfl | exact Or.inr rfl)) pgs_nil))))
      (pss_cons (ps_if (pt_not (pt_val (pe_call (ok__law_like T 16) (hr.mono (by decide)) (by rfl) T.g__law_like T.F__law_like.kp T.b__law_like .nil pass0 (pa_cons (pe_call (ok__law_told T) (hr.mono (by decide)) (by rfl) T.g__law_told T.F__law_told.kp T.b__law_told .nil pass0 (pa_cons (pv 13) pa_nil)) (pa_cons (pe_lst (pa_cons pe_str (pa_cons (pe_ix ix_seq (pv 14) (pv 4) (fun _ _ => rfl)) pa_nil))) pa_nil))))) (pss_one (ps_ret pe_bl)) pss_nil)
      (pss_cons (ps_set (i := 7) sc_law.nd rfl (by first | exact Or.inl rfl | exact Or.inr rfl) (pe_op op_addStr (pe_joinS pe_str (pe_slice sl_list (pv 3) po_none (po_some (pv 4)))) (pe_op op_mulT pe_str (pe_call (ok__law_pull T) (hr.mono (by decide)) (by rfl) T.g__law_pull T.F__law_pull.kp T.b__law_pull .nil pass0 (pa_cons (pv 1) (pa_cons pe_int pa_nil))))))
      (pss_cons (ps_if (pt_not (pt_val (pe_call (ok__law_like T 16) (hr.mono (by decide)) (by rfl) T.g__law_like T.F__law_like.kp T.b__law_like .nil pass0 (pa_cons (pe_call (ok__law_told T) (hr.mono (by decide)) (by rfl) T.g__law_told T.F__law_told.kp T.b__law_told .nil pass0 (pa_cons (pv 7) pa_nil)) (pa_cons (pe_lst (pa_cons pe_str (pa_cons (pe_callB c_lenS (by rfl) T.n_len PySem.boot_len (pa_cons (pv 7) pa_nil)) pa_nil))) pa_nil))))) (pss_one (ps_ret pe_bl)) pss_nil)
      (pss_cons (ps_set (i := 8) sc_law.nd rfl (by first | exact Or.inl rfl | exact Or.inr rfl) (pe_ix ix_seq (pe_lst (pa_cons pe_str (pa_cons pe_str (pa_cons pe_str (pa_cons pe_str (pa_cons pe_str pa_nil)))))) (pe_call (ok__law_pull T) (hr.mono (by decide)) (by rfl) T.g__law_pull T.F__law_pull.kp T.b__law_pull .nil pass0 (pa_cons (pv 1) (pa_cons pe_int pa_nil))) (fun _ _ => rfl)))
      (pss_cons (ps_set (i := 9) sc_law.nd rfl (by first | exact Or.inl rfl | exact Or.inr rfl) (pe_joinS pe_str (pv 3)))
      (pss_cons (ps_if (pt_not (pt_val (pe_call (ok__law_like T 16) (hr.mono (by decide)) (by rfl) T.g__law_like T.F__law_like.kp T.b__law_like .nil pass0 (pa_cons (pe_call (ok__law_told T) (hr.mono (by decide)) (by rfl) T.g__law_told T.F__law_told.kp T.b__law_told .nil pass0 (pa_cons (pe_op op_addStr (pe_op op_addStr (pv 9) pe_str) (pv 8)) pa_nil)) (pa_cons (pe_lst (pa_cons pe_str (pa_cons (pe_op op_addI (pe_callB c_lenS (by rfl) T.n_len PySem.boot_len (pa_cons (pv 9) pa_nil)) pe_int) pa_nil))) pa_nil))))) (pss_one (ps_ret pe_bl)) pss_nil)
      (pss_cons (ps_if (pt_not (pt_val (pe_call (ok__law_like T 16) (hr.mono (by decide)) (by rfl) T.g__law_like T.F__law_like.kp T.b__law_like .nil pass0 (pa_cons (pe_call (ok__law_told T) (hr.mono (by decide)) (by rfl) T.g__law_told T.F__law_told.kp T.b__law_told .nil pass0 (pa_cons (pe_call (ok__law_deep_text T) (hr.mono (by decide)) (by rfl) T.g__law_deep_text T.F__law_deep_text.kp T.b__law_deep_text .nil pass0 (pa_cons pe_int pa_nil)) pa_nil)) (pa_cons (pe_lst (pa_cons pe_str (pa_cons pe_int pa_nil))) pa_nil))))) (pss_one (ps_ret pe_bl)) pss_nil)
      (pss_cons (ps_if (pt_val (pe_callB call_isi (by rfl) T.n_isinstance (by decide +kernel) (pa_cons (pe_call (ok__law_told T) (hr.mono (by decide)) (by rfl) T.g__law_told T.F__law_told.kp T.b__law_told .nil pass0 (pa_cons (pe_call (ok__law_deep_text T) (hr.mono (by decide)) (by rfl) T.g__law_deep_text T.F__law_deep_text.kp T.b__law_deep_text .nil pass0 (pa_cons pe_int pa_nil)) pa_nil)) (pa_cons (pe_bltn (v := .ty "list") (by rfl) T.n_list (by decide +kernel) rfl) pa_nil)))) (pss_one (ps_ret pe_bl)) pss_nil)
      (pss_cons (ps_set (i := 10) sc_law.nd rfl (by first | exact Or.inl rfl | exact Or.inr rfl) (pe_call (ok__law_pull T) (hr.mono (by decide)) (by rfl) T.g__law_pull T.F__law_pull.kp T.b__law_pull .nil pass0 (pa_cons (pv 1) (pa_cons pe_int pa_nil))))
      (pss_cons (ps_set (i := 11) sc_law.nd rfl (by first | exact Or.inl rfl | exact Or.inr rfl) (pe_lst (pa_cons (pe_tup (pa_cons pe_str (pa_cons pe_int pa_nil))) (pa_cons (pe_tup (pa_cons pe_str (pa_cons pe_int pa_nil))) (pa_cons (pe_tup (pa_cons pe_str (pa_cons pe_int pa_nil))) (pa_cons (pe_tup (pa_cons pe_str (pa_cons pe_int pa_nil))) pa_nil))))))
      (pss_cons (ps_set (i := 11) sc_law.nd rfl (by first | exact Or.inl rfl | exact Or.inr rfl) (pe_op op_catL (pv 11) (pe_lst (pa_cons (pe_tup (pa_cons pe_str (pa_cons pe_int pa_nil))) (pa_cons (pe_tup (pa_cons pe_str (pa_cons pe_int pa_nil))) (pa_cons (pe_tup (pa_cons pe_str (pa_cons pe_int pa_nil))) (pa_cons (pe_tup (pa_cons pe_str (pa_cons pe_int pa_nil))) pa_nil)))))))
      (pss_cons (ps_set (i := 11) sc_law.nd rfl (by first | exact Or.inl rfl | exact Or.inr rfl) (pe_op op_catL (pv 11) (pe_lst (pa_cons (pe_tup (pa_cons pe_str (pa_cons pe_int pa_nil))) (pa_cons (pe_tup (pa_cons pe_str (pa_cons pe_int pa_nil))) (pa_cons (pe_tup (pa_cons pe_str (pa_cons pe_int pa_nil))) (pa_cons (pe_tup (pa_cons pe_str (pa_cons pe_int pa_nil))) pa_nil)))))))
      (pss_cons (ps_set (i := 11) sc_law.nd rfl (by first | exact Or.inl rfl | exact Or.inr rfl) (pe_op op_catL (pv 11) (pe_lst (pa_cons (pe_tup (pa_cons pe_str (pa_cons pe_int pa_nil))) (pa_cons (pe_tup (pa_cons (pe_op op_addStr (pe_op op_addStr pe_str (pe_op op_mulT pe_str pe_int)) pe_str) (pa_cons pe_int pa_nil))) pa_nil)))))
      (pss_cons (ps_set (i := 11) sc_law.nd rfl (by first | exact Or.inl rfl | exact Or.inr rfl) (pe_op op_catL (pv 11) (pe_lst (pa_cons (pe_tup (pa_cons (pe_op op_addStr (pe_op op_addStr pe_str (pe_op op_mulT pe_str pe_int)) pe_str) (pa_cons pe_int pa_nil))) (pa_cons (pe_tup (pa_cons (pe_op op_addStr (pe_op op_addStr pe_str (pe_op op_mulT pe_str pe_int)) pe_str) (pa_cons pe_int pa_nil))) pa_nil)))))
      (pss_cons (ps_set (i := 11) sc_law.nd rfl (by first | exact Or.inl rfl | exact Or.inr rfl) (pe_op op_catL (pv 11) (pe_lst (pa_cons (pe_tup (pa_cons pe_str (pa_cons pe_int pa_nil))) (pa_cons (pe_tup (pa_cons pe_str (pa_cons pe_int pa_nil))) (pa_cons (pe_tup (pa_cons pe_str (pa_cons pe_int pa_nil))) (pa_cons (pe_tup (pa_cons pe_str (pa_cons pe_int pa_nil))) (pa_cons (pe_tup (pa_cons pe_str (pa_cons pe_int pa_nil))) pa_nil))))))))
      (pss_cons (ps_for PassesOwn.never rfl (pi_range1 (by rfl) T.n_range (pa_cons pe_int pa_nil)) (pg_name (i := 12) sc_law.nd rfl (by first | exact Or.inl rfl | exact Or.inr rfl)) (pss_cons (ps_asg (pe_ix ix_seq (pv 11) (pe_op op_modI (pe_op op_addI (pv 10) (pe_op op_mulI pe_int (pv 12))) pe_int) (fun _ _ => rfl)) (pg_tup rfl (pgs_cons (pg_name (i := 15) sc_law.nd rfl (by first | exact Or.inl rfl | exact Or.inr rfl)) (pgs_cons (pg_name (i := 16) sc_law.nd rfl (by first | exact Or.inl rfl | exact Or.inr rfl)) pgs_nil))))
      (pss_one (ps_if (pt_not (pt_val (pe_call (ok__law_like T 16) (hr.mono (by decide)) (by rfl) T.g__law_like T.F__law_like.kp T.b__law_like .nil pass0 (pa_cons (pe_call (ok__law_told T) (hr.mono (by decide)) (by rfl) T.g__law_told T.F__law_told.kp T.b__law_told .nil pass0 (pa_cons (pv 15) pa_nil)) (pa_cons (pe_lst (pa_cons pe_str (pa_cons (pv 16) pa_nil))) pa_nil))))) (pss_one (ps_ret pe_bl)) pss_nil))))
      (pss_one (ps_ret pe_bl))))))))))))))))))))))))))), rd_law ns hl⟩)
end
theorem lel0 {α : Type} {us : List α} (hl : us.length = 0) : us = [] := List.eq_nil_of_length_eq_zero hl
theorem lel1 {α : Type} {us : List α} (hl : us.length = 1) : ∃ a0, us = [a0] := by
  cases us with
  | nil => cases hl
  | cons a0 r => obtain rfl := lel0 (us := r) (Nat.succ.inj hl); exact ⟨a0, rfl⟩
theorem lel2 {α : Type} {us : List α} (hl : us.length = 2) : ∃ a0 a1, us = [a0, a1] := by
  cases us with
  | nil => cases hl
  | cons a0 r => obtain ⟨a1, rfl⟩ := lel1 (us := r) (Nat.succ.inj hl); exact ⟨a0, a1, rfl⟩
theorem lel3 {α : Type} {us : List α} (hl : us.length = 3) : ∃ a0 a1 a2, us = [a0, a1, a2] := by
  cases us with
  | nil => cases hl
  | cons a0 r => obtain ⟨a1, a2, rfl⟩ := lel2 (us := r) (Nat.succ.inj hl); exact ⟨a0, a1, a2, rfl⟩
theorem lel4 {α : Type} {us : List α} (hl : us.length = 4) : ∃ a0 a1 a2 a3, us = [a0, a1, a2, a3] := by
  cases us with
  | nil => cases hl
  | cons a0 r => obtain ⟨a1, a2, a3, rfl⟩ := lel3 (us := r) (Nat.succ.inj hl); exact ⟨a0, a1, a2, a3, rfl⟩
theorem lel5 {α : Type} {us : List α} (hl : us.length = 5) : ∃ a0 a1 a2 a3 a4, us = [a0, a1, a2, a3, a4] := by
  cases us with
  | nil => cases hl
  | cons a0 r => obtain ⟨a1, a2, a3, a4, rfl⟩ := lel4 (us := r) (Nat.succ.inj hl); exact ⟨a0, a1, a2, a3, a4, rfl⟩
theorem lel6 {α : Type} {us : List α} (hl : us.length = 6) : ∃ a0 a1 a2 a3 a4 a5, us = [a0, a1, a2, a3, a4, a5] := by
  cases us with
  | nil => cases hl
  | cons a0 r => obtain ⟨a1, a2, a3, a4, a5, rfl⟩ := lel5 (us := r) (Nat.succ.inj hl); exact ⟨a0, a1, a2, a3, a4, a5, rfl⟩
theorem lel7 {α : Type} {us : List α} (hl : us.length = 7) : ∃ a0 a1 a2 a3 a4 a5 a6, us = [a0, a1, a2, a3, a4, a5, a6] := by
  cases us with
  | nil => cases hl
  | cons a0 r => obtain ⟨a1, a2, a3, a4, a5, a6, rfl⟩ := lel6 (us := r) (Nat.succ.inj hl); exact ⟨a0, a1, a2, a3, a4, a5, a6, rfl⟩
theorem lel8 {α : Type} {us : List α} (hl : us.length = 8) : ∃ a0 a1 a2 a3 a4 a5 a6 a7, us = [a0, a1, a2, a3, a4, a5, a6, a7] := by
  cases us with
  | nil => cases hl
  | cons a0 r => obtain ⟨a1, a2, a3, a4, a5, a6, a7, rfl⟩ := lel7 (us := r) (Nat.succ.inj hl); exact ⟨a0, a1, a2, a3, a4, a5, a6, a7, rfl⟩
theorem all_mk {l : PySem.W.OpenLaw} {w : World} {K : PySem.W.Frag} {h : Heap} {mg : Str → Option Value} {fa f0 f1 f2 f3 f4 f5 f6 f7 f8 f9 f10 f11 f12 f13 f14 f15 f16 f17 f18 f19 f20 f21 f22 f23 f24 f25 f26 f27 f28 f29 f30 f31 f32 : Addr} (X : K.In h) (G : h.Ns mainGlobals mg) (hfa : mg "law" = some (.ref fa))
    {ia0 : Addr}
    {od0 an0 : Option Addr} {sl0 : Array (Option Value)} {oc0 kV0 dc0 pm0 cd0 ct0 : Value}
    {od1 an1 : Option Addr} {sl1 : Array (Option Value)} {oc1 kV1 dc1 pm1 cd1 ct1 : Value}
    {od2 an2 : Option Addr} {sl2 : Array (Option Value)} {oc2 kV2 dc2 pm2 cd2 ct2 : Value}
    {od3 an3 : Option Addr} {sl3 : Array (Option Value)} {oc3 kV3 dc3 pm3 cd3 ct3 : Value}
    {od4 an4 : Option Addr} {sl4 : Array (Option Value)} {oc4 kV4 dc4 pm4 cd4 ct4 : Value}
    {od5 an5 : Option Addr} {sl5 : Array (Option Value)} {oc5 kV5 dc5 pm5 cd5 ct5 : Value}
    {od6 an6 : Option Addr} {sl6 : Array (Option Value)} {oc6 kV6 dc6 pm6 cd6 ct6 : Value}
    {od7 an7 : Option Addr} {sl7 : Array (Option Value)} {oc7 kV7 dc7 pm7 cd7 ct7 : Value}
    {od8 an8 : Option Addr} {sl8 : Array (Option Value)} {oc8 kV8 dc8 pm8 cd8 ct8 : Value}
    {od9 an9 : Option Addr} {sl9 : Array (Option Value)} {oc9 kV9 dc9 pm9 cd9 ct9 : Value}
    {od10 an10 : Option Addr} {sl10 : Array (Option Value)} {oc10 kV10 dc10 pm10 cd10 ct10 : Value}
    {od11 an11 : Option Addr} {sl11 : Array (Option Value)} {oc11 kV11 dc11 pm11 cd11 ct11 : Value}
    {od12 an12 : Option Addr} {sl12 : Array (Option Value)} {oc12 kV12 dc12 pm12 cd12 ct12 : Value}
    {od13 an13 : Option Addr} {sl13 : Array (Option Value)} {oc13 kV13 dc13 pm13 cd13 ct13 : Value}
    {od14 an14 : Option Addr} {sl14 : Array (Option Value)} {oc14 kV14 dc14 pm14 cd14 ct14 : Value}
    {od15 an15 : Option Addr} {sl15 : Array (Option Value)} {oc15 kV15 dc15 pm15 cd15 ct15 : Value}
    {od16 an16 : Option Addr} {sl16 : Array (Option Value)} {oc16 kV16 dc16 pm16 cd16 ct16 : Value}
    {dT16 : Addr} {ot16 : Value} {odt16 : Option Addr} {nt16 : Nat} {slt16 : Array (Option Value)} {tk16_0 : Tok}
    {od17 an17 : Option Addr} {sl17 : Array (Option Value)} {oc17 kV17 dc17 pm17 cd17 ct17 : Value}
    {od18 an18 : Option Addr} {sl18 : Array (Option Value)} {oc18 dc18 pm18 cd18 ct18 : Value}
    {kD18 : Addr} {tk18_0 : Tok}
    {od19 an19 : Option Addr} {sl19 : Array (Option Value)} {oc19 kV19 dc19 pm19 cd19 ct19 : Value}
    {od20 an20 : Option Addr} {sl20 : Array (Option Value)} {oc20 kV20 dc20 pm20 cd20 ct20 : Value}
    {od21 an21 : Option Addr} {sl21 : Array (Option Value)} {oc21 dc21 pm21 cd21 ct21 : Value}
    {kD21 : Addr} {tk21_0 : Tok}
    {od22 an22 : Option Addr} {sl22 : Array (Option Value)} {oc22 kV22 dc22 pm22 cd22 ct22 : Value}
    {od23 an23 : Option Addr} {sl23 : Array (Option Value)} {oc23 kV23 dc23 pm23 cd23 ct23 : Value}
    {od24 an24 : Option Addr} {sl24 : Array (Option Value)} {oc24 kV24 dc24 pm24 cd24 ct24 : Value}
    {od25 an25 : Option Addr} {sl25 : Array (Option Value)} {oc25 kV25 dc25 pm25 cd25 ct25 : Value}
    {dT25 : Addr} {ot25 : Value} {odt25 : Option Addr} {nt25 : Nat} {slt25 : Array (Option Value)} {tk25_0 : Tok}
    {od26 an26 : Option Addr} {sl26 : Array (Option Value)} {oc26 kV26 dc26 pm26 cd26 ct26 : Value}
    {od27 an27 : Option Addr} {sl27 : Array (Option Value)} {oc27 kV27 dc27 pm27 cd27 ct27 : Value}
    {od28 an28 : Option Addr} {sl28 : Array (Option Value)} {oc28 kV28 dc28 pm28 cd28 ct28 : Value}
    {od29 an29 : Option Addr} {sl29 : Array (Option Value)} {oc29 kV29 dc29 pm29 cd29 ct29 : Value}
    {od30 an30 : Option Addr} {sl30 : Array (Option Value)} {oc30 kV30 dc30 pm30 cd30 ct30 : Value}
    {od31 an31 : Option Addr} {sl31 : Array (Option Value)} {oc31 kV31 dc31 pm31 cd31 ct31 : Value}
    {od32 an32 : Option Addr} {sl32 : Array (Option Value)} {oc32 kV32 dc32 pm32 cd32 ct32 : Value}
    {ca0 ci0 : Addr} {cod0 can0 : Option Addr} {csl0 : Array (Option Value)} {coc0 ckV0 cdc0 cpm0 ccd0 cct0 : Value}
    {cT0 : Addr} {cot0 : Value} {codt0 : Option Addr} {cnt0 : Nat} {cslt0 : Array (Option Value)} {ctk0_0 : Tok}
    {ca1 ci1 : Addr} {cod1 can1 : Option Addr} {csl1 : Array (Option Value)} {coc1 ckV1 cdc1 cpm1 ccd1 cct1 : Value}
    {ca2 ci2 : Addr} {cod2 can2 : Option Addr} {csl2 : Array (Option Value)} {coc2 ckV2 cdc2 cpm2 ccd2 cct2 : Value}
    {tkc0 : Tok}
    {tkc1 : Tok}
    {tkc2 : Tok}
    {kca3 : Addr} {kod3 : Option Addr} {kn3 : Nat} {ksl3 : Array (Option Value)} {kt3_0 kt3_1 kt3_2 kt3_3 kt3_4 kt3_5 : Tok}
    {kca4 : Addr} {kod4 : Option Addr} {kn4 : Nat} {ksl4 : Array (Option Value)} {kt4_0 kt4_1 kt4_2 kt4_3 kt4_4 kt4_5 kt4_6 kt4_7 kt4_8 : Tok}
    (in0g : PySem.W.nsIn K mainGlobals "Reading" = some (some (.ref ia0)))
    (in0p : PySem.W.plainGet K ia0 PySem.Str.empty = true)
    (in0h : PySem.W.hasDictIn K ia0 = true)
    (in0o : PySem.W.plainOver K ia0 = true)
    (in0s : PySem.W.findIn K (.ref ia0) "__setattr__" = some (some (.builtin "object.__setattr__")))
    (in0m : PySem.W.makesIn K ia0 = true)
    (in0k : PySem.W.keepIn K (.ref ia0) = true)
    (in0n_tokens : PySem.W.findIn K (.ref ia0) "tokens" = some none)
    (in0n_spent : PySem.W.findIn K (.ref ia0) "spent" = some none)
    (a0 : PySem.W.nsIn K mainGlobals "_law_bag" = some (some (.ref f0))) (l0 : K.lookup f0 = some ⟨oc0, od0, .func (PySem.W.fnOf "_law_bag" "_law_bag" (defArgs s__law_bag) (defBody s__law_bag) (defScope s__law_bag) .none kV0 dc0 pm0 an0 cd0 ct0), sl0⟩) (c0 : PySem.W.codeIn K cd0 "_law_bag" = true) (k0 : PySem.W.keepIn K (.ref f0) = true)
    (a1 : PySem.W.nsIn K mainGlobals "_law_pull" = some (some (.ref f1))) (l1 : K.lookup f1 = some ⟨oc1, od1, .func (PySem.W.fnOf "_law_pull" "_law_pull" (defArgs s__law_pull) (defBody s__law_pull) (defScope s__law_pull) .none kV1 dc1 pm1 an1 cd1 ct1), sl1⟩) (c1 : PySem.W.codeIn K cd1 "_law_pull" = true) (k1 : PySem.W.keepIn K (.ref f1) = true)
    (a2 : PySem.W.nsIn K mainGlobals "_law_gcd" = some (some (.ref f2))) (l2 : K.lookup f2 = some ⟨oc2, od2, .func (PySem.W.fnOf "_law_gcd" "_law_gcd" (defArgs s__law_gcd) (defBody s__law_gcd) (defScope s__law_gcd) .none kV2 dc2 pm2 an2 cd2 ct2), sl2⟩) (c2 : PySem.W.codeIn K cd2 "_law_gcd" = true) (k2 : PySem.W.keepIn K (.ref f2) = true)
    (a3 : PySem.W.nsIn K mainGlobals "_law_frac" = some (some (.ref f3))) (l3 : K.lookup f3 = some ⟨oc3, od3, .func (PySem.W.fnOf "_law_frac" "_law_frac" (defArgs s__law_frac) (defBody s__law_frac) (defScope s__law_frac) .none kV3 dc3 pm3 an3 cd3 ct3), sl3⟩) (c3 : PySem.W.codeIn K cd3 "_law_frac" = true) (k3 : PySem.W.keepIn K (.ref f3) = true)
    (a4 : PySem.W.nsIn K mainGlobals "_law_part" = some (some (.ref f4))) (l4 : K.lookup f4 = some ⟨oc4, od4, .func (PySem.W.fnOf "_law_part" "_law_part" (defArgs s__law_part) (defBody s__law_part) (defScope s__law_part) .none kV4 dc4 pm4 an4 cd4 ct4), sl4⟩) (c4 : PySem.W.codeIn K cd4 "_law_part" = true) (k4 : PySem.W.keepIn K (.ref f4) = true)
    (a5 : PySem.W.nsIn K mainGlobals "_law_whole_part" = some (some (.ref f5))) (l5 : K.lookup f5 = some ⟨oc5, od5, .func (PySem.W.fnOf "_law_whole_part" "_law_whole_part" (defArgs s__law_whole_part) (defBody s__law_whole_part) (defScope s__law_whole_part) .none kV5 dc5 pm5 an5 cd5 ct5), sl5⟩) (c5 : PySem.W.codeIn K cd5 "_law_whole_part" = true) (k5 : PySem.W.keepIn K (.ref f5) = true)
    (a6 : PySem.W.nsIn K mainGlobals "_law_entry" = some (some (.ref f6))) (l6 : K.lookup f6 = some ⟨oc6, od6, .func (PySem.W.fnOf "_law_entry" "_law_entry" (defArgs s__law_entry) (defBody s__law_entry) (defScope s__law_entry) .none kV6 dc6 pm6 an6 cd6 ct6), sl6⟩) (c6 : PySem.W.codeIn K cd6 "_law_entry" = true) (k6 : PySem.W.keepIn K (.ref f6) = true)
    (a7 : PySem.W.nsIn K mainGlobals "_law_map" = some (some (.ref f7))) (l7 : K.lookup f7 = some ⟨oc7, od7, .func (PySem.W.fnOf "_law_map" "_law_map" (defArgs s__law_map) (defBody s__law_map) (defScope s__law_map) .none kV7 dc7 pm7 an7 cd7 ct7), sl7⟩) (c7 : PySem.W.codeIn K cd7 "_law_map" = true) (k7 : PySem.W.keepIn K (.ref f7) = true)
    (a8 : PySem.W.nsIn K mainGlobals "_law_tree" = some (some (.ref f8))) (l8 : K.lookup f8 = some ⟨oc8, od8, .func (PySem.W.fnOf "_law_tree" "_law_tree" (defArgs s__law_tree) (defBody s__law_tree) (defScope s__law_tree) .none kV8 dc8 pm8 an8 cd8 ct8), sl8⟩) (c8 : PySem.W.codeIn K cd8 "_law_tree" = true) (k8 : PySem.W.keepIn K (.ref f8) = true)
    (a9 : PySem.W.nsIn K mainGlobals "_law_words" = some (some (.ref f9))) (l9 : K.lookup f9 = some ⟨oc9, od9, .func (PySem.W.fnOf "_law_words" "_law_words" (defArgs s__law_words) (defBody s__law_words) (defScope s__law_words) .none kV9 dc9 pm9 an9 cd9 ct9), sl9⟩) (c9 : PySem.W.codeIn K cd9 "_law_words" = true) (k9 : PySem.W.keepIn K (.ref f9) = true)
    (a10 : PySem.W.nsIn K mainGlobals "_law_glued" = some (some (.ref f10))) (l10 : K.lookup f10 = some ⟨oc10, od10, .func (PySem.W.fnOf "_law_glued" "_law_glued" (defArgs s__law_glued) (defBody s__law_glued) (defScope s__law_glued) .none kV10 dc10 pm10 an10 cd10 ct10), sl10⟩) (c10 : PySem.W.codeIn K cd10 "_law_glued" = true) (k10 : PySem.W.keepIn K (.ref f10) = true)
    (a11 : PySem.W.nsIn K mainGlobals "_law_inner" = some (some (.ref f11))) (l11 : K.lookup f11 = some ⟨oc11, od11, .func (PySem.W.fnOf "_law_inner" "_law_inner" (defArgs s__law_inner) (defBody s__law_inner) (defScope s__law_inner) .none kV11 dc11 pm11 an11 cd11 ct11), sl11⟩) (c11 : PySem.W.codeIn K cd11 "_law_inner" = true) (k11 : PySem.W.keepIn K (.ref f11) = true)
    (a12 : PySem.W.nsIn K mainGlobals "_law_part_text" = some (some (.ref f12))) (l12 : K.lookup f12 = some ⟨oc12, od12, .func (PySem.W.fnOf "_law_part_text" "_law_part_text" (defArgs s__law_part_text) (defBody s__law_part_text) (defScope s__law_part_text) .none kV12 dc12 pm12 an12 cd12 ct12), sl12⟩) (c12 : PySem.W.codeIn K cd12 "_law_part_text" = true) (k12 : PySem.W.keepIn K (.ref f12) = true)
    (a13 : PySem.W.nsIn K mainGlobals "_law_text" = some (some (.ref f13))) (l13 : K.lookup f13 = some ⟨oc13, od13, .func (PySem.W.fnOf "_law_text" "_law_text" (defArgs s__law_text) (defBody s__law_text) (defScope s__law_text) .none kV13 dc13 pm13 an13 cd13 ct13), sl13⟩) (c13 : PySem.W.codeIn K cd13 "_law_text" = true) (k13 : PySem.W.keepIn K (.ref f13) = true)
    (a14 : PySem.W.nsIn K mainGlobals "_law_like" = some (some (.ref f14))) (l14 : K.lookup f14 = some ⟨oc14, od14, .func (PySem.W.fnOf "_law_like" "_law_like" (defArgs s__law_like) (defBody s__law_like) (defScope s__law_like) .none kV14 dc14 pm14 an14 cd14 ct14), sl14⟩) (c14 : PySem.W.codeIn K cd14 "_law_like" = true) (k14 : PySem.W.keepIn K (.ref f14) = true)
    (a15 : PySem.W.findIn K (.ref ia0) "taken" = some (some (.ref f15))) (l15 : K.lookup f15 = some ⟨oc15, od15, .func (PySem.W.fnOf "taken" "Reading.taken" (defArgs s_Reading_taken) (defBody s_Reading_taken) (defScope s_Reading_taken) .none kV15 dc15 pm15 an15 cd15 ct15), sl15⟩) (c15 : PySem.W.codeIn K cd15 "Reading.taken" = true) (k15 : PySem.W.keepIn K (.ref f15) = true) (i15 : PySem.W.isFn K (.ref f15) = true)
    (a16 : PySem.W.findIn K (.ref ia0) "seen" = some (some (.ref f16))) (l16 : K.lookup f16 = some ⟨oc16, od16, .func (PySem.W.fnOf "seen" "Reading.seen" (defArgs s_Reading_seen) (defBody s_Reading_seen) (defScope s_Reading_seen) (.ref dT16) kV16 dc16 pm16 an16 cd16 ct16), sl16⟩) (c16 : PySem.W.codeIn K cd16 "Reading.seen" = true) (k16 : PySem.W.keepIn K (.ref f16) = true) (i16 : PySem.W.isFn K (.ref f16) = true)
    (t16 : K.lookup dT16 = some ⟨ot16, odt16, .seq [Value.int 0 tk16_0].toArray nt16, slt16⟩)
    (a17 : PySem.W.nsIn K mainGlobals "figures_of" = some (some (.ref f17))) (l17 : K.lookup f17 = some ⟨oc17, od17, .func (PySem.W.fnOf "figures_of" "figures_of" (defArgs s_figures_of) (defBody s_figures_of) (defScope s_figures_of) .none kV17 dc17 pm17 an17 cd17 ct17), sl17⟩) (c17 : PySem.W.codeIn K cd17 "figures_of" = true) (k17 : PySem.W.keepIn K (.ref f17) = true)
    (a18 : PySem.W.nsIn K mainGlobals "whole_in" = some (some (.ref f18))) (l18 : K.lookup f18 = some ⟨oc18, od18, .func (PySem.W.fnOf "whole_in" "whole_in" (defArgs s_whole_in) (defBody s_whole_in) (defScope s_whole_in) .none (.ref kD18) dc18 pm18 an18 cd18 ct18), sl18⟩) (c18 : PySem.W.codeIn K cd18 "whole_in" = true) (k18 : PySem.W.keepIn K (.ref f18) = true)
    (t18_0 : PySem.W.nsIn K kD18 "most" = some (some (Value.int 40 tk18_0)))
    (a19 : PySem.W.findIn K (.ref ia0) "number" = some (some (.ref f19))) (l19 : K.lookup f19 = some ⟨oc19, od19, .func (PySem.W.fnOf "number" "Reading.number" (defArgs s_Reading_number) (defBody s_Reading_number) (defScope s_Reading_number) .none kV19 dc19 pm19 an19 cd19 ct19), sl19⟩) (c19 : PySem.W.codeIn K cd19 "Reading.number" = true) (k19 : PySem.W.keepIn K (.ref f19) = true) (i19 : PySem.W.isFn K (.ref f19) = true)
    (a20 : PySem.W.nsIn K mainGlobals "shared" = some (some (.ref f20))) (l20 : K.lookup f20 = some ⟨oc20, od20, .func (PySem.W.fnOf "shared" "shared" (defArgs s_shared) (defBody s_shared) (defScope s_shared) .none kV20 dc20 pm20 an20 cd20 ct20), sl20⟩) (c20 : PySem.W.codeIn K cd20 "shared" = true) (k20 : PySem.W.keepIn K (.ref f20) = true)
    (a21 : PySem.W.nsIn K mainGlobals "part_in" = some (some (.ref f21))) (l21 : K.lookup f21 = some ⟨oc21, od21, .func (PySem.W.fnOf "part_in" "part_in" (defArgs s_part_in) (defBody s_part_in) (defScope s_part_in) .none (.ref kD21) dc21 pm21 an21 cd21 ct21), sl21⟩) (c21 : PySem.W.codeIn K cd21 "part_in" = true) (k21 : PySem.W.keepIn K (.ref f21) = true)
    (t21_0 : PySem.W.nsIn K kD21 "most" = some (some (Value.int 40 tk21_0)))
    (a22 : PySem.W.findIn K (.ref ia0) "row" = some (some (.ref f22))) (l22 : K.lookup f22 = some ⟨oc22, od22, .func (PySem.W.fnOf "row" "Reading.row" (defArgs s_Reading_row) (defBody s_Reading_row) (defScope s_Reading_row) .none kV22 dc22 pm22 an22 cd22 ct22), sl22⟩) (c22 : PySem.W.codeIn K cd22 "Reading.row" = true) (k22 : PySem.W.keepIn K (.ref f22) = true) (i22 : PySem.W.isFn K (.ref f22) = true)
    (a23 : PySem.W.findIn K (.ref ia0) "way" = some (some (.ref f23))) (l23 : K.lookup f23 = some ⟨oc23, od23, .func (PySem.W.fnOf "way" "Reading.way" (defArgs s_Reading_way) (defBody s_Reading_way) (defScope s_Reading_way) .none kV23 dc23 pm23 an23 cd23 ct23), sl23⟩) (c23 : PySem.W.codeIn K cd23 "Reading.way" = true) (k23 : PySem.W.keepIn K (.ref f23) = true) (i23 : PySem.W.isFn K (.ref f23) = true)
    (a24 : PySem.W.nsIn K mainGlobals "is_name" = some (some (.ref f24))) (l24 : K.lookup f24 = some ⟨oc24, od24, .func (PySem.W.fnOf "is_name" "is_name" (defArgs s_is_name) (defBody s_is_name) (defScope s_is_name) .none kV24 dc24 pm24 an24 cd24 ct24), sl24⟩) (c24 : PySem.W.codeIn K cd24 "is_name" = true) (k24 : PySem.W.keepIn K (.ref f24) = true)
    (a25 : PySem.W.findIn K (.ref ia0) "tree" = some (some (.ref f25))) (l25 : K.lookup f25 = some ⟨oc25, od25, .func (PySem.W.fnOf "tree" "Reading.tree" (defArgs s_Reading_tree) (defBody s_Reading_tree) (defScope s_Reading_tree) (.ref dT25) kV25 dc25 pm25 an25 cd25 ct25), sl25⟩) (c25 : PySem.W.codeIn K cd25 "Reading.tree" = true) (k25 : PySem.W.keepIn K (.ref f25) = true) (i25 : PySem.W.isFn K (.ref f25) = true)
    (t25 : K.lookup dT25 = some ⟨ot25, odt25, .seq [Value.int 0 tk25_0].toArray nt25, slt25⟩)
    (a26 : PySem.W.nsIn K mainGlobals "tokens_of" = some (some (.ref f26))) (l26 : K.lookup f26 = some ⟨oc26, od26, .func (PySem.W.fnOf "tokens_of" "tokens_of" (defArgs s_tokens_of) (defBody s_tokens_of) (defScope s_tokens_of) .none kV26 dc26 pm26 an26 cd26 ct26), sl26⟩) (c26 : PySem.W.codeIn K cd26 "tokens_of" = true) (k26 : PySem.W.keepIn K (.ref f26) = true)
    (a27 : PySem.W.findIn K (.ref ia0) "__init__" = some (some (.ref f27))) (l27 : K.lookup f27 = some ⟨oc27, od27, .func (PySem.W.fnOf "__init__" "Reading.__init__" (defArgs s_Reading___init__) (defBody s_Reading___init__) (defScope s_Reading___init__) .none kV27 dc27 pm27 an27 cd27 ct27), sl27⟩) (c27 : PySem.W.codeIn K cd27 "Reading.__init__" = true) (k27 : PySem.W.keepIn K (.ref f27) = true) (i27 : PySem.W.isFn K (.ref f27) = true)
    (a28 : PySem.W.nsIn K mainGlobals "read" = some (some (.ref f28))) (l28 : K.lookup f28 = some ⟨oc28, od28, .func (PySem.W.fnOf "read" "read" (defArgs s_read) (defBody s_read) (defScope s_read) .none kV28 dc28 pm28 an28 cd28 ct28), sl28⟩) (c28 : PySem.W.codeIn K cd28 "read" = true) (k28 : PySem.W.keepIn K (.ref f28) = true)
    (a29 : PySem.W.nsIn K mainGlobals "_law_told" = some (some (.ref f29))) (l29 : K.lookup f29 = some ⟨oc29, od29, .func (PySem.W.fnOf "_law_told" "_law_told" (defArgs s__law_told) (defBody s__law_told) (defScope s__law_told) .none kV29 dc29 pm29 an29 cd29 ct29), sl29⟩) (c29 : PySem.W.codeIn K cd29 "_law_told" = true) (k29 : PySem.W.keepIn K (.ref f29) = true)
    (a30 : PySem.W.nsIn K mainGlobals "_law_deep_text" = some (some (.ref f30))) (l30 : K.lookup f30 = some ⟨oc30, od30, .func (PySem.W.fnOf "_law_deep_text" "_law_deep_text" (defArgs s__law_deep_text) (defBody s__law_deep_text) (defScope s__law_deep_text) .none kV30 dc30 pm30 an30 cd30 ct30), sl30⟩) (c30 : PySem.W.codeIn K cd30 "_law_deep_text" = true) (k30 : PySem.W.keepIn K (.ref f30) = true)
    (a31 : PySem.W.nsIn K mainGlobals "_law_placed" = some (some (.ref f31))) (l31 : K.lookup f31 = some ⟨oc31, od31, .func (PySem.W.fnOf "_law_placed" "_law_placed" (defArgs s__law_placed) (defBody s__law_placed) (defScope s__law_placed) .none kV31 dc31 pm31 an31 cd31 ct31), sl31⟩) (c31 : PySem.W.codeIn K cd31 "_law_placed" = true) (k31 : PySem.W.keepIn K (.ref f31) = true)
    (a32 : PySem.W.nsIn K mainGlobals "law" = some (some (.ref f32))) (l32 : K.lookup f32 = some ⟨oc32, od32, .func (PySem.W.fnOf "law" "law" (defArgs s_law) (defBody s_law) (defScope s_law) .none kV32 dc32 pm32 an32 cd32 ct32), sl32⟩) (c32 : PySem.W.codeIn K cd32 "law" = true) (k32 : PySem.W.keepIn K (.ref f32) = true)
    (y0g : PySem.W.nsIn K mainGlobals "Unfit" = some (some (.ref ca0)))
    (y0o : PySem.W.excOver K ca0 [.type "ValueError", .type "Exception", .type "BaseException", .type "object"] = true)
    (y0m : PySem.W.excInitIn K ca0 [.type "ValueError", .type "Exception", .type "BaseException", .type "object"] "ValueError.__new__" = true)
    (y0h : PySem.W.hasDictIn K ca0 = true)
    (y0s : PySem.W.findIn K (.ref ca0) "__setattr__" = some (some (.builtin "object.__setattr__")))
    (y0x : PySem.W.subIn K (.ref ca0) (.type "BaseException") = some true)
    (y0t : PySem.W.typeIn K (.ref ca0) = some (.type "type"))
    (y0k : PySem.W.keepIn K (.ref ca0) = true)
    (y0i : PySem.W.findIn K (.ref ca0) "__init__" = some (some (.ref ci0)))
    (y0f : PySem.W.typeIn K (.ref ci0) = some (.type "function"))
    (y0l : K.lookup ci0 = some ⟨coc0, cod0, .func (PySem.W.fnOf "__init__" "Unfit.__init__" (defArgs si_Unfit) (defBody si_Unfit) (defScope si_Unfit) (.ref cT0) ckV0 cdc0 cpm0 can0 ccd0 cct0), csl0⟩)
    (y0c : PySem.W.codeIn K ccd0 "Unfit.__init__" = true)
    (y0p : PySem.W.keepIn K (.ref ci0) = true)
    (y0a : PySem.W.findIn K (.ref ca0) "__getattribute__" = some (some (.builtin "BaseException.__getattribute__")))
    (y0b : PySem.W.findIn K (.ref ca0) "__getattr__" = some none)
    (y0n_word : PySem.W.findIn K (.ref ca0) "word" = some none)
    (y0r : PySem.W.readsIn K ca0 (.type "type") = true)
    (y0q : PySem.W.specialIn K (.ref ca0) "__getattribute__" = some (some (.builtin "type.__getattribute__")))
    (y0v : PySem.W.findCls K (.ref ca0) (.type "type") "__init__" = some (.val (.ref ci0)))
    (y0d : K.lookup cT0 = some ⟨cot0, codt0, .seq [Value.str "Unfit" ctk0_0].toArray cnt0, cslt0⟩)
    (y1g : PySem.W.nsIn K mainGlobals "Unread" = some (some (.ref ca1)))
    (y1o : PySem.W.excOver K ca1 [.type "ValueError", .type "Exception", .type "BaseException", .type "object"] = true)
    (y1m : PySem.W.excInitIn K ca1 [.type "ValueError", .type "Exception", .type "BaseException", .type "object"] "ValueError.__new__" = true)
    (y1h : PySem.W.hasDictIn K ca1 = true)
    (y1s : PySem.W.findIn K (.ref ca1) "__setattr__" = some (some (.builtin "object.__setattr__")))
    (y1x : PySem.W.subIn K (.ref ca1) (.type "BaseException") = some true)
    (y1t : PySem.W.typeIn K (.ref ca1) = some (.type "type"))
    (y1k : PySem.W.keepIn K (.ref ca1) = true)
    (y1i : PySem.W.findIn K (.ref ca1) "__init__" = some (some (.ref ci1)))
    (y1f : PySem.W.typeIn K (.ref ci1) = some (.type "function"))
    (y1l : K.lookup ci1 = some ⟨coc1, cod1, .func (PySem.W.fnOf "__init__" "Unread.__init__" (defArgs si_Unread) (defBody si_Unread) (defScope si_Unread) .none ckV1 cdc1 cpm1 can1 ccd1 cct1), csl1⟩)
    (y1c : PySem.W.codeIn K ccd1 "Unread.__init__" = true)
    (y1p : PySem.W.keepIn K (.ref ci1) = true)
    (y1a : PySem.W.findIn K (.ref ca1) "__getattribute__" = some (some (.builtin "BaseException.__getattribute__")))
    (y1b : PySem.W.findIn K (.ref ca1) "__getattr__" = some none)
    (y1n_word : PySem.W.findIn K (.ref ca1) "word" = some none)
    (y1n_at : PySem.W.findIn K (.ref ca1) "at" = some none)
    (y2g : PySem.W.nsIn K mainGlobals "BadRow" = some (some (.ref ca2)))
    (y2o : PySem.W.excOver K ca2 [.type "ValueError", .type "Exception", .type "BaseException", .type "object"] = true)
    (y2m : PySem.W.excInitIn K ca2 [.type "ValueError", .type "Exception", .type "BaseException", .type "object"] "ValueError.__new__" = true)
    (y2h : PySem.W.hasDictIn K ca2 = true)
    (y2s : PySem.W.findIn K (.ref ca2) "__setattr__" = some (some (.builtin "object.__setattr__")))
    (y2x : PySem.W.subIn K (.ref ca2) (.type "BaseException") = some true)
    (y2t : PySem.W.typeIn K (.ref ca2) = some (.type "type"))
    (y2k : PySem.W.keepIn K (.ref ca2) = true)
    (y2i : PySem.W.findIn K (.ref ca2) "__init__" = some (some (.ref ci2)))
    (y2f : PySem.W.typeIn K (.ref ci2) = some (.type "function"))
    (y2l : K.lookup ci2 = some ⟨coc2, cod2, .func (PySem.W.fnOf "__init__" "BadRow.__init__" (defArgs si_BadRow) (defBody si_BadRow) (defScope si_BadRow) .none ckV2 cdc2 cpm2 can2 ccd2 cct2), csl2⟩)
    (y2c : PySem.W.codeIn K ccd2 "BadRow.__init__" = true)
    (y2p : PySem.W.keepIn K (.ref ci2) = true)
    (y2a : PySem.W.findIn K (.ref ca2) "__getattribute__" = some (some (.builtin "BaseException.__getattribute__")))
    (y2b : PySem.W.findIn K (.ref ca2) "__getattr__" = some none)
    (y2n_word : PySem.W.findIn K (.ref ca2) "word" = some none)
    (y2n_at : PySem.W.findIn K (.ref ca2) "at" = some none)
    (e0 : PySem.W.subIn K (.ref ca1) (.ref ca1) = some true)
    (y1w1 : PySem.W.findIn K (.ref ca1) "__class__" = some (some (.builtin "object.__class__")))
    (y1w2 : PySem.W.specialIn K (.builtin "object.__class__") "__get__" = some (some (.builtin "getset_descriptor.__get__")))
    (y1w3 : PySem.W.takesIn K (.builtin "object.__class__") = some true)
    (y1w4 : PySem.W.mroIn K ca1 (.type "object") = some true)
    (ko0 : PySem.W.kitOne K (.ref ca1) (.ref ca2) = some false)
    (ko1 : PySem.W.kitOne K (.ref ca1) (.ref ca0) = some true)
    (z0 : PySem.W.nsIn K mainGlobals "abs" = some none)
    (z1 : PySem.W.nsIn K mainGlobals "all" = some none)
    (z2 : PySem.W.nsIn K mainGlobals "bool" = some none)
    (z3 : PySem.W.nsIn K mainGlobals "enumerate" = some none)
    (z4 : PySem.W.nsIn K mainGlobals "int" = some none)
    (z5 : PySem.W.nsIn K mainGlobals "isinstance" = some none)
    (z6 : PySem.W.nsIn K mainGlobals "len" = some none)
    (z7 : PySem.W.nsIn K mainGlobals "list" = some none)
    (z8 : PySem.W.nsIn K mainGlobals "max" = some none)
    (z9 : PySem.W.nsIn K mainGlobals "min" = some none)
    (z10 : PySem.W.nsIn K mainGlobals "range" = some none)
    (z11 : PySem.W.nsIn K mainGlobals "str" = some none)
    (z12 : PySem.W.nsIn K mainGlobals "tuple" = some none)
    (kc0 : PySem.W.nsIn K mainGlobals "DEEP" = some (some (Value.int 12 tkc0)))
    (kc1 : PySem.W.nsIn K mainGlobals "LETTERS" = some (some (Value.str "abcdefghijklmnopqrstuvwxyz" tkc1)))
    (kc2 : PySem.W.nsIn K mainGlobals "LONG" = some (some (Value.int 18 tkc2)))
    (kc3 : PySem.W.nsIn K mainGlobals "PAIRS" = some (some (.ref kca3)))
    (kl3 : K.lookup kca3 = some ⟨.type "tuple", kod3, .seq [Value.str "add" kt3_0, Value.str "take" kt3_1, Value.str "meet" kt3_2, Value.str "least" kt3_3, Value.str "most" kt3_4, Value.str "lay" kt3_5].toArray kn3, ksl3⟩)
    (kc4 : PySem.W.nsIn K mainGlobals "WORDS" = some (some (.ref kca4)))
    (kl4 : K.lookup kca4 = some ⟨.type "tuple", kod4, .seq [Value.str "add" kt4_0, Value.str "take" kt4_1, Value.str "meet" kt4_2, Value.str "least" kt4_3, Value.str "most" kt4_4, Value.str "lay" kt4_5, Value.str "times" kt4_6, Value.str "turn" kt4_7, Value.str "carry" kt4_8].toArray kn4, ksl4⟩)
    : ∃ fd : FuncData, (∀ (s : Shared) (v : Value), BindsTo s fd ⟨[v], []⟩ [("_law_script", v)]) ∧ ∀ base : Heap, K.In base → base.Ns mainGlobals mg → FnOk l.prog w K mg base CX0 31 fa fd ["_law_script"] (spP K PLaw) := qt_of (by simp (disch := with_unfolding_all
  have e := hfa.symm.trans (PySem.W.mg_of X G a32)
  cases e
  obtain ⟨cs, hc0, hc1, hc2, hi0⟩ : ∃ cs : Cs, cs "Unfit" = ca0 ∧ cs "Unread" = ca1 ∧ cs "BadRow" = ca2 ∧ cs "Reading" = ia0 := ⟨fun x => if x = "Unfit" then ca0 else if x = "Unread" then ca1 else if x = "BadRow" then ca2 else if x = "Reading" then ia0 else 0, by dsimp only; rw [if_pos rfl], by dsimp only; rw [if_neg (by decide), if_pos rfl], by dsimp only; rw [if_neg (by decide), if_neg (by decide), if_pos rfl], by dsimp only; rw [if_neg (by decide), if_neg (by decide), if_neg (by decide), if_pos rfl]⟩
  subst hc0
  subst hc1
  subst hc2
  subst hi0
  have co0 : ClsO K (cs "Reading") ["tokens", "spent"] := ⟨⟨in0p, in0h, in0o, in0s⟩, fun n hn => by rcases List.mem_cons.mp hn with rfl | hn; exact in0n_tokens; rw [List.mem_singleton.mp hn]; exact in0n_spent⟩
  have FI0 := fund_mk (st := si_Unfit) (dvs := [V.str "Unfit"]) y0l y0c y0p y0d (.cons ⟨_, rfl⟩ .nil) (by simp)
  have ox0 : OxK K (cs "Unfit") := ⟨⟨_, _, _, _, PySem.F.excBase_ValueError, PySem.F.store_ValueError, y0o, y0m, y0h, y0s, y0x, y0t, y0k⟩⟩
  have bi0 := binds_all (ps := ["self", "word"]) FI0 (by simp) fun _ _ _ _ _ _ _ us its hl hl2 => by first | (obtain ⟨_, _, rfl⟩ := lel2 hl; obtain ⟨_, rfl⟩ := lel1 hl2; exact ⟨_, rfl, rfl⟩) | exact (match us, its, hl, hl2 with | [_, _], [_], _, _ => ⟨_, rfl, rfl⟩)
  have cf0 : ClsF K cs "Unfit" ["word"] := ⟨ox0, fun n hn => by rw [List.mem_singleton.mp hn]; exact y0n_word⟩
  have FI1 := fun_mk (st := si_Unread) y1l y1c y1p
  have ox1 : OxK K (cs "Unread") := ⟨⟨_, _, _, _, PySem.F.excBase_ValueError, PySem.F.store_ValueError, y1o, y1m, y1h, y1s, y1x, y1t, y1k⟩⟩
  have bi1 := FI1.binds (ps := ["self", "at"]) fun _ _ _ _ _ _ us hl => by first | (obtain ⟨_, _, rfl⟩ := lel2 hl; exact rfl) | exact (match us, hl with | [_, _], _ => rfl)
  have cf1 : ClsF K cs "Unread" ["word", "at"] := ⟨ox1, fun n hn => by rcases List.mem_cons.mp hn with rfl | hn; exact y1n_word; rw [List.mem_singleton.mp hn]; exact y1n_at⟩
  have FI2 := fun_mk (st := si_BadRow) y2l y2c y2p
  have ox2 : OxK K (cs "BadRow") := ⟨⟨_, _, _, _, PySem.F.excBase_ValueError, PySem.F.store_ValueError, y2o, y2m, y2h, y2s, y2x, y2t, y2k⟩⟩
  have bi2 := FI2.binds (ps := ["self", "at"]) fun _ _ _ _ _ _ us hl => by first | (obtain ⟨_, _, rfl⟩ := lel2 hl; exact rfl) | exact (match us, hl with | [_, _], _ => rfl)
  have cf2 : ClsF K cs "BadRow" ["word", "at"] := ⟨ox2, fun n hn => by rcases List.mem_cons.mp hn with rfl | hn; exact y2n_word; rw [List.mem_singleton.mp hn]; exact y2n_at⟩
  have F0 := fun_mk (st := s__law_bag) l0 c0 k0
  have b0 := F0.binds (ps := ["_law_script"]) fun _ _ _ _ _ _ us hl => by first | (obtain ⟨_, rfl⟩ := lel1 hl; exact rfl) | exact (match us, hl with | [_], _ => rfl)
  have F1 := fun_mk (st := s__law_pull) l1 c1 k1
  have b1 := F1.binds (ps := ["_law_bag_here", "_law_size"]) fun _ _ _ _ _ _ us hl => by first | (obtain ⟨_, _, rfl⟩ := lel2 hl; exact rfl) | exact (match us, hl with | [_, _], _ => rfl)
  have F2 := fun_mk (st := s__law_gcd) l2 c2 k2
  have b2 := F2.binds (ps := ["_law_one", "_law_other"]) fun _ _ _ _ _ _ us hl => by first | (obtain ⟨_, _, rfl⟩ := lel2 hl; exact rfl) | exact (match us, hl with | [_, _], _ => rfl)
  have F3 := fun_mk (st := s__law_frac) l3 c3 k3
  have b3 := F3.binds (ps := ["_law_above", "_law_below"]) fun _ _ _ _ _ _ us hl => by first | (obtain ⟨_, _, rfl⟩ := lel2 hl; exact rfl) | exact (match us, hl with | [_, _], _ => rfl)
  have F4 := fun_mk (st := s__law_part) l4 c4 k4
  have b4 := F4.binds (ps := ["_law_bag_here"]) fun _ _ _ _ _ _ us hl => by first | (obtain ⟨_, rfl⟩ := lel1 hl; exact rfl) | exact (match us, hl with | [_], _ => rfl)
  have F5 := fun_mk (st := s__law_whole_part) l5 c5 k5
  have b5 := F5.binds (ps := ["_law_bag_here"]) fun _ _ _ _ _ _ us hl => by first | (obtain ⟨_, rfl⟩ := lel1 hl; exact rfl) | exact (match us, hl with | [_], _ => rfl)
  have F6 := fun_mk (st := s__law_entry) l6 c6 k6
  have b6 := F6.binds (ps := ["_law_bag_here"]) fun _ _ _ _ _ _ us hl => by first | (obtain ⟨_, rfl⟩ := lel1 hl; exact rfl) | exact (match us, hl with | [_], _ => rfl)
  have F7 := fun_mk (st := s__law_map) l7 c7 k7
  have b7 := F7.binds (ps := ["_law_bag_here", "_law_start", "_law_goal"]) fun _ _ _ _ _ _ us hl => by first | (obtain ⟨_, _, _, rfl⟩ := lel3 hl; exact rfl) | exact (match us, hl with | [_, _, _], _ => rfl)
  have F8 := fun_mk (st := s__law_tree) l8 c8 k8
  have b8 := F8.binds (ps := ["_law_bag_here", "_law_deep", "_law_names"]) fun _ _ _ _ _ _ us hl => by first | (obtain ⟨_, _, _, rfl⟩ := lel3 hl; exact rfl) | exact (match us, hl with | [_, _, _], _ => rfl)
  have F9 := fun_mk (st := s__law_words) l9 c9 k9
  have b9 := F9.binds (ps := ["_law_text_here"]) fun _ _ _ _ _ _ us hl => by first | (obtain ⟨_, rfl⟩ := lel1 hl; exact rfl) | exact (match us, hl with | [_], _ => rfl)
  have F10 := fun_mk (st := s__law_glued) l10 c10 k10
  have b10 := F10.binds (ps := ["_law_words_here"]) fun _ _ _ _ _ _ us hl => by first | (obtain ⟨_, rfl⟩ := lel1 hl; exact rfl) | exact (match us, hl with | [_], _ => rfl)
  have F11 := fun_mk (st := s__law_inner) l11 c11 k11
  have b11 := F11.binds (ps := ["_law_tree_here"]) fun _ _ _ _ _ _ us hl => by first | (obtain ⟨_, rfl⟩ := lel1 hl; exact rfl) | exact (match us, hl with | [_], _ => rfl)
  have F12 := fun_mk (st := s__law_part_text) l12 c12 k12
  have b12 := F12.binds (ps := ["_law_one"]) fun _ _ _ _ _ _ us hl => by first | (obtain ⟨_, rfl⟩ := lel1 hl; exact rfl) | exact (match us, hl with | [_], _ => rfl)
  have F13 := fun_mk (st := s__law_text) l13 c13 k13
  have b13 := F13.binds (ps := ["_law_tree_here"]) fun _ _ _ _ _ _ us hl => by first | (obtain ⟨_, rfl⟩ := lel1 hl; exact rfl) | exact (match us, hl with | [_], _ => rfl)
  have F14 := fun_mk (st := s__law_like) l14 c14 k14
  have b14 := F14.binds (ps := ["_law_found", "_law_due"]) fun _ _ _ _ _ _ us hl => by first | (obtain ⟨_, _, rfl⟩ := lel2 hl; exact rfl) | exact (match us, hl with | [_, _], _ => rfl)
  have F15 := fun_mk (st := s_Reading_taken) l15 c15 k15
  have b15 := F15.binds (ps := ["self", "fits"]) fun _ _ _ _ _ _ us hl => by first | (obtain ⟨_, _, rfl⟩ := lel2 hl; exact rfl) | exact (match us, hl with | [_, _], _ => rfl)
  have F16 := fund_mk (st := s_Reading_seen) (dvs := [V.int 0]) l16 c16 k16 t16 (.cons ⟨_, rfl⟩ .nil) (by simp)
  have b16 := binds_all (ps := ["self", "ahead"]) F16 (by simp) fun _ _ _ _ _ _ _ us its hl hl2 => by first | (obtain ⟨_, _, rfl⟩ := lel2 hl; obtain ⟨_, rfl⟩ := lel1 hl2; exact ⟨_, rfl, rfl⟩) | exact (match us, its, hl, hl2 with | [_, _], [_], _, _ => ⟨_, rfl, rfl⟩)
  obtain ⟨q16_1, w16_1, u16_1⟩ := F16.binds1 (ps := ["self", "ahead"]) 1 0 (by simp) rfl fun _ _ _ _ _ _ _ us its hl hl2 => by first | (obtain ⟨_, rfl⟩ := lel1 hl; obtain ⟨_, rfl⟩ := lel1 hl2; exact ⟨_, rfl, rfl⟩) | exact (match us, its, hl, hl2 with | [_], [_], _, _ => ⟨_, rfl, rfl⟩)
  have F17 := fun_mk (st := s_figures_of) l17 c17 k17
  have b17 := F17.binds (ps := ["text", "most"]) fun _ _ _ _ _ _ us hl => by first | (obtain ⟨_, _, rfl⟩ := lel2 hl; exact rfl) | exact (match us, hl with | [_, _], _ => rfl)
  have F18 := fundk_mk (st := s_whole_in) (kws := [("most", V.int 40)]) l18 c18 k18 (fun q hq => (List.mem_cons.mp hq).elim (fun e => by subst e; exact ⟨_, t18_0, ⟨_, rfl⟩⟩) (fun hq => by cases hq))
  obtain ⟨q18, w18, u18⟩ := F18.binds0 (ps := ["text", "most"]) 1 (by simp) rfl fun _ _ _ _ _ _ us ks hl hl2 => by first | (obtain ⟨_, rfl⟩ := lel1 hl; obtain ⟨_, rfl⟩ := lel1 hl2; exact ⟨_, _, _, _, _, _, rfl, rfl, rfl⟩) | exact (match us, ks, hl, hl2 with | [_], [_], _, _ => ⟨_, _, _, _, _, _, rfl, rfl, rfl⟩)
  have kb18 := kbinds_all (ps := ["text", "most"]) (ks := ["most"]) (n := 1) F18 fun _ _ _ _ _ _ us ws hl hl2 => by first | (obtain ⟨_, rfl⟩ := lel1 hl; obtain ⟨_, rfl⟩ := lel1 hl2; exact rfl) | exact (match us, ws, hl, hl2 with | [_], [_], _, _ => rfl)
  have F19 := fun_mk (st := s_Reading_number) l19 c19 k19
  have b19 := F19.binds (ps := ["self"]) fun _ _ _ _ _ _ us hl => by first | (obtain ⟨_, rfl⟩ := lel1 hl; exact rfl) | exact (match us, hl with | [_], _ => rfl)
  have F20 := fun_mk (st := s_shared) l20 c20 k20
  have b20 := F20.binds (ps := ["one", "other"]) fun _ _ _ _ _ _ us hl => by first | (obtain ⟨_, _, rfl⟩ := lel2 hl; exact rfl) | exact (match us, hl with | [_, _], _ => rfl)
  have F21 := fundk_mk (st := s_part_in) (kws := [("most", V.int 40)]) l21 c21 k21 (fun q hq => (List.mem_cons.mp hq).elim (fun e => by subst e; exact ⟨_, t21_0, ⟨_, rfl⟩⟩) (fun hq => by cases hq))
  obtain ⟨q21, w21, u21⟩ := F21.binds0 (ps := ["text", "most"]) 1 (by simp) rfl fun _ _ _ _ _ _ us ks hl hl2 => by first | (obtain ⟨_, rfl⟩ := lel1 hl; obtain ⟨_, rfl⟩ := lel1 hl2; exact ⟨_, _, _, _, _, _, rfl, rfl, rfl⟩) | exact (match us, ks, hl, hl2 with | [_], [_], _, _ => ⟨_, _, _, _, _, _, rfl, rfl, rfl⟩)
  have kb21 := kbinds_all (ps := ["text", "most"]) (ks := ["most"]) (n := 1) F21 fun _ _ _ _ _ _ us ws hl hl2 => by first | (obtain ⟨_, rfl⟩ := lel1 hl; obtain ⟨_, rfl⟩ := lel1 hl2; exact rfl) | exact (match us, ws, hl, hl2 with | [_], [_], _, _ => rfl)
  have F22 := fun_mk (st := s_Reading_row) l22 c22 k22
  have b22 := F22.binds (ps := ["self", "size"]) fun _ _ _ _ _ _ us hl => by first | (obtain ⟨_, _, rfl⟩ := lel2 hl; exact rfl) | exact (match us, hl with | [_, _], _ => rfl)
  have F23 := fun_mk (st := s_Reading_way) l23 c23 k23
  have b23 := F23.binds (ps := ["self"]) fun _ _ _ _ _ _ us hl => by first | (obtain ⟨_, rfl⟩ := lel1 hl; exact rfl) | exact (match us, hl with | [_], _ => rfl)
  have F24 := fun_mk (st := s_is_name) l24 c24 k24
  have b24 := F24.binds (ps := ["thing"]) fun _ _ _ _ _ _ us hl => by first | (obtain ⟨_, rfl⟩ := lel1 hl; exact rfl) | exact (match us, hl with | [_], _ => rfl)
  have F25 := fund_mk (st := s_Reading_tree) (dvs := [V.int 0]) l25 c25 k25 t25 (.cons ⟨_, rfl⟩ .nil) (by simp)
  have b25 := binds_all (ps := ["self", "deep"]) F25 (by simp) fun _ _ _ _ _ _ _ us its hl hl2 => by first | (obtain ⟨_, _, rfl⟩ := lel2 hl; obtain ⟨_, rfl⟩ := lel1 hl2; exact ⟨_, rfl, rfl⟩) | exact (match us, its, hl, hl2 with | [_, _], [_], _, _ => ⟨_, rfl, rfl⟩)
  obtain ⟨q25_1, w25_1, u25_1⟩ := F25.binds1 (ps := ["self", "deep"]) 1 0 (by simp) rfl fun _ _ _ _ _ _ _ us its hl hl2 => by first | (obtain ⟨_, rfl⟩ := lel1 hl; obtain ⟨_, rfl⟩ := lel1 hl2; exact ⟨_, rfl, rfl⟩) | exact (match us, its, hl, hl2 with | [_], [_], _, _ => ⟨_, rfl, rfl⟩)
  have F26 := fun_mk (st := s_tokens_of) l26 c26 k26
  have b26 := F26.binds (ps := ["text"]) fun _ _ _ _ _ _ us hl => by first | (obtain ⟨_, rfl⟩ := lel1 hl; exact rfl) | exact (match us, hl with | [_], _ => rfl)
  have F27 := fun_mk (st := s_Reading___init__) l27 c27 k27
  have b27 := F27.binds (ps := ["self", "text"]) fun _ _ _ _ _ _ us hl => by first | (obtain ⟨_, _, rfl⟩ := lel2 hl; exact rfl) | exact (match us, hl with | [_, _], _ => rfl)
  have F28 := fun_mk (st := s_read) l28 c28 k28
  have b28 := F28.binds (ps := ["text"]) fun _ _ _ _ _ _ us hl => by first | (obtain ⟨_, rfl⟩ := lel1 hl; exact rfl) | exact (match us, hl with | [_], _ => rfl)
  have F29 := fun_mk (st := s__law_told) l29 c29 k29
  have b29 := F29.binds (ps := ["_law_text_here"]) fun _ _ _ _ _ _ us hl => by first | (obtain ⟨_, rfl⟩ := lel1 hl; exact rfl) | exact (match us, hl with | [_], _ => rfl)
  have F30 := fun_mk (st := s__law_deep_text) l30 c30 k30
  have b30 := F30.binds (ps := ["_law_many"]) fun _ _ _ _ _ _ us hl => by first | (obtain ⟨_, rfl⟩ := lel1 hl; exact rfl) | exact (match us, hl with | [_], _ => rfl)
  have F31 := fun_mk (st := s__law_placed) l31 c31 k31
  have b31 := F31.binds (ps := ["_law_words_here", "_law_at"]) fun _ _ _ _ _ _ us hl => by first | (obtain ⟨_, _, rfl⟩ := lel2 hl; exact rfl) | exact (match us, hl with | [_, _], _ => rfl)
  have F32 := fun_mk (st := s_law) l32 c32 k32
  obtain ⟨gs, hg3, hg4⟩ : ∃ gs : Gs, gs "PAIRS" = V.ref kca3 ∧ gs "WORDS" = V.ref kca4 := ⟨fun x => if x = "PAIRS" then V.ref kca3 else if x = "WORDS" then V.ref kca4 else V.non, by dsimp only; rw [if_pos rfl], by dsimp only; rw [if_neg (by decide), if_pos rfl]⟩
  have gr3 : RelV (gs "PAIRS") (.ref kca3) := by rw [hg3]; rfl
  have gd3 : ∀ H, Dp K H (gs "PAIRS") (pairsD) := fun H => by rw [hg3]; exact .tup (xs := [V.str "add", V.str "take", V.str "meet", V.str "least", V.str "most", V.str "lay"]) (.inr ⟨_, _, _, kl3, rfl, rfl, by show 6 ≤ sizeLine; decide, (.cons ⟨_, rfl⟩ (.cons ⟨_, rfl⟩ (.cons ⟨_, rfl⟩ (.cons ⟨_, rfl⟩ (.cons ⟨_, rfl⟩ (.cons ⟨_, rfl⟩ .nil))))))⟩) (.cons (.str _) (.cons (.str _) (.cons (.str _) (.cons (.str _) (.cons (.str _) (.cons (.str _) .nil))))))
  have gr4 : RelV (gs "WORDS") (.ref kca4) := by rw [hg4]; rfl
  have gd4 : ∀ H, Dp K H (gs "WORDS") (wordsD) := fun H => by rw [hg4]; exact .tup (xs := [V.str "add", V.str "take", V.str "meet", V.str "least", V.str "most", V.str "lay", V.str "times", V.str "turn", V.str "carry"]) (.inr ⟨_, _, _, kl4, rfl, rfl, by show 9 ≤ sizeLine; decide, (.cons ⟨_, rfl⟩ (.cons ⟨_, rfl⟩ (.cons ⟨_, rfl⟩ (.cons ⟨_, rfl⟩ (.cons ⟨_, rfl⟩ (.cons ⟨_, rfl⟩ (.cons ⟨_, rfl⟩ (.cons ⟨_, rfl⟩ (.cons ⟨_, rfl⟩ .nil)))))))))⟩) (.cons (.str _) (.cons (.str _) (.cons (.str _) (.cons (.str _) (.cons (.str _) (.cons (.str _) (.cons (.str _) (.cons (.str _) (.cons (.str _) .nil)))))))))
  have T : TX K mg := { cs := cs, co_Reading := co0, mkA_Reading := f27, mk_Reading := ⟨in0m, a27, i27, in0k⟩, g_Reading := PySem.W.mg_of X G in0g, ox_Unfit := ox0, kC_Unfit := y0k, fI_Unfit := _, dI_Unfit := _, FI_Unfit := FI0, i_Unfit := y0i, ti_Unfit := y0f, bi_Unfit := bi0, g_Unfit := PySem.W.mg_of X G y0g, xf_Unfit := ⟨y0a, y0b, y0x, y0h⟩, nw_Unfit_word := y0n_word, cf_Unfit := cf0, rd_Unfit := y0r, ga_Unfit := y0q, fc_Unfit := y0v, ox_Unread := ox1, kC_Unread := y1k, fI_Unread := _, dI_Unread := _, FI_Unread := FI1, i_Unread := y1i, ti_Unread := y1f, bi_Unread := bi1, g_Unread := PySem.W.mg_of X G y1g, xf_Unread := ⟨y1a, y1b, y1x, y1h⟩, nw_Unread_word := y1n_word, nw_Unread_at := y1n_at, cf_Unread := cf1, ox_BadRow := ox2, kC_BadRow := y2k, fI_BadRow := _, dI_BadRow := _, FI_BadRow := FI2, i_BadRow := y2i, ti_BadRow := y2f, bi_BadRow := bi2, g_BadRow := PySem.W.mg_of X G y2g, xf_BadRow := ⟨y2a, y2b, y2x, y2h⟩, nw_BadRow_word := y2n_word, nw_BadRow_at := y2n_at, cf_BadRow := cf2, is_Unread := ⟨y1w1, y1w2, y1w3, y1w4⟩, ko_Unread_BadRow := ko0, ko_Unread_Unfit := ko1, em_Unread_Unread := em_of y1x y1h y1t e0, a__law_bag := f0, d__law_bag := _, F__law_bag := F0, g__law_bag := PySem.W.mg_of X G a0, b__law_bag := b0, a__law_pull := f1, d__law_pull := _, F__law_pull := F1, g__law_pull := PySem.W.mg_of X G a1, b__law_pull := b1, a__law_gcd := f2, d__law_gcd := _, F__law_gcd := F2, g__law_gcd := PySem.W.mg_of X G a2, b__law_gcd := b2, a__law_frac := f3, d__law_frac := _, F__law_frac := F3, g__law_frac := PySem.W.mg_of X G a3, b__law_frac := b3, a__law_part := f4, d__law_part := _, F__law_part := F4, g__law_part := PySem.W.mg_of X G a4, b__law_part := b4, a__law_whole_part := f5, d__law_whole_part := _, F__law_whole_part := F5, g__law_whole_part := PySem.W.mg_of X G a5, b__law_whole_part := b5, a__law_entry := f6, d__law_entry := _, F__law_entry := F6, g__law_entry := PySem.W.mg_of X G a6, b__law_entry := b6, a__law_map := f7, d__law_map := _, F__law_map := F7, g__law_map := PySem.W.mg_of X G a7, b__law_map := b7, a__law_tree := f8, d__law_tree := _, F__law_tree := F8, g__law_tree := PySem.W.mg_of X G a8, b__law_tree := b8, a__law_words := f9, d__law_words := _, F__law_words := F9, g__law_words := PySem.W.mg_of X G a9, b__law_words := b9, a__law_glued := f10, d__law_glued := _, F__law_glued := F10, g__law_glued := PySem.W.mg_of X G a10, b__law_glued := b10, a__law_inner := f11, d__law_inner := _, F__law_inner := F11, g__law_inner := PySem.W.mg_of X G a11, b__law_inner := b11, a__law_part_text := f12, d__law_part_text := _, F__law_part_text := F12, g__law_part_text := PySem.W.mg_of X G a12, b__law_part_text := b12, a__law_text := f13, d__law_text := _, F__law_text := F13, g__law_text := PySem.W.mg_of X G a13, b__law_text := b13, a__law_like := f14, d__law_like := _, F__law_like := F14, g__law_like := PySem.W.mg_of X G a14, b__law_like := b14, a_Reading_taken := f15, me_Reading_taken := ⟨a15, i15, k15⟩, d_Reading_taken := _, F_Reading_taken := F15, b_Reading_taken := b15, a_Reading_seen := f16, me_Reading_seen := ⟨a16, i16, k16⟩, d_Reading_seen := _, F_Reading_seen := F16, b_Reading_seen := b16, e1_Reading_seen := q16_1, v1_Reading_seen := w16_1, b1_Reading_seen := u16_1, a_figures_of := f17, d_figures_of := _, F_figures_of := F17, g_figures_of := PySem.W.mg_of X G a17, b_figures_of := b17, a_whole_in := f18, d_whole_in := _, F_whole_in := F18, g_whole_in := PySem.W.mg_of X G a18, kb_whole_in := kb18, e1_whole_in := q18, v1_whole_in := w18, b1_whole_in := u18, a_Reading_number := f19, me_Reading_number := ⟨a19, i19, k19⟩, d_Reading_number := _, F_Reading_number := F19, b_Reading_number := b19, a_shared := f20, d_shared := _, F_shared := F20, g_shared := PySem.W.mg_of X G a20, b_shared := b20, a_part_in := f21, d_part_in := _, F_part_in := F21, g_part_in := PySem.W.mg_of X G a21, kb_part_in := kb21, e1_part_in := q21, v1_part_in := w21, b1_part_in := u21, a_Reading_row := f22, me_Reading_row := ⟨a22, i22, k22⟩, d_Reading_row := _, F_Reading_row := F22, b_Reading_row := b22, a_Reading_way := f23, me_Reading_way := ⟨a23, i23, k23⟩, d_Reading_way := _, F_Reading_way := F23, b_Reading_way := b23, a_is_name := f24, d_is_name := _, F_is_name := F24, g_is_name := PySem.W.mg_of X G a24, b_is_name := b24, a_Reading_tree := f25, me_Reading_tree := ⟨a25, i25, k25⟩, d_Reading_tree := _, F_Reading_tree := F25, b_Reading_tree := b25, e1_Reading_tree := q25_1, v1_Reading_tree := w25_1, b1_Reading_tree := u25_1, a_tokens_of := f26, d_tokens_of := _, F_tokens_of := F26, g_tokens_of := PySem.W.mg_of X G a26, b_tokens_of := b26, d_Reading___init__ := _, F_Reading___init__ := F27, b_Reading___init__ := b27, a_read := f28, d_read := _, F_read := F28, g_read := PySem.W.mg_of X G a28, b_read := b28, a__law_told := f29, d__law_told := _, F__law_told := F29, g__law_told := PySem.W.mg_of X G a29, b__law_told := b29, a__law_deep_text := f30, d__law_deep_text := _, F__law_deep_text := F30, g__law_deep_text := PySem.W.mg_of X G a30, b__law_deep_text := b30, a__law_placed := f31, d__law_placed := _, F__law_placed := F31, g__law_placed := PySem.W.mg_of X G a31, b__law_placed := b31, gs := gs, tk_DEEP := _, c_DEEP := PySem.W.mg_of X G kc0, tk_LETTERS := _, c_LETTERS := PySem.W.mg_of X G kc1, tk_LONG := _, c_LONG := PySem.W.mg_of X G kc2, u_PAIRS := _, c_PAIRS := PySem.W.mg_of X G kc3, r_PAIRS := gr3, gd_PAIRS := gd3, u_WORDS := _, c_WORDS := PySem.W.mg_of X G kc4, r_WORDS := gr4, gd_WORDS := gd4, n_abs := PySem.W.mg_none_of X G z0, n_all := PySem.W.mg_none_of X G z1, n_bool := PySem.W.mg_none_of X G z2, n_enumerate := PySem.W.mg_none_of X G z3, n_int := PySem.W.mg_none_of X G z4, n_isinstance := PySem.W.mg_none_of X G z5, n_len := PySem.W.mg_none_of X G z6, n_list := PySem.W.mg_none_of X G z7, n_max := PySem.W.mg_none_of X G z8, n_min := PySem.W.mg_none_of X G z9, n_range := PySem.W.mg_none_of X G z10, n_str := PySem.W.mg_none_of X G z11, n_tuple := PySem.W.mg_none_of X G z12 }
  exact ⟨_, fun s v => .of_eq rfl, fun base _ _ => ok_law T F32⟩
  ) only [↓qt_eq])
end Law
end U.N
open PySem PySem.W PyProof.Rows
set_option maxHeartbeats 0 in
theorem PySem.Challenge.cw_umbrage_k53_texts_that_are_none_holds : PySem.Challenge.rw_umbrage_k53_texts_that_are_none.Holds := by
  refine U.head_top ?_
  k_fill
  refine L2.walk_of (l := PySem.Challenge.rw_umbrage_k53_texts_that_are_none) (n := 63) (k := 31) (x := "_law_script") (CX := fun _ => L2.CX0) (sp := fun w => U.spP _ U.PLaw) rfl (by decide) rfl ⟨rfl, by decide, by decide⟩ (fun w h Y => PySem.W.kIn_of Y) ?F (fun _ _ a ns hl _ hS => ⟨fun _ => False, [.list (ns.map PyData.int)], .bool true, fun _ z => z.elim, .cons (.lst (U.less_none hS) (U.dpa_of_ints _)) .nil, ⟨ns, rfl, hl, rfl⟩, fun v H' _ d => by cases d; rfl⟩) (fun _ _ _ _ _ h => h)
  case F =>
    intro w mg fa h KX G hmg
    refine' U.N.Law.all_mk KX G hmg ?in0g ?in0p ?in0h ?in0o ?in0s ?in0m ?in0k ?in0n_tokens ?in0n_spent ?a0 ?l0 ?c0 ?k0 ?a1 ?l1 ?c1 ?k1 ?a2 ?l2 ?c2 ?k2 ?a3 ?l3 ?c3 ?k3 ?a4 ?l4 ?c4 ?k4 ?a5 ?l5 ?c5 ?k5 ?a6 ?l6 ?c6 ?k6 ?a7 ?l7 ?c7 ?k7 ?a8 ?l8 ?c8 ?k8 ?a9 ?l9 ?c9 ?k9 ?a10 ?l10 ?c10 ?k10 ?a11 ?l11 ?c11 ?k11 ?a12 ?l12 ?c12 ?k12 ?a13 ?l13 ?c13 ?k13 ?a14 ?l14 ?c14 ?k14 ?a15 ?l15 ?c15 ?k15 ?i15 ?a16 ?l16 ?c16 ?k16 ?i16 ?t16 ?a17 ?l17 ?c17 ?k17 ?a18 ?l18 ?c18 ?k18 ?t18_0 ?a19 ?l19 ?c19 ?k19 ?i19 ?a20 ?l20 ?c20 ?k20 ?a21 ?l21 ?c21 ?k21 ?t21_0 ?a22 ?l22 ?c22 ?k22 ?i22 ?a23 ?l23 ?c23 ?k23 ?i23 ?a24 ?l24 ?c24 ?k24 ?a25 ?l25 ?c25 ?k25 ?i25 ?t25 ?a26 ?l26 ?c26 ?k26 ?a27 ?l27 ?c27 ?k27 ?i27 ?a28 ?l28 ?c28 ?k28 ?a29 ?l29 ?c29 ?k29 ?a30 ?l30 ?c30 ?k30 ?a31 ?l31 ?c31 ?k31 ?a32 ?l32 ?c32 ?k32 ?y0g ?y0o ?y0m ?y0h ?y0s ?y0x ?y0t ?y0k ?y0i ?y0f ?y0l ?y0c ?y0p ?y0a ?y0b ?y0n_word ?y0r ?y0q ?y0v ?y0d ?y1g ?y1o ?y1m ?y1h ?y1s ?y1x ?y1t ?y1k ?y1i ?y1f ?y1l ?y1c ?y1p ?y1a ?y1b ?y1n_word ?y1n_at ?y2g ?y2o ?y2m ?y2h ?y2s ?y2x ?y2t ?y2k ?y2i ?y2f ?y2l ?y2c ?y2p ?y2a ?y2b ?y2n_word ?y2n_at ?e0 ?y1w1 ?y1w2 ?y1w3 ?y1w4 ?ko0 ?ko1 ?z0 ?z1 ?z2 ?z3 ?z4 ?z5 ?z6 ?z7 ?z8 ?z9 ?z10 ?z11 ?z12 ?kc0 ?kc1 ?kc2 ?kc3 ?kl3 ?kc4 ?kl4
    (case in0g => k_is); (case in0p => k_is); (case in0h => k_is); (case in0o => k_is); (case in0s => k_is); (case in0m => k_is); (case in0k => k_is); (case in0n_tokens => k_is); (case in0n_spent => k_is); (case a0 => k_is); (case l0 => k_is); (case c0 => k_is); (case k0 => k_is); (case a1 => k_is); (case l1 => k_is); (case c1 => k_is); (case k1 => k_is); (case a2 => k_is); (case l2 => k_is); (case c2 => k_is); (case k2 => k_is); (case a3 => k_is); (case l3 => k_is); (case c3 => k_is); (case k3 => k_is); (case a4 => k_is); (case l4 => k_is); (case c4 => k_is); (case k4 => k_is); (case a5 => k_is); (case l5 => k_is); (case c5 => k_is); (case k5 => k_is); (case a6 => k_is); (case l6 => k_is); (case c6 => k_is); (case k6 => k_is); (case a7 => k_is); (case l7 => k_is); (case c7 => k_is); (case k7 => k_is); (case a8 => k_is); (case l8 => k_is); (case c8 => k_is); (case k8 => k_is); (case a9 => k_is); (case l9 => k_is); (case c9 => k_is); (case k9 => k_is); (case a10 => k_is); (case l10 => k_is); (case c10 => k_is); (case k10 => k_is); (case a11 => k_is); (case l11 => k_is); (case c11 => k_is); (case k11 => k_is); (case a12 => k_is); (case l12 => k_is); (case c12 => k_is); (case k12 => k_is); (case a13 => k_is); (case l13 => k_is); (case c13 => k_is); (case k13 => k_is); (case a14 => k_is); (case l14 => k_is); (case c14 => k_is); (case k14 => k_is); (case a15 => k_is); (case l15 => k_is); (case c15 => k_is); (case k15 => k_is); (case i15 => k_is); (case a16 => k_is); (case l16 => k_is); (case c16 => k_is); (case k16 => k_is); (case i16 => k_is); (case t16 => k_is); (case a17 => k_is); (case l17 => k_is); (case c17 => k_is); (case k17 => k_is); (case a18 => k_is); (case l18 => k_is); (case c18 => k_is); (case k18 => k_is); (case t18_0 => k_is); (case a19 => k_is); (case l19 => k_is); (case c19 => k_is); (case k19 => k_is); (case i19 => k_is); (case a20 => k_is); (case l20 => k_is); (case c20 => k_is); (case k20 => k_is); (case a21 => k_is); (case l21 => k_is); (case c21 => k_is); (case k21 => k_is); (case t21_0 => k_is); (case a22 => k_is); (case l22 => k_is); (case c22 => k_is); (case k22 => k_is); (case i22 => k_is); (case a23 => k_is); (case l23 => k_is); (case c23 => k_is); (case k23 => k_is); (case i23 => k_is); (case a24 => k_is); (case l24 => k_is); (case c24 => k_is); (case k24 => k_is); (case a25 => k_is); (case l25 => k_is); (case c25 => k_is); (case k25 => k_is); (case i25 => k_is); (case t25 => k_is); (case a26 => k_is); (case l26 => k_is); (case c26 => k_is); (case k26 => k_is); (case a27 => k_is); (case l27 => k_is); (case c27 => k_is); (case k27 => k_is); (case i27 => k_is); (case a28 => k_is); (case l28 => k_is); (case c28 => k_is); (case k28 => k_is); (case a29 => k_is); (case l29 => k_is); (case c29 => k_is); (case k29 => k_is); (case a30 => k_is); (case l30 => k_is); (case c30 => k_is); (case k30 => k_is); (case a31 => k_is); (case l31 => k_is); (case c31 => k_is); (case k31 => k_is); (case a32 => k_is); (case l32 => k_is); (case c32 => k_is); (case k32 => k_is); (case y0g => k_is); (case y0o => kx_is); (case y0m => kx_is); (case y0h => k_is); (case y0s => k_is); (case y0x => k_is); (case y0t => k_is); (case y0k => k_is); (case y0i => k_is); (case y0f => k_is); (case y0l => k_is); (case y0c => k_is); (case y0p => k_is); (case y0a => k_is); (case y0b => k_is); (case y0n_word => k_is); (case y0r => k_is); (case y0q => k_is); (case y0v => k_is); (case y0d => k_is); (case y1g => k_is); (case y1o => kx_is); (case y1m => kx_is); (case y1h => k_is); (case y1s => k_is); (case y1x => k_is); (case y1t => k_is); (case y1k => k_is); (case y1i => k_is); (case y1f => k_is); (case y1l => k_is); (case y1c => k_is); (case y1p => k_is); (case y1a => k_is); (case y1b => k_is); (case y1n_word => k_is); (case y1n_at => k_is); (case y2g => k_is); (case y2o => kx_is); (case y2m => kx_is); (case y2h => k_is); (case y2s => k_is); (case y2x => k_is); (case y2t => k_is); (case y2k => k_is); (case y2i => k_is); (case y2f => k_is); (case y2l => k_is); (case y2c => k_is); (case y2p => k_is); (case y2a => k_is); (case y2b => k_is); (case y2n_word => k_is); (case y2n_at => k_is); (case e0 => k_is); (case y1w1 => k_is); (case y1w2 => k_is); (case y1w3 => k_is); (case y1w4 => k_is); (case ko0 => kit_is); (case ko1 => kit_is); (case z0 => k_is); (case z1 => k_is); (case z2 => k_is); (case z3 => k_is); (case z4 => k_is); (case z5 => k_is); (case z6 => k_is); (case z7 => k_is); (case z8 => k_is); (case z9 => k_is); (case z10 => k_is); (case z11 => k_is); (case z12 => k_is); (case kc0 => k_is); (case kc1 => k_is); (case kc2 => k_is); (case kc3 => k_is); (case kl3 => k_is); (case kc4 => k_is); (case kl4 => k_is)
