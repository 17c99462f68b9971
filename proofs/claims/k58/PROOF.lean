import PyProof.Rows.All
import Wide.All
import OpenK.AllK
import Wide.FinOn
import HandS.ForMost
import HandS.ForExc
import HandS.Wide
import HandS.IsInst
import HandS.Evl
import HandS.Defaults
import HandS.TupAny
import HandS.Zip
import HandS.Style
import HandS.ExcInit
import HandS.ExcField
import KE.KExcInit
import HandS.CallSlots
import HandS.ExcIs
import KE.KExcLine
import KE.KUnpackStar
import HandS.SortKw
import KE.GoesEnum
import KE.KUnpack
import HandS.Lambda
import KE.KDictKeyed
import KE.KDictWalk
import HandS.DictComp
import KE.SortData
import KE.KDictSum
import HandS.Conv
import PyProof.Transfer
import HandS.Deep
import KE.KExcIs
import KE.KIsAll
import HandS.IterVal
import HandS.TupSets
import HandS.More
import HandS.Text
import HandS.FStr
import PyProof.Rows.RegReprOcc
import PyProof.Rows.StrFirst
import HandS.Head2
import KE.KNestM
import PySem.Challenge.RW_umbrage_k58_whole_settlings_by_their_pap
def Qt (p : Prop) : Prop := p
theorem qt_eq (p : Prop) (h : p) : Qt p = True := eq_true h
theorem qt_of {p : Prop} (h : Qt p) : p := h
set_option Elab.async false
set_option linter.all false
set_option maxRecDepth 100000
set_option maxHeartbeats 4000000
namespace U
open PySem PySem.W PyProof.Rows
theorem hob_k {K : Params → Frag} {as : List Addr} {e : ∀ P, as = (K P).map (·.1)} (s : SharedT) : as.map (HandSHeadRun.getT s) = (kHook K as e).obs s.abs := List.map_congr_left fun a _ => HandSHeadRun.getT_eq s a
theorem hob_km {K : Params → Frag} {as : List Addr} {e : ∀ P, as = (K P).map (·.1)} {ts : List Addr} (s : SharedT) : (as.map (HandSHeadRun.getT s), ts.map (HandSHeadRun.getT s)) = (kmHook K as e ts).obs s.abs := Prod.ext (List.map_congr_left fun a _ => HandSHeadRun.getT_eq s a) (List.map_congr_left fun a _ => HandSHeadRun.getT_eq s a)
def loose : List PySem.Str := (["Unfit", "OtherRoom", "Flat", "shared", "part", "plus", "times", "part_text", "PLANE", "NONE", "ONE", "room_from", "still", "behind", "straightened", "way_text", "write", "FREE", "BOUND", "twice", "once", "product", "still_rule", "onward", "turncarry", "turntimes", "carrytimes", "turnpair", "carrypair", "left"] : List PySem.Str) ++ (["right", "FITTING", "RULES", "at_top", "one_step", "settled", "_law_bag", "_law_pull", "_law_like", "_law_gcd", "_law_frac", "_law_add", "_law_sub", "_law_mul", "_law_part", "_law_whole_part", "_law_map", "_law_led", "_law_entry", "_law_part_text", "_law_inner", "_law_text", "_law_fit_tree", "_law_unit", "_law_behind_map", "_law_rule_turn", "_law_rule_carry", "_law_rule", "_law_one_rule", "_law_lean_map"] : List PySem.Str) ++ (["_law_refused", "_law_bare_tree", "_law_unlike_rooms"] : List PySem.Str)
set_option maxHeartbeats 0 in
local macro_rules | `(tactic| o_head $H) => `(tactic| (refine HandSHeadRun.head_any (r := (OpenLaw.row PySem.Challenge.rw_umbrage_k58_whole_settlings_by_their_pap)) (q := view (OpenLaw.row PySem.Challenge.rw_umbrage_k58_whole_settlings_by_their_pap).prog [69]) (H := $H) (M := 2700) (loose := U.loose) (d := HandSHeadRun.topDef (OpenLaw.row PySem.Challenge.rw_umbrage_k58_whole_settlings_by_their_pap).prog 69) (kwd := []) (fun s => by first | exact U.hob_k s | exact U.hob_km s) (by kernel_rfl) (fun s => by kernel_rfl) ?hrun (by kernel_rfl) (by kernel_rfl) (by kernel_rfl) (by rfl) (by first | assumption | decide +kernel) (by decide +kernel) ⟨rfl, rfl, rfl, rfl, rfl, by decide +kernel⟩ ?hw ?hc; (case hrun => (refine byRow2 "special-get-raises" (fun w => ?hf) (fun w => ?ht); (case hf => (intro os; kernel_rfl)); (case ht => (intro os; kernel_rfl))))))
set_option maxHeartbeats 0 in
open_top head_top for PySem.Challenge.rw_umbrage_k58_whole_settlings_by_their_pap
end U
section
/-! The data layer: slots hold data, lists of one's own, or the bag of draws; readings evaluate to data. -/
namespace U
open PySem L2 Evl
noncomputable abbrev Fg := PySem.W.Frag
noncomputable abbrev Hp := L2.Hp
noncomputable abbrev St := L2.St
open Classical in
noncomputable def less (H : Hp) (Z : Addr → Prop) : Hp := fun a => if Z a then none else H a
theorem less_no {H : Hp} {Z : Addr → Prop} {a : Addr} (h : ¬ Z a) : less H Z a = H a := if_neg h
theorem less_yes {H : Hp} {Z : Addr → Prop} {a : Addr} (h : Z a) : less H Z a = none := if_pos h
theorem less_some {H : Hp} {Z : Addr → Prop} {a : Addr} {o : HO} (h : less H Z a = some o) : ¬ Z a ∧ H a = some o := by
  by_cases z : Z a
  · rw [less_yes z] at h; cases h
  · rw [less_no z] at h; exact ⟨z, h⟩
theorem less_of {H : Hp} {Z : Addr → Prop} {a : Addr} {o : HO} (z : ¬ Z a) (h : H a = some o) : less H Z a = some o := (less_no z).trans h
theorem less_ex {H : Hp} {Z : Addr → Prop} : Ex (less H Z) H := fun _ _ h => (less_some h).2
theorem less_mono {H H' : Hp} {Z : Addr → Prop} (e : Ex H H') : Ex (less H Z) (less H' Z) := fun a o h => less_of (less_some h).1 (e a o (less_some h).2)
theorem less_sub {H : Hp} {Z Z' : Addr → Prop} (e : ∀ a, Z' a → Z a) : Ex (less H Z) (less H Z') := fun a o h => less_of (fun z => (less_some h).1 (e a z)) (less_some h).2
theorem less_but {H H' : Hp} {Z : Addr → Prop} (e : ∀ a o, H a = some o → ¬ Z a → H' a = some o) : Ex (less H Z) (less H' Z) := fun a o h => less_of (less_some h).1 (e a o (less_some h).2 (less_some h).1)

mutual
theorem dp_mono {K : Fg} {H H' : Hp} (e : Ex H H') : ∀ {d : PyData} {v : V}, Dp K H v d → Dp K H' v d
  | _, _, .non => .non
  | _, _, .bl b => .bl b
  | _, _, .int i => .int i
  | _, _, .str x => .str x
  | _, _, .lst h t => .lst (ex_l e h) (dpa_mono e t)
  | _, _, .tup h t => .tup (ex_t e h) (dpa_mono e t)
theorem dpa_mono {K : Fg} {H H' : Hp} (e : Ex H H') : ∀ {ds : List PyData} {vs : List V}, DpAll K H vs ds → DpAll K H' vs ds
  | _, _, .nil => .nil
  | _, _, .cons h t => .cons (dp_mono e h) (dpa_mono e t)
end
theorem dpa_len {K : Fg} {H : Hp} : ∀ {ds : List PyData} {vs : List V}, DpAll K H vs ds → vs.length = ds.length
  | _, _, .nil => rfl
  | _, _, .cons _ t => congrArg (· + 1) (dpa_len t)
theorem dpa_get {K : Fg} {H : Hp} : ∀ {ds : List PyData} {vs : List V} {i : Nat} {d : PyData}, DpAll K H vs ds → ds[i]? = some d → ∃ v, vs[i]? = some v ∧ Dp K H v d
  | _, _, _, _, .nil, e => by simp at e
  | _, _, 0, _, .cons h _, e => by
    have e := Option.some.inj e
    subst e
    exact ⟨_, rfl, h⟩
  | _, _, i + 1, _, .cons _ t, e => dpa_get (i := i) t e
theorem dpa_at {K : Fg} {H : Hp} : ∀ {ds : List PyData} {vs : List V} {i : Nat} {v : V}, DpAll K H vs ds → vs[i]? = some v → ∃ d, ds[i]? = some d ∧ Dp K H v d
  | _, _, _, _, .nil, e => by simp at e
  | _, _, 0, _, .cons h _, e => by
    have e := Option.some.inj e
    subst e
    exact ⟨_, rfl, h⟩
  | _, _, i + 1, _, .cons _ t, e => dpa_at (i := i) t e
theorem dpa_app {K : Fg} {H : Hp} : ∀ {ds es : List PyData} {vs us : List V}, DpAll K H vs ds → DpAll K H us es → DpAll K H (vs ++ us) (ds ++ es)
  | _, _, _, _, .nil, h => h
  | _, _, _, _, .cons h t, u => .cons h (dpa_app t u)

/-- the bag of draws: its cells, how often it was drawn, its number -/
structure Bag where
  cs : List Int
  i : Int
  j : Int
noncomputable def Bag.ok (s : Bag) : Prop := s.cs.length ≤ 63 ∧ 0 ≤ s.j ∧ s.j < 2147483647
noncomputable def BagAt (H : Hp) (B : Option (Addr × Addr)) (s : Bag) : Prop := match B with
  | some (b, c) => H b = some (.lst [.ref c, .int s.i, .int s.j]) ∧ H c = some (.lst (s.cs.map V.int)) ∧ s.ok
  | none => True
noncomputable def InB (B : Option (Addr × Addr)) (a : Addr) : Prop := ∃ b c, B = some (b, c) ∧ (a = b ∨ a = c)
inductive En where
  | un
  | d (x : PyData)
  | own (xs : List PyData)
  | bag
noncomputable abbrev Gam := List En
noncomputable def Zs (W : Addr → Prop) (B : Option (Addr × Addr)) (ad : Nat → Addr) (G : Gam) : Addr → Prop := fun a => W a ∨ (∃ i xs, G[i]? = some (.own xs) ∧ a = ad i) ∨ InB B a
noncomputable def Slot (K : Fg) (B : Option (Addr × Addr)) (ad : Nat → Addr) (H : Hp) (Z : Addr → Prop) (i : Nat) (o : Option V) : En → Prop
  | .un => True
  | .d x => ∃ v, o = some v ∧ Dp K (less H Z) v x
  | .own xs => o = some (.ref (ad i)) ∧ ∃ vs, H (ad i) = some (.lst vs) ∧ DpAll K (less H Z) vs xs
  | .bag => ∃ b c, B = some (b, c) ∧ o = some (.ref b)
/-- the state of a def's frame: slots, heap, bag, against the heap H0 at its entry -/
structure Sta (K : Fg) (W : Addr → Prop) (B : Option (Addr × Addr)) (ad : Nat → Addr) (H0 H : Hp) (σ : St) (G : Gam) (s : Bag) : Prop where
  len : σ.length = G.length
  at_ : ∀ i e, G[i]? = some e → ∃ o, σ[i]? = some o ∧ Slot K B ad H (Zs W B ad G) i o e
  inj : ∀ i j xs ys, G[i]? = some (.own xs) → G[j]? = some (.own ys) → ad i = ad j → i = j
  sep : ∀ i xs, G[i]? = some (.own xs) → H0 (ad i) = none ∧ ¬ InB B (ad i) ∧ ¬ W (ad i)
  base : ∀ a o, H0 a = some o → ¬ InB B a → H a = some o
  bag : BagAt H B s
  wd : ∀ a, W a → ∃ o, H a = some o
noncomputable def swp (ad : Nat → Addr) (i : Nat) (p : Addr) : Nat → Addr := fun j => if j = i then p else ad j
theorem swp_same {ad : Nat → Addr} {i : Nat} {p : Addr} : swp ad i p i = p := if_pos rfl
theorem swp_ne {ad : Nat → Addr} {i j : Nat} {p : Addr} (h : i ≠ j) : swp ad i p j = ad j := if_neg fun z => h z.symm
section
variable {K : Fg} {W : Addr → Prop} {B : Option (Addr × Addr)} {ad : Nat → Addr} {H0 H H2 : Hp} {σ : St} {G G' : Gam} {s s' : Bag}
theorem Slot.mono {Z Z' : Addr → Prop} {i : Nat} {o : Option V} {e : En} (h : Slot K B ad H Z i o e) (x : Ex (less H Z) (less H2 Z')) (y : ∀ xs vs, e = .own xs → H (ad i) = some (.lst vs) → H2 (ad i) = some (.lst vs)) : Slot K B ad H2 Z' i o e := by
  cases e with
  | un => trivial
  | d d => obtain ⟨v, e, h⟩ := h; exact ⟨v, e, dp_mono x h⟩
  | own xs => obtain ⟨e, vs, h1, h2⟩ := h; exact ⟨e, vs, y xs vs rfl h1, dpa_mono x h2⟩
  | bag => exact h
theorem upd_there {H : Hp} {p a : Addr} {o u : HO} (h : H a = some o) : ∃ o', upd H p u a = some o' := by
  by_cases z : a = p
  · exact ⟨u, by rw [z]; exact upd_same⟩
  · exact ⟨o, by rw [upd_ne z]; exact h⟩
/-- everything stays -/
theorem Sta.ext (S : Sta K W B ad H0 H σ G s) (e : Ex H H2) : Sta K W B ad H0 H2 σ G s where
  len := S.len
  at_ := fun i en h => by
    obtain ⟨o, h1, h2⟩ := S.at_ i en h
    exact ⟨o, h1, h2.mono (less_mono e) fun _ _ _ q => e _ _ q⟩
  inj := S.inj
  sep := S.sep
  base := fun a o h n => e _ _ (S.base a o h n)
  bag := by
    have h := S.bag
    unfold BagAt at h ⊢
    split
    · exact ⟨e _ _ h.1, e _ _ h.2.1, h.2.2⟩
    · trivial
  wd := fun a z => by
    obtain ⟨o, h⟩ := S.wd a z
    exact ⟨o, e _ _ h⟩
/-- all but the bag stays -/
theorem Sta.drawn (S : Sta K W B ad H0 H σ G s) (e : ∀ a o, H a = some o → ¬ InB B a → H2 a = some o) (b : BagAt H2 B s') : Sta K W B ad H0 H2 σ G s' where
  len := S.len
  at_ := fun i en h => by
    obtain ⟨o, h1, h2⟩ := S.at_ i en h
    refine ⟨o, h1, h2.mono (less_but fun a o q z => e a o q fun y => z (.inr (.inr y))) fun xs vs q q2 => ?_⟩
    subst q
    exact e _ _ q2 (S.sep i xs h).2.1
  inj := S.inj
  sep := S.sep
  base := fun a o h n => e a o (S.base a o h n) n
  bag := b
  wd := fun a z => by
    by_cases hb : InB B a
    · obtain ⟨b1, c1, rfl, hb⟩ := hb
      rcases hb with rfl | rfl
      · exact ⟨_, b.1⟩
      · exact ⟨_, b.2.1⟩
    · obtain ⟨o, h⟩ := S.wd a z
      exact ⟨o, e _ _ h hb⟩
theorem Zs.set_of {i : Nat} {e : En} (he : ∀ xs, e ≠ .own xs) {a : Addr} (h : Zs W B ad (G.set i e) a) : Zs W B ad G a := qt_of (by simp (disch := with_unfolding_all
  rcases h with h | ⟨j, xs, h, r⟩ | h
  · exact .inl h
  · by_cases z : i = j
    · subst z
      by_cases l : i < G.length
      · rw [List.getElem?_set_self l] at h
        exact absurd (Option.some.inj h) (he xs)
      · rw [List.getElem?_eq_none (by rw [List.length_set]; omega)] at h; cases h
    · rw [List.getElem?_set_ne z] at h
      exact .inr (.inl ⟨j, xs, h, r⟩)
  · exact .inr (.inr h)
  ) only [↓qt_eq])
theorem get_set {α : Type} {l : List α} {i j : Nat} {x y : α} (h : (l.set i x)[j]? = some y) : (i = j ∧ i < l.length ∧ x = y) ∨ (i ≠ j ∧ l[j]? = some y) := qt_of (by simp (disch := with_unfolding_all
  by_cases z : i = j
  · subst z
    by_cases q : i < l.length
    · rw [List.getElem?_set_self q] at h
      exact .inl ⟨rfl, q, Option.some.inj h⟩
    · rw [List.getElem?_eq_none (by rw [List.length_set]; omega)] at h; cases h
  · rw [List.getElem?_set_ne z] at h
    exact .inr ⟨z, h⟩
  ) only [↓qt_eq])
/-- a slot gets a thing that is no list of one's own -/
theorem Sta.set (S : Sta K W B ad H0 H σ G s) {i : Nat} {e : En} {o : Option V} (he : ∀ xs, e ≠ .own xs) (h : Slot K B ad H (Zs W B ad G) i o e) : Sta K W B ad H0 H (σ.set i o) (G.set i e) s where
  len := by rw [List.length_set, List.length_set]; exact S.len
  at_ := fun j en g => by
    rcases get_set g with ⟨rfl, l, rfl⟩ | ⟨z, g⟩
    · refine ⟨o, List.getElem?_set_self (by rw [S.len]; exact l), h.mono (less_sub fun a q => Zs.set_of he q) fun _ _ _ q => q⟩
    · obtain ⟨o', h1, h2⟩ := S.at_ j en g
      exact ⟨o', by rw [List.getElem?_set_ne z]; exact h1, h2.mono (less_sub fun a q => Zs.set_of he q) fun _ _ _ q => q⟩
  inj := fun j k xs ys g g' q => by
    rcases get_set g with ⟨rfl, l, e⟩ | ⟨z, g⟩
    · exact absurd e (he xs)
    · rcases get_set g' with ⟨rfl, l, e⟩ | ⟨z', g'⟩
      · exact absurd e (he ys)
      · exact S.inj j k xs ys g g' q
  sep := fun j xs g => by
    rcases get_set g with ⟨rfl, l, e⟩ | ⟨z, g⟩
    · exact absurd e (he xs)
    · exact S.sep j xs g
  base := S.base
  bag := S.bag
  wd := S.wd
theorem Sta.setD (S : Sta K W B ad H0 H σ G s) {i : Nat} {v : V} {x : PyData} (h : Dp K (less H (Zs W B ad G)) v x) : Sta K W B ad H0 H (σ.set i (some v)) (G.set i (.d x)) s :=
  S.set (fun _ z => by cases z) ⟨v, rfl, h⟩
theorem Sta.fresh (S : Sta K W B ad H0 H σ G s) {p : Addr} (h : H p = none) : H0 p = none ∧ ¬ InB B p := qt_of (by simp (disch := with_unfolding_all
  have hB : ¬ InB B p := by
    rintro ⟨b, c, rfl, z⟩
    have q := S.bag
    unfold BagAt at q
    rcases z with rfl | rfl
    · rw [q.1] at h; cases h
    · rw [q.2.1] at h; cases h
  refine ⟨?_, hB⟩
  cases e : H0 p with
  | none => rfl
  | some o => rw [S.base p o e hB] at h; cases h
  ) only [↓qt_eq])
/-- a thing of another's, which is new to this def, is changed -/
theorem Sta.foreign (S : Sta K W B ad H0 H σ G s) {p : Addr} {o : HO} (hw : W p) (h0 : H0 p = none) (hB : ¬ InB B p) : Sta K W B ad H0 (upd H p o) σ G s ∧ less (upd H p o) (Zs W B ad G) = less H (Zs W B ad G) := qt_of (by simp (disch := with_unfolding_all
  have el : less (upd H p o) (Zs W B ad G) = less H (Zs W B ad G) := by
    funext a
    by_cases z : Zs W B ad G a
    · rw [less_yes z, less_yes z]
    · rw [less_no z, less_no z, upd_ne (fun e => z (.inl (by rw [e]; exact hw)))]
  refine ⟨⟨S.len, fun i e h => ?_, S.inj, S.sep, fun a u q n => ?_, ?_, fun a z => (S.wd a z).elim fun o q => upd_there q⟩, el⟩
  · obtain ⟨u, g1, g2⟩ := S.at_ i e h
    refine ⟨u, g1, g2.mono (by rw [el]; exact Ex.refl _) fun xs vs q q2 => ?_⟩
    subst q
    rw [upd_ne (fun z => (S.sep i xs h).2.2 (by rw [z]; exact hw))]; exact q2
  · rw [upd_ne (fun z => by rw [z, h0] at q; cases q)]; exact S.base a u q n
  · have hg := S.bag
    rcases B with _ | ⟨b, c⟩
    · trivial
    · have h : H b = _ ∧ _ := hg
      refine ⟨?_, ?_, h.2.2⟩
      · rw [upd_ne (fun z => hB ⟨b, c, rfl, .inl z.symm⟩)]; exact h.1
      · rw [upd_ne (fun z => hB ⟨b, c, rfl, .inr z.symm⟩)]; exact h.2.1
  ) only [↓qt_eq])
/-- a new thing is for a while another's -/
theorem Sta.lend (S : Sta K W B ad H0 H σ G s) {p : Addr} {o : HO} (hp : H p = none) : Sta K (fun a => W a ∨ a = p) B ad H0 (upd H p o) σ G s ∧ less (upd H p o) (Zs (fun a => W a ∨ a = p) B ad G) = less H (Zs W B ad G) := qt_of (by simp (disch := with_unfolding_all
  have np : ¬ Zs W B ad G p := by
    rintro (z | ⟨i, xs, g, r⟩ | z)
    · obtain ⟨o, z⟩ := S.wd _ z
      rw [hp] at z; cases z
    · obtain ⟨_, _, _, vs, h1, _⟩ := S.at_ i _ g
      rw [← r, hp] at h1; cases h1
    · obtain ⟨b, c, rfl, z⟩ := z
      rcases z with rfl | rfl
      · rw [S.bag.1] at hp; cases hp
      · rw [S.bag.2.1] at hp; cases hp
  have zz : ∀ a, Zs (fun a => W a ∨ a = p) B ad G a ↔ Zs W B ad G a ∨ a = p := fun a => by
    constructor
    · rintro ((z | z) | z | z)
      · exact .inl (.inl z)
      · exact .inr z
      · exact .inl (.inr (.inl z))
      · exact .inl (.inr (.inr z))
    · rintro ((z | z | z) | z)
      · exact .inl (.inl z)
      · exact .inr (.inl z)
      · exact .inr (.inr z)
      · exact .inl (.inr z)
  have el : less (upd H p o) (Zs (fun a => W a ∨ a = p) B ad G) = less H (Zs W B ad G) := by
    funext a
    by_cases e : a = p
    · rw [less_yes ((zz a).mpr (.inr e)), e, less_no np, hp]
    · by_cases z : Zs W B ad G a
      · rw [less_yes z, less_yes ((zz a).mpr (.inl z))]
      · rw [less_no z, less_no (fun y => ((zz a).mp y).elim z e), upd_ne e]
  have ex : Ex H (upd H p o) := Ex.new hp
  have S' := S.ext ex
  refine ⟨⟨S.len, fun i e h => ?_, S.inj, fun i xs h => ⟨(S.sep i xs h).1, (S.sep i xs h).2.1, fun z => z.elim (S.sep i xs h).2.2 fun z => np (by rw [← z]; exact .inr (.inl ⟨i, xs, h, rfl⟩))⟩, S'.base, S'.bag, fun a z => z.elim (fun z => S'.wd a z) fun z => ⟨o, by rw [z]; exact upd_same⟩⟩, el⟩
  obtain ⟨u, g1, g2⟩ := S.at_ i e h
  exact ⟨u, g1, g2.mono (by rw [el]; exact Ex.refl _) fun xs vs q q2 => ex _ _ q2⟩
  ) only [↓qt_eq])
/-- .. and is given back -/
theorem Sta.back {p : Addr} (S : Sta K (fun a => W a ∨ a = p) B ad H0 H σ G s) : Sta K W B ad H0 H σ G s ∧ Ex (less H (Zs (fun a => W a ∨ a = p) B ad G)) (less H (Zs W B ad G)) := qt_of (by simp (disch := with_unfolding_all
  have ex : Ex (less H (Zs (fun a => W a ∨ a = p) B ad G)) (less H (Zs W B ad G)) := less_sub fun a z => z.elim (fun z => .inl (.inl z)) .inr
  refine ⟨⟨S.len, fun i e h => ?_, S.inj, fun i xs h => ⟨(S.sep i xs h).1, (S.sep i xs h).2.1, fun z => (S.sep i xs h).2.2 (.inl z)⟩, S.base, S.bag, fun a z => S.wd a (.inl z)⟩, ex⟩
  obtain ⟨u, g1, g2⟩ := S.at_ i e h
  exact ⟨u, g1, g2.mono ex fun _ _ _ q => q⟩
  ) only [↓qt_eq])
end
end U

end
section
namespace U
open PySem L2 Evl
/-- all but the bag stays -/
noncomputable def Xb (B : Option (Addr × Addr)) (H H2 : Hp) : Prop := ∀ a o, H a = some o → ¬ InB B a → H2 a = some o
theorem Xb.refl {B : Option (Addr × Addr)} {H : Hp} : Xb B H H := fun _ _ h _ => h
theorem Xb.trans {B : Option (Addr × Addr)} {H H1 H2 : Hp} (a : Xb B H H1) (b : Xb B H1 H2) : Xb B H H2 := fun p o h n => b p o (a p o h n) n
theorem Xb.l {B : Option (Addr × Addr)} {H H2 : Hp} (a : Xb B H H2) {W : Addr → Prop} {ad : Nat → Addr} {G : Gam} : Ex (less H (Zs W B ad G)) (less H2 (Zs W B ad G)) := less_but fun p o h n => a p o h fun z => n (.inr (.inr z))
theorem Xb.of {B : Option (Addr × Addr)} {H H2 : Hp} (e : Ex H H2) : Xb B H H2 := fun p o h _ => e p o h
/-! ### what a reading evaluates to -/
noncomputable def EvG (K : Fg) (te : TE) (G : Gam) (s : Bag) (x : PyData) (s' : Bag) : Prop :=
  ∀ W B ad H0 H σ, Sta K W B ad H0 H σ G s → ∀ Q : VK, (∀ v H2, Sta K W B ad H0 H2 σ G s' → Xb B H H2 → Dp K (less H2 (Zs W B ad G)) v x → Q v H2) → te σ H Q
noncomputable def EvT (K : Fg) (tt : TT) (G : Gam) (s : Bag) (b : Bool) (s' : Bag) : Prop :=
  ∀ W B ad H0 H σ, Sta K W B ad H0 H σ G s → ∀ Q : Bool → Hp → Prop, (∀ H2, Sta K W B ad H0 H2 σ G s' → Xb B H H2 → Q b H2) → tt σ H Q
noncomputable def EvA (K : Fg) (ta : TA) (G : Gam) (s : Bag) (xs : List PyData) (s' : Bag) : Prop :=
  ∀ W B ad H0 H σ, Sta K W B ad H0 H σ G s → ∀ Q : List V → Hp → Prop, (∀ vs H2, Sta K W B ad H0 H2 σ G s' → Xb B H H2 → DpAll K (less H2 (Zs W B ad G)) vs xs → Q vs H2) → ta σ H Q
/-- a new list as a value of its own (not yet data) is not spoken of: lists are data once made -/
inductive Out where
  | nx (G : Gam) (s : Bag)
  | rt (x : PyData) (s : Bag)
  | bk (G : Gam) (s : Bag)
  | ct (G : Gam) (s : Bag)
noncomputable def Post (K : Fg) (W : Addr → Prop) (B : Option (Addr × Addr)) (H0 M : Hp) (D : Ends) : Out → Prop
  | .nx G s => ∀ ad H σ, Sta K W B ad H0 H σ G s → Ex M (less H (Zs W B ad G)) → D.nx σ H
  | .rt x s => ∀ v H, (∀ a o, H0 a = some o → ¬ InB B a → H a = some o) → BagAt H B s → Dp K (less H fun a => W a ∨ InB B a) v x → D.rt v H
  | .bk G s => ∀ ad H σ, Sta K W B ad H0 H σ G s → Ex M (less H (Zs W B ad G)) → D.bk σ H
  | .ct G s => ∀ ad H σ, Sta K W B ad H0 H σ G s → Ex M (less H (Zs W B ad G)) → D.ct σ H
noncomputable def SG (K : Fg) (ts : TS) (G : Gam) (s : Bag) (o : Out) : Prop :=
  ∀ W B ad H0 H σ (D : Ends), Sta K W B ad H0 H σ G s → Post K W B H0 (less H (Zs W B ad G)) D o → ts D σ H

section
variable {K : Fg} {G G1 G2 : Gam} {s s1 s2 s3 s' : Bag} {ta tb tc te : TE} {t u : TT} {x y z : PyData}
/-! ### values -/
theorem ev_is {x'} (h : EvG K te G s x s') (e : x = x') : EvG K te G s x' s' := e ▸ h
theorem et_is {b b' : Bool} (h : EvT K t G s b s') (e : b = b') : EvT K t G s b' s' := e ▸ h
theorem ev_var {i : Nat} (h : G[i]? = some (.d x)) : EvG K (tVar i) G s x s := fun W B ad H0 H σ S Q q => by
  obtain ⟨o, h1, v, rfl, h2⟩ := S.at_ i _ h
  exact ⟨v, h1, q v H S (Xb.refl) h2⟩
theorem ev_int {i : Int} : EvG K (tC (.int i)) G s (.int i) s := fun W B ad H0 H σ S Q q => q _ H S (Xb.refl) (.int i)
/-- a module's constant that is data of the written part -/
theorem ev_glob {v : V} (h : ∀ H, Dp K H v x) : EvG K (tC v) G s x s := fun W B ad H0 H σ S Q q => q _ H S (Xb.refl) (h _)
/-! ### argument lists and displays -/
theorem ea_nil : EvA K tNil G s [] s := fun W B ad H0 H σ S Q q => q _ H S (Xb.refl) .nil
theorem ea_cons {tr : TA} {xs : List PyData} (h : EvG K ta G s x s1) (hr : EvA K tr G s1 xs s2) : EvA K (tCons ta tr) G s (x :: xs) s2 := fun W B ad H0 H σ S Q q =>
  h W B ad H0 H σ S _ fun v H1 S1 e1 d1 => hr W B ad H0 H1 σ S1 _ fun vs H2 S2 e2 d2 => q _ H2 S2 (e1.trans e2) (.cons (dp_mono e2.l d1) d2)
theorem new_ex {W : Addr → Prop} {B : Option (Addr × Addr)} {ad : Nat → Addr} {H0 H : Hp} {σ : St} (S : Sta K W B ad H0 H σ G s) {p : Addr} {o : HO} (h : H p = none) :
    Sta K W B ad H0 (upd H p o) σ G s ∧ Xb B H (upd H p o) ∧ less (upd H p o) (Zs W B ad G) p = some o := qt_of (by simp (disch := with_unfolding_all
  have e : Ex H (upd H p o) := Ex.new h
  refine ⟨S.ext e, .of e, less_of ?_ upd_same⟩
  rintro (z | ⟨i, xs, g, r⟩ | z)
  · obtain ⟨o, z⟩ := S.wd _ z
    rw [h] at z; cases z
  · obtain ⟨_, _, _, vs, h1, _⟩ := S.at_ i _ g
    rw [← r, h] at h1; cases h1
  · exact (S.fresh h).2 z
  ) only [↓qt_eq])
theorem sz_line {n : Nat} (h : n ≤ 16000000) : n ≤ sizeLine := Nat.le_trans h (by decide)
theorem ev_tup {ta : TA} {xs : List PyData} (h : EvA K ta G s xs s') (hl : xs.length ≤ 16000000) : EvG K (tTup ta) G s (.tuple xs) s' := fun W B ad H0 H σ S Q q =>
  h W B ad H0 H σ S _ fun vs H1 S1 e1 d1 => ⟨by rw [dpa_len d1]; exact sz_line hl, fun p hp => by
    obtain ⟨S2, e2, g⟩ := new_ex (o := .tup vs) S1 hp
    exact q _ _ S2 (e1.trans e2) (.tup (st_of g) (dpa_mono e2.l d1))⟩
theorem ev_lst {ta : TA} {xs : List PyData} (h : EvA K ta G s xs s') (hl : xs.length ≤ 16000000) : EvG K (tLst ta) G s (.list xs) s' := fun W B ad H0 H σ S Q q =>
  h W B ad H0 H σ S _ fun vs H1 S1 e1 d1 => ⟨by rw [dpa_len d1]; exact sz_line hl, fun p hp => by
    obtain ⟨S2, e2, g⟩ := new_ex (o := .lst vs) S1 hp
    exact q _ _ S2 (e1.trans e2) (.lst (sq_of g) (dpa_mono e2.l d1))⟩
/-! ### operators -/
theorem ev_I0 {g : Int → Int → V} {f : Int → Int → PyData} {i j : Int} (ha : EvG K ta G s (.int i) s1) (hb : EvG K tb G s1 (.int j) s2) (hg : ∀ H, Dp K H (g i j) (f i j)) : EvG K (tOp (rI0 g) ta tb) G s (f i j) s2 := fun W B ad H0 H σ S Q q =>
  ha W B ad H0 H σ S _ fun v H1 S1 e1 d1 => hb W B ad H0 H1 σ S1 _ fun w H2 S2 e2 d2 => by
    cases d1; cases d2
    exact ⟨i, j, rfl, rfl, q _ H2 S2 (e1.trans e2) (hg _)⟩
theorem ev_I {C : Int → Int → Prop} {g : Int → Int → V} {f : Int → Int → PyData} {i j : Int} (ha : EvG K ta G s (.int i) s1) (hb : EvG K tb G s1 (.int j) s2) (hc : C i j) (hg : ∀ H, Dp K H (g i j) (f i j)) : EvG K (tOp (rI C g) ta tb) G s (f i j) s2 := fun W B ad H0 H σ S Q q =>
  ha W B ad H0 H σ S _ fun v H1 S1 e1 d1 => hb W B ad H0 H1 σ S1 _ fun w H2 S2 e2 d2 => by
    cases d1; cases d2
    exact ⟨i, j, rfl, rfl, hc, q _ H2 S2 (e1.trans e2) (hg _)⟩
theorem ev_add {i j : Int} (ha : EvG K ta G s (.int i) s1) (hb : EvG K tb G s1 (.int j) s2) : EvG K (tOp (rI0 fun i j => .int (i + j)) ta tb) G s (.int (i + j)) s2 := ev_I0 (f := fun i j => .int (i + j)) ha hb fun _ => .int _
theorem ev_sub {i j : Int} (ha : EvG K ta G s (.int i) s1) (hb : EvG K tb G s1 (.int j) s2) : EvG K (tOp (rI0 fun i j => .int (i - j)) ta tb) G s (.int (i - j)) s2 := ev_I0 (f := fun i j => .int (i - j)) ha hb fun _ => .int _
theorem ev_mul {i j : Int} (ha : EvG K ta G s (.int i) s1) (hb : EvG K tb G s1 (.int j) s2) (hc : CMulW i j) : EvG K (tOp (rI CMulW fun i j => .int (i * j)) ta tb) G s (.int (i * j)) s2 := ev_I (f := fun i j => .int (i * j)) ha hb hc fun _ => .int _
/-- // by any divisor but 0, of less than 9000 bits -/
noncomputable def CDvX (_ j : Int) : Prop := j ≠ 0 ∧ j.natAbs.log2 < 9000
theorem op_fdivX {X : Cx} : OpR X (binaryOp .FloorDiv) (rI CDvX fun i j => .int (i.fdiv j)) := opI fun i j _ _ _ _ _ hc q => PyProof.Rows.floordiv_int hc.1 q (.inl (PyProof.noPylong_of_log2 hc.2))
theorem ev_fdiv {i j : Int} (ha : EvG K ta G s (.int i) s1) (hb : EvG K tb G s1 (.int j) s2) (hc : CDvX i j) : EvG K (tOp (rI CDvX fun i j => .int (i.fdiv j)) ta tb) G s (.int (i.fdiv j)) s2 := ev_I (f := fun i j => .int (i.fdiv j)) ha hb hc fun _ => .int _
noncomputable def CNz (_ j : Int) : Prop := j ≠ 0
theorem op_modX {X : Cx} : OpR X (binaryOp .Mod) (rI CNz fun i j => .int (i.fmod j)) := op_modN
theorem ev_mod {i j : Int} (ha : EvG K ta G s (.int i) s1) (hb : EvG K tb G s1 (.int j) s2) (hc : CNz i j) : EvG K (tOp (rI CNz fun i j => .int (i.fmod j)) ta tb) G s (.int (i.fmod j)) s2 := ev_I (f := fun i j => .int (i.fmod j)) ha hb hc fun _ => .int _
theorem ev_lt {i j : Int} (ha : EvG K ta G s (.int i) s1) (hb : EvG K tb G s1 (.int j) s2) : EvG K (tOp (rI0 fun i j => .bl (decide (i < j))) ta tb) G s (.bool (decide (i < j))) s2 := ev_I0 (f := fun i j => .bool (decide (i < j))) ha hb fun _ => .bl _
theorem ev_gt {i j : Int} (ha : EvG K ta G s (.int i) s1) (hb : EvG K tb G s1 (.int j) s2) : EvG K (tOp (rI0 fun i j => .bl (decide (j < i))) ta tb) G s (.bool (decide (j < i))) s2 := ev_I0 (f := fun i j => .bool (decide (j < i))) ha hb fun _ => .bl _
theorem ev_eqI {i j : Int} (ha : EvG K ta G s (.int i) s1) (hb : EvG K tb G s1 (.int j) s2) : EvG K (tOp rEq ta tb) G s (.bool (decide (i = j))) s2 := fun W B ad H0 H σ S Q q =>
  ha W B ad H0 H σ S _ fun v H1 S1 e1 d1 => hb W B ad H0 H1 σ S1 _ fun w H2 S2 e2 d2 => by
    cases d1; cases d2
    have e : decide (V.int i = V.int j) = decide (i = j) := by simp
    exact ⟨rfl, by rw [e]; exact q _ H2 S2 (e1.trans e2) (.bl _)⟩
theorem ev_neI {i j : Int} (ha : EvG K ta G s (.int i) s1) (hb : EvG K tb G s1 (.int j) s2) : EvG K (tOp rNe ta tb) G s (.bool (!decide (i = j))) s2 := fun W B ad H0 H σ S Q q =>
  ha W B ad H0 H σ S _ fun v H1 S1 e1 d1 => hb W B ad H0 H1 σ S1 _ fun w H2 S2 e2 d2 => by
    cases d1; cases d2
    have e : decide (V.int i = V.int j) = decide (i = j) := by simp
    exact ⟨rfl, by rw [e]; exact q _ H2 S2 (e1.trans e2) (.bl _)⟩
theorem ev_eqS {i j : Str} (ha : EvG K ta G s (.str i) s1) (hb : EvG K tb G s1 (.str j) s2) : EvG K (tOp rEq ta tb) G s (.bool (decide (i = j))) s2 := fun W B ad H0 H σ S Q q =>
  ha W B ad H0 H σ S _ fun v H1 S1 e1 d1 => hb W B ad H0 H1 σ S1 _ fun w H2 S2 e2 d2 => by
    cases d1; cases d2
    have e : decide (V.str i = V.str j) = decide (i = j) := by simp
    exact ⟨rfl, by rw [e]; exact q _ H2 S2 (e1.trans e2) (.bl _)⟩
theorem ev_eqB {i j : Bool} (ha : EvG K ta G s (.bool i) s1) (hb : EvG K tb G s1 (.bool j) s2) : EvG K (tOp rEq ta tb) G s (.bool (decide (i = j))) s2 := fun W B ad H0 H σ S Q q =>
  ha W B ad H0 H σ S _ fun v H1 S1 e1 d1 => hb W B ad H0 H1 σ S1 _ fun w H2 S2 e2 d2 => by
    cases d1; cases d2
    have e : decide (V.bl i = V.bl j) = decide (i = j) := by simp
    exact ⟨rfl, by rw [e]; exact q _ H2 S2 (e1.trans e2) (.bl _)⟩
theorem ev_neB {i j : Bool} (ha : EvG K ta G s (.bool i) s1) (hb : EvG K tb G s1 (.bool j) s2) : EvG K (tOp rNe ta tb) G s (.bool (!decide (i = j))) s2 := fun W B ad H0 H σ S Q q =>
  ha W B ad H0 H σ S _ fun v H1 S1 e1 d1 => hb W B ad H0 H1 σ S1 _ fun w H2 S2 e2 d2 => by
    cases d1; cases d2
    have e : decide (V.bl i = V.bl j) = decide (i = j) := by simp
    exact ⟨rfl, by rw [e]; exact q _ H2 S2 (e1.trans e2) (.bl _)⟩
theorem ev_neg {i : Int} (ha : EvG K ta G s (.int i) s') : EvG K (tUn (rU fun i => .int (-i)) ta) G s (.int (-i)) s' := fun W B ad H0 H σ S Q q =>
  ha W B ad H0 H σ S _ fun v H1 S1 e1 d1 => by
    cases d1
    exact ⟨i, rfl, q _ H1 S1 e1 (.int _)⟩
noncomputable def isNoneD : PyData → Bool
  | .none => true
  | _ => false
theorem dp_none {K : Fg} {H : Hp} {v : V} {x : PyData} (h : Dp K H v x) : decide (v = V.non) = isNoneD x := by
  cases h <;> simp [isNoneD]
theorem ev_isN (ha : EvG K ta G s x s') : EvG K (tOp (fun x y H Q => y = .non ∧ Q (.bl (decide (x = .non))) H) ta (tC .non)) G s (.bool (isNoneD x)) s' := fun W B ad H0 H σ S Q q =>
  ha W B ad H0 H σ S _ fun v H1 S1 e1 d1 => ⟨rfl, by rw [dp_none d1]; exact q _ H1 S1 e1 (.bl _)⟩
/-! ### items -/
theorem dpa_atI {K : Fg} {H : Hp} {ds : List PyData} {vs : List V} {i : Int} {d : PyData} (h : DpAll K H vs ds) (e : atI ds i = some d) : ∃ v, atI vs i = some v ∧ Dp K H v d := by
  unfold atI at e ⊢
  rw [dpa_len h]
  cases q : ixN ds.length i with
  | none => rw [q] at e; cases e
  | some j =>
    rw [q] at e
    exact dpa_get h e
theorem ev_ixT {xs : List PyData} {i : Int} (ha : EvG K ta G s (.tuple xs) s1) (hb : EvG K tb G s1 (.int i) s2) (he : atI xs i = some x) : EvG K (tOp (rIx K) ta tb) G s x s2 := fun W B ad H0 H σ S Q q =>
  ha W B ad H0 H σ S _ fun v H1 S1 e1 d1 => hb W B ad H0 H1 σ S1 _ fun w H2 S2 e2 d2 => by
    cases d2
    cases dp_mono e2.l d1 with
    | tup h t =>
      obtain ⟨v, g1, g2⟩ := dpa_atI t he
      exact .inr (.inl ⟨_, _, i, v, rfl, rfl, ex_t less_ex h, g1, q _ H2 S2 (e1.trans e2) g2⟩)
theorem ev_ixL {xs : List PyData} {i : Int} (ha : EvG K ta G s (.list xs) s1) (hb : EvG K tb G s1 (.int i) s2) (he : atI xs i = some x) : EvG K (tOp (rIx K) ta tb) G s x s2 := fun W B ad H0 H σ S Q q =>
  ha W B ad H0 H σ S _ fun v H1 S1 e1 d1 => hb W B ad H0 H1 σ S1 _ fun w H2 S2 e2 d2 => by
    cases d2
    cases dp_mono e2.l d1 with
    | lst h t =>
      obtain ⟨v, g1, g2⟩ := dpa_atI t he
      exact .inl ⟨_, _, i, v, rfl, rfl, ex_l less_ex h, g1, q _ H2 S2 (e1.trans e2) g2⟩
/-! ### tests -/
theorem et_test {b : Bool} (h : EvG K te G s (.bool b) s') : EvT K (tTest te) G s b s' := fun W B ad H0 H σ S Q q => h W B ad H0 H σ S _ fun v H1 S1 e1 d1 => by
  cases d1
  exact ⟨b, rfl, q H1 S1 e1⟩
theorem et_B {b : Bool} (h : EvG K te G s (.bool b) s') : EvT K (tB te) G s b s' := fun W B ad H0 H σ S Q q => h W B ad H0 H σ S _ fun v H1 S1 e1 d1 => by
  cases d1
  exact ⟨b, rfl, q H1 S1 e1⟩
theorem et_not {b : Bool} (h : EvT K t G s b s') : EvT K (tNot t) G s (!b) s' := fun W B ad H0 H σ S Q q => h W B ad H0 H σ S _ q
theorem et_orF {b : Bool} (h : EvT K t G s false s1) (h2 : EvT K u G s1 b s2) : EvT K (tOr t u) G s b s2 := fun W B ad H0 H σ S Q q => h W B ad H0 H σ S _ fun H1 S1 e1 => iteF (h2 W B ad H0 H1 σ S1 _ fun H2 S2 e2 => q H2 S2 (e1.trans e2))
theorem ev_andT (h : EvG K ta G s (.bool true) s1) (h2 : EvG K tb G s1 x s2) : EvG K (tAndV ta tb) G s x s2 := fun W B ad H0 H σ S Q q => h W B ad H0 H σ S _ fun v H1 S1 e1 d1 => by
  cases d1
  exact ⟨true, rfl, iteT (h2 W B ad H0 H1 σ S1 _ fun v H2 S2 e2 d2 => q v H2 S2 (e1.trans e2) d2)⟩
theorem ev_not {a : Bool} (h : EvG K ta G s (.bool a) s') : EvG K (tNotV ta) G s (.bool (!a)) s' := fun W B ad H0 H σ S Q q => h W B ad H0 H σ S _ fun v H1 S1 e1 d1 => by
  cases d1
  exact ⟨a, rfl, q _ H1 S1 e1 (.bl _)⟩
theorem ev_ifT (h : EvT K t G s true s1) (h1 : EvG K ta G s1 x s2) : EvG K (tIf t ta tb) G s x s2 := fun W B ad H0 H σ S Q q => h W B ad H0 H σ S _ fun H1 S1 e1 => iteT (h1 W B ad H0 H1 σ S1 _ fun v H2 S2 e2 d2 => q v H2 S2 (e1.trans e2) d2)
theorem ev_ifF (h : EvT K t G s false s1) (h1 : EvG K tb G s1 x s2) : EvG K (tIf t ta tb) G s x s2 := fun W B ad H0 H σ S Q q => h W B ad H0 H σ S _ fun H1 S1 e1 => iteF (h1 W B ad H0 H1 σ S1 _ fun v H2 S2 e2 d2 => q v H2 S2 (e1.trans e2) d2)
/-! ### what a def promises: of data; of the bag and data -/
noncomputable def spP (K : Fg) (P : List PyData → PyData → Prop) : Sp := fun vs H Q _ => ∃ (W : Addr → Prop) (ds : List PyData) (r : PyData), (∀ a, W a → ∃ o, H a = some o) ∧ DpAll K (less H W) vs ds ∧ P ds r ∧ ∀ v H', Ex H H' → Dp K (less H' W) v r → Q v H'
noncomputable def spB (K : Fg) (P : Bag → List PyData → PyData → Bag → Prop) : Sp := fun vs H Q _ => ∃ (W : Addr → Prop) (b c : Addr) (us : List V) (s : Bag) (ds : List PyData) (r : PyData) (s' : Bag), (∀ a, W a → ∃ o, H a = some o) ∧ vs = .ref b :: us ∧ BagAt H (some (b, c)) s ∧
  DpAll K (less H fun a => W a ∨ InB (some (b, c)) a) us ds ∧ P s ds r s' ∧ ∀ v H', (∀ a o, H a = some o → ¬ InB (some (b, c)) a → H' a = some o) → BagAt H' (some (b, c)) s' → Dp K (less H' fun a => W a ∨ InB (some (b, c)) a) v r → Q v H'
theorem bag_there {H : Hp} {B : Option (Addr × Addr)} {a : Addr} (h : BagAt H B s) (z : InB B a) : ∃ o, H a = some o := by
  obtain ⟨b, c, rfl, z⟩ := z
  rcases z with rfl | rfl
  · exact ⟨_, h.1⟩
  · exact ⟨_, h.2.1⟩
theorem Sta.there {W : Addr → Prop} {B : Option (Addr × Addr)} {ad : Nat → Addr} {H0 H : Hp} {σ : St} (S : Sta K W B ad H0 H σ G s) (a : Addr) (z : Zs W B ad G a) : ∃ o, H a = some o := by
  by_cases hb : InB B a
  · exact bag_there S.bag hb
  rcases z with z | ⟨i, xs, g, rfl⟩ | z
  · exact S.wd _ z
  · obtain ⟨_, _, _, vs, h1, _⟩ := S.at_ i _ g
    exact ⟨_, h1⟩
  · exact absurd z hb
theorem ev_call {P : List PyData → PyData → Prop} {ta : TA} {ds : List PyData} {dvs : List V} {des : List PyData} {E : XK} (h : EvA K ta G s ds s') (hd : ∀ H, DpAll K H dvs des) (hp : P (ds ++ des) x) : EvG K (tCall (spP K P) dvs E ta) G s x s' := fun W B ad H0 H σ S Q q =>
  h W B ad H0 H σ S _ fun vs H1 S1 e1 d1 => ⟨Zs W B ad G, ds ++ des, x, S1.there, dpa_app d1 (hd _), hp, fun v H' e d => q v H' (S1.ext e) (e1.trans (.of e)) d⟩
theorem ev_callB {P : Bag → List PyData → PyData → Bag → Prop} {tr : TA} {i : Nat} {ds : List PyData} {E : XK} (hi : G[i]? = some .bag) (h : EvA K tr G s ds s1) (hp : P s1 ds x s') : EvG K (tCall (spB K P) [] E (tCons (tVar i) tr)) G s x s' := fun W B ad H0 H σ S Q q => by
  obtain ⟨o, g1, b, c, rfl, rfl⟩ := S.at_ i _ hi
  refine ⟨_, g1, h W _ ad H0 H σ S _ fun vs H1 S1 e1 d1 => ?_⟩
  have zz : ∀ a, (((fun a => W a ∨ ∃ i xs, G[i]? = some (En.own xs) ∧ a = ad i) a) ∨ InB (some (b, c)) a) ↔ Zs W (some (b, c)) ad G a := fun a => or_assoc
  have zl : ∀ H : Hp, (less H fun a => (W a ∨ ∃ i xs, G[i]? = some (En.own xs) ∧ a = ad i) ∨ InB (some (b, c)) a) = less H (Zs W (some (b, c)) ad G) := fun H => congrArg (less H) (funext fun a => propext (zz a))
  refine ⟨fun a => W a ∨ ∃ i xs, G[i]? = some (En.own xs) ∧ a = ad i, b, c, vs, s1, ds, x, s', fun a z => S1.there a ((zz a).mp (.inl z)), ?_, S1.bag, ?_, hp, fun v H' e hb d => ?_⟩
  · rw [List.append_nil]
  · rw [zl]; exact d1
  · rw [zl] at d
    exact q v H' (S1.drawn e hb) (e1.trans e) d
end
end U

end
section
namespace U
open PySem L2 Evl
/-! ### built-ins, by name -/
noncomputable def rAbs : List V → Hp → VK → Prop := fun xs H Q => ∃ i, xs = [.int i] ∧ Q (.int (if i < 0 then -i else i)) H
noncomputable def rMx : List V → Hp → VK → Prop := fun xs H Q => ∃ i j, xs = [.int i, .int j] ∧ Q (.int (if j > i then j else i)) H
noncomputable def rLenQ (K : Fg) : List V → Hp → VK → Prop := fun xs H Q => ∃ p ys, xs = [.ref p] ∧ (SqL K H p ys ∨ SqT K H p ys) ∧ Q (.int ys.length) H
noncomputable def rListQ (K : Fg) : List V → Hp → VK → Prop := fun xs H Q => ∃ p ys, xs = [.ref p] ∧ (SqL K H p ys ∨ SqT K H p ys) ∧ ∀ l, H l = none → Q (.ref l) (upd H l (.lst ys))
noncomputable def rTupQ (K : Fg) : List V → Hp → VK → Prop := fun xs H Q => ∃ p ys, xs = [.ref p] ∧ ((SqL K H p ys ∧ ∀ l, H l = none → Q (.ref l) (upd H l (.tup ys))) ∨ (SqT K H p ys ∧ Q (.ref p) H))
noncomputable def rIsNo : R2 := fun x y H Q => y = .non ∧ Q (.bl (decide (x = .non))) H
noncomputable def rNoNo : R2 := fun x y H Q => y = .non ∧ Q (.bl (!decide (x = .non))) H
section
variable {X : Cx}
theorem c_abs : CallR X (.builtin "abs") rAbs := call_abs
theorem c_max2 (hc : X.calm = true) : CallR X (.builtin "max") rMx := call_max2 hc
theorem c_len : CallR X (.builtin "len") (rLenQ X.K) := call_len_seq
theorem c_list : CallR X (.type "list") (rListQ X.K) := call_list_of
theorem c_tuple : CallR X (.type "tuple") (rTupQ X.K) := call_tuple_of
theorem o_isN : OpR X (compareOp .Is) rIsNo := op_isN
theorem o_notN : OpR X (compareOp .IsNot) rNoNo := op_notN
end
section
variable {K : Fg} {G G1 G2 : Gam} {s s1 s2 s3 s' : Bag} {ta tb tc te : TE} {t u : TT} {x y z : PyData}
theorem ev_isNo (ha : EvG K ta G s x s') : EvG K (tOp rIsNo ta (tC .non)) G s (.bool (isNoneD x)) s' := ev_isN ha
/-- a call of a built-in upon data -/
theorem ev_cb {r : List V → Hp → VK → Prop} {ta : TA} {xs : List PyData} (h : EvA K ta G s xs s')
    (hr : ∀ W B ad H0 H σ vs, Sta K W B ad H0 H σ G s' → DpAll K (less H (Zs W B ad G)) vs xs → ∀ Q : VK, (∀ v H2, Sta K W B ad H0 H2 σ G s' → Xb B H H2 → Dp K (less H2 (Zs W B ad G)) v x → Q v H2) → r vs H Q) : EvG K (tCB r ta) G s x s' := fun W B ad H0 H σ S Q q =>
  h W B ad H0 H σ S _ fun vs H1 S1 e1 d1 => hr W B ad H0 H1 σ vs S1 d1 Q fun v H2 S2 e2 d2 => q v H2 S2 (e1.trans e2) d2
theorem dp1 {H : Hp} {vs : List V} {x : PyData} (h : DpAll K H vs [x]) : ∃ v, vs = [v] ∧ Dp K H v x := by
  cases h with
  | cons a b => cases b; exact ⟨_, rfl, a⟩
theorem dp2 {H : Hp} {vs : List V} {x y : PyData} (h : DpAll K H vs [x, y]) : ∃ v w, vs = [v, w] ∧ Dp K H v x ∧ Dp K H w y := by
  cases h with
  | cons a b => obtain ⟨w, rfl, c⟩ := dp1 b; exact ⟨_, w, rfl, a, c⟩
noncomputable def absI (i : Int) : Int := if i < 0 then -i else i
noncomputable def maxI (i j : Int) : Int := if j > i then j else i
theorem ev_abs {i : Int} (h : EvG K ta G s (.int i) s') : EvG K (tCB rAbs (tCons ta tNil)) G s (.int (absI i)) s' := ev_cb (ea_cons h ea_nil) fun W B ad H0 H σ vs S d Q q => by
  obtain ⟨v, rfl, d1⟩ := dp1 d
  cases d1
  exact ⟨i, rfl, q _ H S (Xb.refl) (.int _)⟩
theorem ev_max {i j : Int} (h : EvG K ta G s (.int i) s1) (h2 : EvG K tb G s1 (.int j) s') : EvG K (tCB rMx (tCons ta (tCons tb tNil))) G s (.int (maxI i j)) s' := ev_cb (ea_cons h (ea_cons h2 ea_nil)) fun W B ad H0 H σ vs S d Q q => by
  obtain ⟨v, w, rfl, d, d2⟩ := dp2 d
  cases d; cases d2
  exact ⟨i, j, rfl, q _ H S (Xb.refl) (.int _)⟩
theorem ev_lenT {xs : List PyData} (h : EvG K ta G s (.tuple xs) s') : EvG K (tCB (rLenQ K) (tCons ta tNil)) G s (.int xs.length) s' := ev_cb (ea_cons h ea_nil) fun W B ad H0 H σ vs S d Q q => by
  obtain ⟨v, rfl, d1⟩ := dp1 d
  cases d1 with
  | tup g t => exact ⟨_, _, rfl, .inr (ex_t less_ex g), by rw [dpa_len t]; exact q _ H S (Xb.refl) (.int _)⟩
theorem ev_lenL {xs : List PyData} (h : EvG K ta G s (.list xs) s') : EvG K (tCB (rLenQ K) (tCons ta tNil)) G s (.int xs.length) s' := ev_cb (ea_cons h ea_nil) fun W B ad H0 H σ vs S d Q q => by
  obtain ⟨v, rfl, d1⟩ := dp1 d
  cases d1 with
  | lst g t => exact ⟨_, _, rfl, .inl (ex_l less_ex g), by rw [dpa_len t]; exact q _ H S (Xb.refl) (.int _)⟩
theorem new_tup {W : Addr → Prop} {B : Option (Addr × Addr)} {ad : Nat → Addr} {H0 H : Hp} {σ : St} {vs : List V} {xs : List PyData} (S : Sta K W B ad H0 H σ G s) (d : DpAll K (less H (Zs W B ad G)) vs xs) {l : Addr} (hl : H l = none) {Q : VK}
    (q : ∀ v H2, Sta K W B ad H0 H2 σ G s → Xb B H H2 → Dp K (less H2 (Zs W B ad G)) v (.tuple xs) → Q v H2) : Q (.ref l) (upd H l (.tup vs)) := by
  obtain ⟨S2, e2, g⟩ := new_ex (o := .tup vs) S hl
  exact q _ _ S2 e2 (.tup (st_of g) (dpa_mono e2.l d))
theorem ev_tupL {xs : List PyData} (h : EvG K ta G s (.list xs) s') : EvG K (tCB (rTupQ K) (tCons ta tNil)) G s (.tuple xs) s' := ev_cb (ea_cons h ea_nil) fun W B ad H0 H σ vs S d Q q => by
  obtain ⟨v, rfl, d1⟩ := dp1 d
  cases d1 with
  | lst g t => exact ⟨_, _, rfl, .inl ⟨ex_l less_ex g, fun l hl => new_tup S t hl q⟩⟩
theorem dpa_bools {H : Hp} : ∀ {bs : List Bool} {vs : List V}, DpAll K H vs (bs.map PyData.bool) → vs = bs.map V.bl
  | [], _, .nil => rfl
  | b :: r, _, .cons h t => by cases h; rw [dpa_bools t]; rfl
theorem dpa_ints {H : Hp} : ∀ {bs : List Int} {vs : List V}, DpAll K H vs (bs.map PyData.int) → vs = bs.map V.int
  | [], _, .nil => rfl
  | b :: r, _, .cons h t => by cases h; rw [dpa_ints t]; rfl
theorem dpa_of_ints {H : Hp} : ∀ (bs : List Int), DpAll K H (bs.map V.int) (bs.map PyData.int)
  | [] => .nil
  | b :: r => .cons (.int b) (dpa_of_ints r)
theorem ev_all {bs : List Bool} (h : EvG K ta G s (.list (bs.map PyData.bool)) s') : EvG K (tCB (rAll K) (tCons ta tNil)) G s (.bool (bs.all id)) s' := ev_cb (ea_cons h ea_nil) fun W B ad H0 H σ vs S d Q q => by
  obtain ⟨v, rfl, d1⟩ := dp1 d
  cases d1 with
  | lst g t =>
    have e := dpa_bools t
    subst e
    exact ⟨_, bs, rfl, ex_l less_ex g, q _ H S (Xb.refl) (.bl _)⟩
/-! ### isinstance -/
noncomputable def tyN : PyData → String
  | .none => "NoneType"
  | .bool _ => "bool"
  | .int _ => "int"
  | .str _ => "str"
  | .list _ => "list"
  | .tuple _ => "tuple"
  | .dict _ => "dict"
theorem dp_ty {H : Hp} {Z : Addr → Prop} {v : V} {x : PyData} (h : Dp K (less H Z) v x) : TyX K H v (.type (tyN x)) := qt_of (by simp (disch := with_unfolding_all
  cases h with
  | non => exact .base .non
  | bl b => exact .base (.bl b)
  | int i => exact .base (.int i)
  | str i => exact .base (.str i)
  | lst g _ =>
    rcases ex_l less_ex g with (g | ⟨o, g⟩) | ⟨o, its, n, k, c, _⟩
    · exact .base (.lst g)
    · exact .base (.frz g)
    · exact .kList k c
  | tup g _ =>
    rcases ex_t less_ex g with (g | ⟨o, g⟩) | ⟨o, its, n, k, c, _⟩
    · exact .base (.tup g)
    · exact .fTuple g
    · exact .kTuple k c
  ) only [↓qt_eq])
/-- isinstance(x, T), T a built-in class -/
theorem ev_isi {n : String} {b : Bool} (h : EvG K ta G s x s') (hb : kitB (tyN x) n = some b) : EvG K (tCB (rIsi K) (tCons ta (tCons (tC (.ty n)) tNil))) G s (.bool b) s' := fun W B ad H0 H σ S Q q =>
  h W B ad H0 H σ S _ fun v H1 S1 e1 d1 => ⟨v, .ty n, _, _, b, rfl, .ty n, dp_ty d1, kit_ty hb, q _ H1 S1 e1 (.bl _)⟩
/-- isinstance(x, (S, T)) -/
theorem ev_isi2 {n m : String} {b c : Bool} (h : EvG K ta G s x s') (hb : kitB (tyN x) n = some b) (hc : kitB (tyN x) m = some c) : EvG K (tCB (rIsiT K) (tCons ta (tCons (tTup (tCons (tC (.ty n)) (tCons (tC (.ty m)) tNil))) tNil))) G s (.bool (b || c)) s' := fun W B ad H0 H σ S Q q =>
  h W B ad H0 H σ S _ fun v H1 S1 e1 d1 => ⟨by show 2 ≤ sizeLine; decide, fun p hp => by
    obtain ⟨S2, e2, g⟩ := new_ex (o := .tup [V.ty n, V.ty m]) S1 hp
    refine ⟨v, p, [.ty n, .ty m], _, [.type n, .type m], b || c, rfl, (less_some g).2, .cons (.ty n) (.cons (.ty m) .nil), dp_ty (dp_mono e2.l d1), kitAny_cons (kit_ty hb) (fun e => kitAny_cons (kit_ty hc) (fun e2 => ?_) fun e2 => ?_) (fun e => ?_), q _ _ S2 (e1.trans e2) (.bl _)⟩
    · rw [e, e2]; rfl
    · rw [e, e2]; rfl
    · rw [e]; rfl⟩
/-! ### slices -/
noncomputable def cutD (xs : List PyData) (lo hi : Option Int) : List PyData := (xs.drop (HT.sIx xs.length 0 lo)).take (HT.sIx xs.length xs.length hi - HT.sIx xs.length 0 lo)
theorem dpa_drop {H : Hp} : ∀ (n : Nat) {ds : List PyData} {vs : List V}, DpAll K H vs ds → DpAll K H (vs.drop n) (ds.drop n)
  | 0, _, _, h => h
  | n + 1, _, _, .nil => .nil
  | n + 1, _, _, .cons _ t => dpa_drop n t
theorem dpa_take {H : Hp} : ∀ (n : Nat) {ds : List PyData} {vs : List V}, DpAll K H vs ds → DpAll K H (vs.take n) (ds.take n)
  | 0, _, _, _ => .nil
  | n + 1, _, _, .nil => .nil
  | n + 1, _, _, .cons h t => .cons h (dpa_take n t)
theorem dpa_cut {H : Hp} {ds : List PyData} {vs : List V} (h : DpAll K H vs ds) (lo hi : Option Int) : DpAll K H (cutV vs lo hi) (cutD ds lo hi) := by
  unfold cutV cutD
  rw [dpa_len h]
  exact dpa_take _ (dpa_drop _ h)
noncomputable def EvO (K : Fg) (to : TO) (G : Gam) (s : Bag) (o : Option Int) (s' : Bag) : Prop :=
  ∀ W B ad H0 H σ, Sta K W B ad H0 H σ G s → ∀ Q : Option Int → Hp → Prop, (∀ H2, Sta K W B ad H0 H2 σ G s' → Xb B H H2 → Q o H2) → to σ H Q
theorem eo_none : EvO K tNoPart G s none s := fun W B ad H0 H σ S Q q => q H S (Xb.refl)
theorem eo_some {i : Int} (h : EvG K te G s (.int i) s') : EvO K (tPart te) G s (some i) s' := fun W B ad H0 H σ S Q q => h W B ad H0 H σ S _ fun v H1 S1 e1 d1 => by
  cases d1
  exact ⟨i, rfl, q H1 S1 e1⟩
end
end U

end
section
namespace U
open PySem L2 Evl
section
variable {K : Fg} {G G1 G2 : Gam} {s s1 s2 s3 s' : Bag} {ta tb tc te : TE} {t u : TT} {x y z : PyData} {tu tw tz : TS} {o : Out}
theorem Post.mono {W : Addr → Prop} {B : Option (Addr × Addr)} {H0 M M' : Hp} {D : Ends} (e : Ex M M') (h : Post K W B H0 M D o) : Post K W B H0 M' D o := qt_of (by simp (disch := with_unfolding_all
  cases o with
  | nx G s => exact fun ad H σ S x => h ad H σ S (e.trans x)
  | rt x s => exact h
  | bk G s => exact fun ad H σ S x => h ad H σ S (e.trans x)
  | ct G s => exact fun ad H σ S x => h ad H σ S (e.trans x)
  ) only [↓qt_eq])
theorem sg_seq (h : SG K tu G s (.nx G1 s1)) (k : SG K tz G1 s1 o) : SG K (tSeq tu tz) G s o := fun W B ad H0 H σ D S p =>
  h W B ad H0 H σ { D with nx := tz D } S fun ad' H' σ' S' e => k W B ad' H0 H' σ' D S' (p.mono e)
theorem sg_seqR (h : SG K tu G s (.rt x s1)) : SG K (tSeq tu tz) G s (.rt x s1) := fun W B ad H0 H σ D S p => h W B ad H0 H σ { D with nx := tz D } S p
theorem sg_next : SG K tNext G s (.nx G s) := fun W B ad H0 H σ D S p => p ad H σ S (Ex.refl _)
theorem sg_asg {i : Nat} (h : EvG K te G s x s1) : SG K (tAsg te (gName i)) G s (.nx (G.set i (.d x)) s1) := fun W B ad H0 H σ D S p =>
  h W B ad H0 H σ S _ fun v H1 S1 e1 d1 => p ad H1 _ (S1.setD d1) (e1.l.trans (less_sub fun a q => Zs.set_of (fun _ z => by cases z) q))
theorem sg_ret (h : EvG K te G s x s1) : SG K (tRet te) G s (.rt x s1) := fun W B ad H0 H σ D S p =>
  h W B ad H0 H σ S _ fun v H1 S1 e1 d1 => p v H1 S1.base S1.bag (dp_mono (less_sub fun a q => q.elim .inl fun z => .inr (.inr z)) d1)
theorem sg_ifT (h : EvT K t G s true s1) (k : SG K tu G s1 o) : SG K (tIfS t tu tw) G s o := fun W B ad H0 H σ D S p =>
  h W B ad H0 H σ S _ fun H1 S1 e1 => iteT (k W B ad H0 H1 σ D S1 (p.mono e1.l))
theorem sg_ifF (h : EvT K t G s false s1) (k : SG K tw G s1 o) : SG K (tIfS t tu tw) G s o := fun W B ad H0 H σ D S p =>
  h W B ad H0 H σ S _ fun H1 S1 e1 => iteF (k W B ad H0 H1 σ D S1 (p.mono e1.l))
/-- if c: return .. else on -/
theorem sg_when {b : Bool} (h : EvT K t G s b s1) (k1 : b = true → SG K (tSeq tu tz) G s1 o) (k2 : b = false → SG K tz G s1 o) : SG K (tSeq (tIfS t tu tNext) tz) G s o := fun W B ad H0 H σ D S p =>
  h W B ad H0 H σ S _ fun H1 S1 e1 => by
    cases b with
    | true => exact iteT (k1 rfl W B ad H0 H1 σ D S1 (p.mono e1.l))
    | false => exact iteF (k2 rfl W B ad H0 H1 σ D S1 (p.mono e1.l))
/-- x, y = a, b -/
theorem sg_par {i j : Nat} {ta : TA} (h : EvA K ta G s [x, y] s1) : SG K (tPar i j ta) G s (.nx ((G.set i (.d x)).set j (.d y)) s1) := fun W B ad H0 H σ D S p =>
  h W B ad H0 H σ S _ fun vs H1 S1 e1 d1 => by
    obtain ⟨v, w, rfl, d, d2⟩ := dp2 d1
    have e2 : Ex (less H1 (Zs W B ad G)) (less H1 (Zs W B ad (G.set i (.d x)))) := less_sub fun a q => Zs.set_of (fun _ z => by cases z) q
    have S2 := S1.setD (i := i) d
    exact ⟨v, w, rfl, p ad H1 _ (S2.setD (i := j) (dp_mono e2 d2)) (e1.l.trans (e2.trans (less_sub fun a q => Zs.set_of (fun _ z => by cases z) q)))⟩
/-! ### targets that are tuples of names -/
/-! ### lists of one's own -/
/-- what is no longer needed is forgotten -/
inductive Wk : Gam → Gam → Prop
  | nil : Wk [] []
  | cons {e : En} {G G' : Gam} : Wk G G' → Wk (e :: G) (e :: G')
  | drop {e : En} {G G' : Gam} : Wk G G' → Wk (e :: G) (.un :: G')
theorem Wk.refl : ∀ G : Gam, Wk G G
  | [] => .nil
  | _ :: G => .cons (Wk.refl G)
theorem Wk.length : ∀ {G G' : Gam}, Wk G G' → G.length = G'.length
  | _, _, .nil => rfl
  | _, _, .cons h => congrArg (· + 1) h.length
  | _, _, .drop h => congrArg (· + 1) h.length
theorem Wk.get : ∀ {G G' : Gam} {i : Nat} {e : En}, Wk G G' → G'[i]? = some e → G[i]? = some e ∨ e = .un
  | _, _, _, _, .nil, h => by simp at h
  | _, _, 0, _, .cons _, h => .inl h
  | _, _, 0, _, .drop _, h => .inr (Option.some.inj h).symm
  | _, _, i + 1, _, .cons w, h => Wk.get (i := i) w h
  | _, _, i + 1, _, .drop w, h => Wk.get (i := i) w h
theorem Wk.own {G G' : Gam} {i : Nat} {xs : List PyData} (w : Wk G G') (h : G'[i]? = some (.own xs)) : G[i]? = some (.own xs) := (w.get h).resolve_right fun z => by cases z
theorem Wk.ex {W : Addr → Prop} {B : Option (Addr × Addr)} {ad : Nat → Addr} {H : Hp} {G G' : Gam} (w : Wk G G') : Ex (less H (Zs W B ad G)) (less H (Zs W B ad G')) := less_sub fun a q => by
  rcases q with q | ⟨i, xs, g, r⟩ | q
  · exact .inl q
  · exact .inr (.inl ⟨i, xs, w.own g, r⟩)
  · exact .inr (.inr q)
theorem Sta.wk {W : Addr → Prop} {B : Option (Addr × Addr)} {ad : Nat → Addr} {H0 H : Hp} {σ : St} {G G' : Gam} (w : Wk G G') (S : Sta K W B ad H0 H σ G s) : Sta K W B ad H0 H σ G' s where
  len := S.len.trans w.length
  at_ := fun i e h => by
    rcases w.get h with g | rfl
    · obtain ⟨o, g1, g2⟩ := S.at_ i e g
      exact ⟨o, g1, g2.mono w.ex fun _ _ _ q => q⟩
    · have il : i < σ.length := by rw [S.len, w.length]; exact (List.getElem?_eq_some_iff.mp h).1
      exact ⟨σ[i], List.getElem?_eq_getElem il, trivial⟩
  inj := fun i j xs ys g g' q => S.inj i j xs ys (w.own g) (w.own g') q
  sep := fun i xs g => S.sep i xs (w.own g)
  base := S.base
  bag := S.bag
  wd := S.wd
theorem sg_wk (h : SG K tu G s (.nx G1 s1)) (w : Wk G1 G2) : SG K tu G s (.nx G2 s1) := fun W B ad H0 H σ D S p =>
  h W B ad H0 H σ D S fun ad' H' σ' S' e => p ad' H' σ' (S'.wk w) (e.trans w.ex)
theorem sg_is {o'} (h : SG K tu G s o) (e : o = o') : SG K tu G s o' := e ▸ h
/-! ### loops -/
/-- what a turn of a loop may end with: going on -/
noncomputable def Turn (K : Fg) (tb : TS) (G : Gam) (s : Bag) (G' : Gam) (s' : Bag) : Prop := SG K tb G s (.nx G' s') ∨ SG K tb G s (.ct G' s')
theorem Turn.run {tb : TS} {G' : Gam} (h : Turn K tb G s G' s') {W : Addr → Prop} {B : Option (Addr × Addr)} {ad : Nat → Addr} {H0 H : Hp} {σ : St} {D : Ends} {N : St → Hp → Prop} (S : Sta K W B ad H0 H σ G s) (hn : D.nx = N) (hc : D.ct = N)
    (q : ∀ ad' H' σ', Sta K W B ad' H0 H' σ' G' s' → Ex (less H (Zs W B ad G)) (less H' (Zs W B ad' G')) → N σ' H') : tb D σ H := by
  rcases h with h | h
  · exact h W B ad H0 H σ D S fun ad' H' σ' S' e => by rw [hn]; exact q ad' H' σ' S' e
  · exact h W B ad H0 H σ D S fun ad' H' σ' S' e => by rw [hc]; exact q ad' H' σ' S' e
/-- while, by its states one behind the other -/
theorem sg_while {tb : TS} (GG : Nat → Gam) (SS TS' : Nat → Bag) (n : Nat) (w0 : Wk G (GG 0)) (h0 : SS 0 = s) (ht : ∀ i, i < n → EvT K t (GG i) (SS i) true (TS' i)) (hs : ∀ i, i < n → Turn K tb (GG i) (TS' i) (GG (i + 1)) (SS (i + 1)))
    (he : EvT K t (GG n) (SS n) false s') : SG K (tWhile t tb) G s (.nx (GG n) s') := fun W B ad H0 H σ D S p => by
  refine ⟨fun m σ' H' => ∃ i ad', m = n - i ∧ i ≤ n ∧ Sta K W B ad' H0 H' σ' (GG i) (SS i) ∧ Ex (less H (Zs W B ad G)) (less H' (Zs W B ad' (GG i))), ⟨n, 0, ad, rfl, Nat.zero_le _, by rw [h0]; exact S.wk w0, w0.ex⟩, ?_⟩
  rintro m σ' H' ⟨i, ad', rfl, hi, S', e'⟩
  by_cases hlt : i < n
  · refine ht i hlt W B ad' H0 H' σ' S' _ fun H2 S2 e2 => iteT ⟨fun σ3 H3 => ∃ ad3, Sta K W B ad3 H0 H3 σ3 (GG (i + 1)) (SS (i + 1)) ∧ Ex (less H (Zs W B ad G)) (less H3 (Zs W B ad3 (GG (i + 1)))), ?_, ?_⟩
    · rintro σ3 H3 ⟨ad3, S3, e3⟩
      exact ⟨n - (i + 1), by omega, i + 1, ad3, rfl, hlt, S3, e3⟩
    · exact (hs i hlt).run S2 rfl rfl fun ad3 H3 σ3 S3 e3 => ⟨ad3, S3, (e'.trans e2.l).trans e3⟩
  · have en : i = n := by omega
    subst en
    exact he W B ad' H0 H' σ' S' _ fun H2 S2 e2 => iteF (p ad' H2 σ' S2 (e'.trans e2.l))
end
end U

end
section
namespace U
open PySem L2 Evl
/-! ### what is walked, and into which names -/
noncomputable def ItOk (K : Fg) (J : It) (ds : List PyData) (M : Hp) : Prop := ∀ (H' : Hp) (Z : Addr → Prop), (∀ a, Z a → ∃ o, H' a = some o) → Ex M (less H' Z) → ∀ i,
  (∀ d, ds[i]? = some d → J.go i H') ∧ (ds.length ≤ i → J.stop i H') ∧ ∀ x H'', J.yld i H' x H'' → Ex H' H'' ∧ ∀ d, ds[i]? = some d → Dp K (less H'' Z) x d
noncomputable def Src (K : Fg) (wi : TI) (G : Gam) (s : Bag) (ds : List PyData) (s1 : Bag) : Prop :=
  ∀ W B ad H0 H σ, Sta K W B ad H0 H σ G s → ∀ R : It → Hp → Prop, (∀ J H1, Sta K W B ad H0 H1 σ G s1 → Xb B H H1 → ItOk K J ds (less H1 (Zs W B ad G)) → R J H1) → wi σ H R
noncomputable def Off (vs : List Nat) (G G' : Gam) : Prop := G.length = G'.length ∧ (∀ i, i ∉ vs → G'[i]? = G[i]?) ∧ ∀ i xs, i ∈ vs → G'[i]? ≠ some (.own xs)
noncomputable def Tgt (K : Fg) (g : TG) (vs : List Nat) (G : Gam) (x : PyData) (G' : Gam) : Prop := Off vs G G' ∧ ∀ W B ad H0 H σ s v, Sta K W B ad H0 H σ G s → Dp K (less H (Zs W B ad G)) v x → ∀ Q : St → Hp → Prop,
  (∀ σ', Sta K W B ad H0 H σ' G' s → Ex (less H (Zs W B ad G)) (less H (Zs W B ad G')) → wipe σ' vs = wipe σ vs → Q σ' H) → g v σ H Q
section
variable {K : Fg} {G G' G1 G2 : Gam} {s s1 s2 s3 s' : Bag} {ta tb tc te : TE} {t u : TT} {x y z : PyData} {tu tw tz : TS} {o : Out}
theorem src_tup {ds : List PyData} (h : EvG K te G s (.tuple ds) s1) : Src K (iTup K te) G s ds s1 := fun W B ad H0 H σ S R q => h W B ad H0 H σ S _ fun v H1 S1 e1 d1 => by
  cases d1 with
  | @tup a vs _ g t =>
    refine ⟨a, rfl, ⟨vs, ex_t less_ex g⟩, q _ H1 S1 e1 fun H' Z hz e i => ?_⟩
    have g' : SqT K H' a vs := ex_t less_ex (ex_t e g)
    refine ⟨fun d hd => ?_, fun hl => ⟨vs, g', by rw [dpa_len t]; exact hl⟩, fun x H'' hy => ?_⟩
    · obtain ⟨v, hv, _⟩ := dpa_get t hd
      exact ⟨vs, v, g', hv⟩
    · obtain ⟨rfl, hy⟩ := hy
      refine ⟨Ex.refl _, fun d hd => ?_⟩
      obtain ⟨v, hv, hd⟩ := dpa_get t hd
      have ev : v = x := Option.some.inj (hv.symm.trans (hy vs g'))
      rw [← ev]
      exact dp_mono e hd
noncomputable def rngD (lo : Int) (n : Nat) : List PyData := (List.range n).map fun i : Nat => .int (lo + (i : Int))
theorem rngD_len (lo : Int) (n : Nat) : (rngD lo n).length = n := by simp [rngD]
theorem rngD_get {lo : Int} {n i : Nat} (h : i < n) : (rngD lo n)[i]? = some (.int (lo + (i : Int))) := by
  unfold rngD
  rw [List.getElem?_map, List.getElem?_range h]
  rfl
theorem it_rng {lo : Int} {n : Nat} {M : Hp} : ItOk K (Itr lo n) (rngD lo n) M := fun H' Z hz e i => by
  refine ⟨fun d hd => ?_, fun hl => ?_, fun x H'' hy => ?_⟩
  · have := (List.getElem?_eq_some_iff.mp hd).1
    rw [rngD_len] at this
    exact this
  · rw [rngD_len] at hl
    exact hl
  · obtain ⟨rfl, rfl⟩ := hy
    refine ⟨Ex.refl _, fun d hd => ?_⟩
    have hl := (List.getElem?_eq_some_iff.mp hd).1
    rw [rngD_len] at hl
    rw [rngD_get hl] at hd
    cases hd
    exact .int _
theorem src_rng1 {ta : TA} {n : Int} (h : EvA K ta G s [.int n] s1) (hn : -1000000 ≤ n ∧ n ≤ 1000000) : Src K (iRng1 ta) G s (rngD 0 n.toNat) s1 := fun W B ad H0 H σ S R q => h W B ad H0 H σ S _ fun vs H1 S1 e1 d1 => by
  obtain ⟨v, rfl, d⟩ := dp1 d1
  cases d
  exact ⟨n, rfl, by omega, by omega, q _ H1 S1 e1 it_rng⟩
/-! ### targets -/
theorem tgt_name {j : Nat} : Tgt K (gName j) [j] G x (G.set j (.d x)) := by
  refine ⟨⟨by rw [List.length_set], fun i hi => ?_, fun i xs hi h => ?_⟩, fun W B ad H0 H σ s v S d Q q => q _ (S.setD d) (less_sub fun a q => Zs.set_of (fun _ z => by cases z) q) ?_⟩
  · rw [List.getElem?_set_ne (fun z => hi (by rw [z]; exact List.mem_singleton.mpr rfl))]
  · rcases get_set h with ⟨rfl, l, e⟩ | ⟨z, g⟩
    · cases e
    · exact z (List.mem_singleton.mp hi).symm
  · show (List.set (List.set σ j (some v)) j none) = List.set σ j none
    rw [List.set_set]
theorem wipe_set : ∀ {vs : List Nat} {σ : St} {i : Nat} {o : Option V}, i ∈ vs → wipe (σ.set i o) vs = wipe σ vs
  | v :: vs, σ, i, o, h => by
    show (wipe (σ.set i o) vs).set v none = (wipe σ vs).set v none
    by_cases hv : i ∈ vs
    · rw [wipe_set hv]
    · have e : i = v := (List.mem_cons.mp h).resolve_right hv
      subst e
      have c : ∀ (vs : List Nat) (σ : St), i ∉ vs → wipe (σ.set i o) vs = (wipe σ vs).set i o := fun vs => by
        induction vs with
        | nil => exact fun _ _ => rfl
        | cons w vs ih =>
          intro σ hn
          show (wipe (σ.set i o) vs).set w none = ((wipe σ vs).set w none).set i o
          rw [ih σ (fun z => hn (List.mem_cons_of_mem _ z)), List.set_comm _ _ (fun z => hn (by rw [z]; exact List.mem_cons_self))]
      rw [c vs σ hv, List.set_set]
/-! ### for, over anything -/
/-! ### comprehensions -/
theorem wipe_get : ∀ {vs : List Nat} {σ : St} {i : Nat}, i ∉ vs → (wipe σ vs)[i]? = σ[i]?
  | [], _, _, _ => rfl
  | v :: vs, σ, i, h => by
    show ((wipe σ vs).set v none)[i]? = _
    rw [List.getElem?_set_ne (fun z => h (by rw [z]; exact List.mem_cons_self)), wipe_get (fun z => h (List.mem_cons_of_mem _ z))]
theorem wipe_wipe {vs : List Nat} {σ : St} : wipe (wipe σ vs) vs = wipe σ vs := qt_of (by simp (disch := with_unfolding_all
  have key : ∀ us : List Nat, (∀ i ∈ us, i ∈ vs) → wipe (wipe σ us) vs = wipe σ vs := fun us => by
    induction us with
    | nil => exact fun _ => rfl
    | cons u us ih =>
      intro h
      show wipe ((wipe σ us).set u none) vs = wipe σ vs
      rw [wipe_set (h u List.mem_cons_self), ih fun i hi => h i (List.mem_cons_of_mem _ hi)]
  exact key vs fun _ h => h
  ) only [↓qt_eq])
theorem Sta.slots {W : Addr → Prop} {B : Option (Addr × Addr)} {ad : Nat → Addr} {H0 H : Hp} {σ σ' : St} {vs : List Nat} (S : Sta K W B ad H0 H σ G s) (ho : Off vs G G') (hu : ∀ i e, i ∈ vs → G'[i]? = some e → e = .un) (hg : ∀ i xs, i ∈ vs → G[i]? ≠ some (.own xs)) (hw : wipe σ vs = wipe σ' vs) : Sta K W B ad H0 H σ' G' s := qt_of (by simp (disch := with_unfolding_all
  have hl : σ.length = σ'.length := by
    have := congrArg List.length hw
    rw [wipe_length, wipe_length] at this
    exact this
  have zz : ∀ a, Zs W B ad G' a ↔ Zs W B ad G a := fun a => by
    constructor
    · rintro (z | ⟨i, xs, g, r⟩ | z)
      · exact .inl z
      · by_cases hi : i ∈ vs
        · exact absurd (hu i _ hi g) (fun e => by cases e)
        · rw [ho.2.1 i hi] at g; exact .inr (.inl ⟨i, xs, g, r⟩)
      · exact .inr (.inr z)
    · rintro (z | ⟨i, xs, g, r⟩ | z)
      · exact .inl z
      · by_cases hi : i ∈ vs
        · exact absurd g (hg i xs hi)
        · exact .inr (.inl ⟨i, xs, by rw [ho.2.1 i hi]; exact g, r⟩)
      · exact .inr (.inr z)
  have zl : Zs W B ad G' = Zs W B ad G := funext fun a => propext (zz a)
  have own : ∀ (i : Nat) (xs : List PyData), G'[i]? = some (En.own xs) → G[i]? = some (En.own xs) := fun i xs g => by
    by_cases hi : i ∈ vs
    · exact absurd (hu i _ hi g) (fun e => by cases e)
    · rw [ho.2.1 i hi] at g; exact g
  refine ⟨hl ▸ (S.len.trans ho.1), fun i e g => ?_, fun i j xs ys g g' q => S.inj i j xs ys (own i xs g) (own j ys g') q, fun i xs g => S.sep i xs (own i xs g), S.base, S.bag, S.wd⟩
  by_cases hi : i ∈ vs
  · have e := hu i e hi g
    subst e
    have il : i < σ'.length := by rw [← hl, S.len, ho.1]; exact (List.getElem?_eq_some_iff.mp g).1
    exact ⟨σ'[i], List.getElem?_eq_getElem il, trivial⟩
  · rw [ho.2.1 i hi] at g
    obtain ⟨o, g1, g2⟩ := S.at_ i e g
    refine ⟨o, ?_, by rw [zl]; exact g2⟩
    rw [← wipe_get hi, ← hw, wipe_get hi]
    exact g1
  ) only [↓qt_eq])
theorem range_fm_succ (f : Nat → Option PyData) (i : Nat) : (List.range (i + 1)).filterMap f = (List.range i).filterMap f ++ (f i).toList := by
  rw [List.range_succ, List.filterMap_append]
  cases h : f i <;> simp [h]
/-- [elt for target in .. if ..]: f tells what each turn gives -/
theorem ev_lc {wi : TI} {g : TG} {vs : List Nat} {tt : TT} {ds : List PyData} (h : Src K wi G s ds s1) (f : Nat → Option PyData) (SS : Nat → Bag) (h0 : SS 0 = s1) (hu : ∀ i e, i ∈ vs → G[i]? = some e → e = .un) (hz : ds.length ≤ 16000000)
    (hs : ∀ i x, ds[i]? = some x → ∃ Gt s2, Tgt K g vs G x Gt ∧ EvT K tt Gt (SS i) (f i).isSome s2 ∧ (∀ y, f i = some y → EvG K te Gt s2 y (SS (i + 1))) ∧ (f i = none → s2 = SS (i + 1))) :
    EvG K (tLc wi g tt te vs) G s (.list ((List.range ds.length).filterMap f)) (SS ds.length) := fun W B ad H0 H σ S Q q =>
  h W B ad H0 H σ S _ fun J H1 S1 e1 ok Dl hD => by
    have hgu : ∀ i xs, i ∈ vs → G[i]? ≠ some (.own xs) := fun i xs hi g => by cases hu i _ hi g
    obtain ⟨L0, el0⟩ := S1.lend (o := .lst []) hD
    have fr := S1.fresh hD
    have npD : ¬ Zs W B ad G Dl := by
      rintro (z | ⟨i, xs, g, r⟩ | z)
      · obtain ⟨o, z⟩ := S1.wd _ z
        rw [hD] at z; cases z
      · obtain ⟨_, _, _, vs, h1, _⟩ := S1.at_ i _ g
        rw [← r, hD] at h1; cases h1
      · exact fr.2 z
    refine ⟨fun i m H' => m = ds.length - i ∧ i ≤ ds.length ∧ Sta K (fun a => W a ∨ a = Dl) B ad H0 H' σ G (SS i) ∧ Ex (less H1 (Zs W B ad G)) (less H' (Zs (fun a => W a ∨ a = Dl) B ad G)) ∧ Xb B H1 H' ∧
      ∃ acc, H' Dl = some (.lst acc) ∧ DpAll K (less H' (Zs (fun a => W a ∨ a = Dl) B ad G)) acc ((List.range i).filterMap f), ⟨ds.length, rfl, Nat.zero_le _, by rw [h0]; exact L0, by rw [el0]; exact Ex.refl _, .of (Ex.new hD), [], upd_same, .nil⟩, ?_⟩
    rintro i m H' ⟨rfl, hi, S', e', xb, acc, ha, hd⟩
    obtain ⟨k1, k2, k3⟩ := ok H' (Zs (fun a => W a ∨ a = Dl) B ad G) S'.there e' i
    by_cases hlt : i < ds.length
    · have hx : ds[i]? = some ds[i] := List.getElem?_eq_getElem hlt
      obtain ⟨Gt, s2, tg, ht, hy, hn⟩ := hs i _ hx
      refine .inr ⟨k1 _ hx, fun H3 => Sta K (fun a => W a ∨ a = Dl) B ad H0 H3 σ G (SS (i + 1)) ∧ Ex (less H1 (Zs W B ad G)) (less H3 (Zs (fun a => W a ∨ a = Dl) B ad G)) ∧ Xb B H1 H3 ∧
        ∃ acc, H3 Dl = some (.lst acc) ∧ DpAll K (less H3 (Zs (fun a => W a ∨ a = Dl) B ad G)) acc ((List.range (i + 1)).filterMap f), fun H3 h3 => ⟨ds.length - (i + 1), by omega, rfl, hlt, h3⟩, fun v H'' hyl => ?_⟩
      obtain ⟨ex, dx⟩ := k3 v H'' hyl
      have S2 := (S'.ext ex).slots (σ' := wipe σ vs) (G' := G) (vs := vs) ⟨rfl, fun _ _ => rfl, hgu⟩ hu hgu wipe_wipe.symm
      refine tg.2 _ B ad H0 H'' _ (SS i) v S2 (dx _ hx) _ fun σ2 S3 e3 ew => ⟨by rw [ew, wipe_wipe], ?_⟩
      have eZ : Zs (fun a => W a ∨ a = Dl) B ad Gt = Zs (fun a => W a ∨ a = Dl) B ad G := funext fun a => propext (by
        have own : ∀ (i : Nat) (xs : List PyData), Gt[i]? = some (En.own xs) ↔ G[i]? = some (En.own xs) := fun i xs => by
          by_cases hi : i ∈ vs
          · exact ⟨fun g => absurd g (tg.1.2.2 i xs hi), fun g => absurd g (hgu i xs hi)⟩
          · rw [tg.1.2.1 i hi]
        constructor
        · rintro (z | ⟨i, xs, g, r⟩ | z)
          · exact .inl z
          · exact .inr (.inl ⟨i, xs, (own i xs).mp g, r⟩)
          · exact .inr (.inr z)
        · rintro (z | ⟨i, xs, g, r⟩ | z)
          · exact .inl z
          · exact .inr (.inl ⟨i, xs, (own i xs).mpr g, r⟩)
          · exact .inr (.inr z))
      have back : ∀ {H5 : Hp} {b : Bag}, Sta K (fun a => W a ∨ a = Dl) B ad H0 H5 σ2 Gt b → Sta K (fun a => W a ∨ a = Dl) B ad H0 H5 σ G b := fun {H5 b} S5 =>
        S5.slots (G' := G) (vs := vs) ⟨tg.1.1.symm, fun i hi => (tg.1.2.1 i hi).symm, hgu⟩ hu tg.1.2.2 (by rw [ew, wipe_wipe])
      have hB : ¬ InB B Dl := fr.2
      have ha2 : H'' Dl = some (.lst acc) := ex _ _ ha
      have al : acc.length < sizeLine := by
        have h1 := dpa_len hd
        have h2 := List.length_filterMap_le f (List.range i)
        rw [List.length_range] at h2
        exact Nat.lt_of_lt_of_le (show acc.length < 16777216 by omega) (by decide)
      refine ht _ B ad H0 H'' σ2 S3 _ fun H3 S4 e4 => ?_
      have e5 : Ex (less H' (Zs (fun a => W a ∨ a = Dl) B ad G)) (less H3 (Zs (fun a => W a ∨ a = Dl) B ad G)) := (less_mono ex).trans e4.l
      cases hf : (f i) with
      | none =>
        rw [hn hf] at S4
        refine iteF ⟨back S4, e'.trans e5, (xb.trans (.of ex)).trans e4, acc, e4 _ _ ha2 hB, ?_⟩
        rw [range_fm_succ, hf]
        show DpAll K _ acc (_ ++ [])
        rw [List.append_nil]
        exact dpa_mono e5 hd
      | some y =>
        refine iteT ?_
        refine hy y hf _ B ad H0 H3 σ2 S4 _ fun w H4 S5 e6 dw => ?_
        rw [eZ] at dw
        have S6 := back S5
        have h0 : H0 Dl = none := fr.1
        obtain ⟨S7, el7⟩ := S6.foreign (o := .lst (acc ++ [w])) (p := Dl) (.inr rfl) h0 hB
        refine ⟨acc, e6 _ _ (e4 _ _ ha2 hB) hB, al, S7, ?_, ?_, acc ++ [w], upd_same, ?_⟩
        · rw [el7]
          exact e'.trans (e5.trans e6.l)
        · intro a o g n
          have na : a ≠ Dl := ne_of_none g hD
          rw [upd_ne na]
          exact ((((xb.trans (.of ex)).trans e4).trans e6) a o g n)
        · rw [el7, range_fm_succ, hf]
          exact dpa_app (dpa_mono (e5.trans e6.l) hd) (.cons dw .nil)
    · have en : i = ds.length := by omega
      subst en
      obtain ⟨S5, e5⟩ := S'.back
      refine .inl ⟨k2 (Nat.le_refl _), q _ H' S5 (e1.trans ?_) (.lst (sq_of (less_of npD ha)) (dpa_mono e5 hd))⟩
      exact fun a o g n => xb a o g n
end
end U

end
section
namespace U
open PySem PyProof.Rows L2 Evl
section
variable {K : Fg} {G G' G1 G2 : Gam} {s s1 s2 s3 s' : Bag} {ta tb tc te : TE} {t u : TT} {x y z : PyData} {tu tw tz : TS} {o : Out}
theorem range_fm_map {ds : List PyData} (F : PyData → PyData) : (List.range ds.length).filterMap (fun i => (ds[i]?).map F) = ds.map F := qt_of (by simp (disch := with_unfolding_all
  have key : ∀ (l : List PyData), (List.range l.length).filterMap (fun i => l[i]?) = l := fun l => by
    induction l with
    | nil => rfl
    | cons a l ih =>
      rw [List.length_cons, List.range_succ_eq_map, List.filterMap_cons]
      simp only [List.getElem?_cons_zero, List.filterMap_map]
      refine congrArg (a :: ·) ?_
      exact ih
  have h : (fun i : Nat => (ds[i]?).map F) = fun i : Nat => (ds.map F)[i]? := by
    funext i
    rw [List.getElem?_map]
  rw [h]
  have e := key (ds.map F)
  rw [List.length_map] at e
  exact e
  ) only [↓qt_eq])
theorem et_yes : EvT K tYes G s true s := fun W B ad H0 H σ S Q q => q H S Xb.refl
/-- [elt for target in ..], nothing drawn, no test -/
theorem ev_lcM {wi : TI} {g : TG} {vs : List Nat} {ds : List PyData} (h : Src K wi G s ds s1) (F : PyData → PyData) (hu : ∀ i e, i ∈ vs → G[i]? = some e → e = .un) (hz : ds.length ≤ 16000000)
    (hs : ∀ x, x ∈ ds → ∃ Gt, Tgt K g vs G x Gt ∧ EvG K te Gt s1 (F x) s1) : EvG K (tLc wi g tYes te vs) G s (.list (ds.map F)) s1 := qt_of (by simp (disch := with_unfolding_all
  have k := ev_lc (K := K) (te := te) (tt := tYes) h (fun i => (ds[i]?).map F) (fun _ => s1) rfl hu hz fun i x hx => by
    obtain ⟨Gt, a, b⟩ := hs x (List.mem_of_getElem? hx)
    refine ⟨Gt, s1, a, ?_, fun y hy => ?_, fun hn => rfl⟩
    · rw [hx]; exact et_yes
    · rw [hx] at hy
      cases hy
      exact b
  rw [range_fm_map] at k
  exact k
  ) only [↓qt_eq])
/-! ### deep equality -/
end
/-! ### defs -/
section
variable {Pg : Program} {w : World} {K : Fg} {mg : Str → Option Value} {base : Heap}
noncomputable def frame (n : Nat) (ds : List PyData) : Gam := ds.map .d ++ List.replicate (n - ds.length) .un
theorem frame_get {n i : Nat} {ds : List PyData} {e : En} (h : (frame n ds)[i]? = some e) : (∃ d, ds[i]? = some d ∧ e = .d d) ∨ (ds.length ≤ i ∧ e = .un) := qt_of (by simp (disch := with_unfolding_all
  unfold frame at h
  by_cases hi : i < ds.length
  · rw [List.getElem?_append_left (by rw [List.length_map]; exact hi), List.getElem?_map, List.getElem?_eq_getElem hi] at h
    exact .inl ⟨ds[i], List.getElem?_eq_getElem hi, (Option.some.inj h).symm⟩
  · have hi : ds.length ≤ i := by omega
    rw [List.getElem?_append_right (by rw [List.length_map]; exact hi)] at h
    exact .inr ⟨hi, (List.mem_replicate.mp (List.mem_of_getElem? h)).2⟩
  ) only [↓qt_eq])
theorem start_get {N : List Str} {vs : List V} {i : Nat} {v : V} (h : vs[i]? = some v) : (L2.start N vs)[i]? = some (some v) := by
  unfold L2.start
  have hi := (List.getElem?_eq_some_iff.mp h).1
  rw [List.getElem?_append_left (by rw [List.length_map]; exact hi), List.getElem?_map, h]
  rfl
theorem start_len {N : List Str} {vs : List V} : (L2.start N vs).length = vs.length + (N.length - vs.length) := by
  unfold L2.start
  rw [List.length_append, List.length_map, List.length_replicate]
/-- the state at a def's entry -/
theorem sta0 {N : List Str} {W : Addr → Prop} {H : Hp} {vs : List V} {ds : List PyData} (hW : ∀ a, W a → ∃ o, H a = some o) (hd : DpAll K (less H W) vs ds) (b : Bag) : Sta K W none (fun _ => 0) H H (L2.start N vs) (frame N.length ds) b := qt_of (by simp (disch := with_unfolding_all
  have no : ∀ (i : Nat) (xs : List PyData), (frame N.length ds)[i]? ≠ some (En.own xs) := fun i xs h => by
    rcases frame_get h with ⟨d, _, e⟩ | ⟨_, e⟩ <;> cases e
  have zz : ∀ a, Zs W none (fun _ => 0) (frame N.length ds) a → W a := by
    rintro a (z | ⟨i, xs, g, _⟩ | ⟨b, c, z, _⟩)
    · exact z
    · exact absurd g (no i xs)
    · cases z
  refine ⟨?_, fun i e h => ?_, fun i j xs ys g => absurd g (no i xs), fun i xs g => absurd g (no i xs), fun a o h _ => h, trivial, hW⟩
  · rw [start_len, dpa_len hd]
    unfold frame
    rw [List.length_append, List.length_map, List.length_replicate]
  · rcases frame_get h with ⟨d, hi, rfl⟩ | ⟨hi, rfl⟩
    · obtain ⟨v, hv, dv⟩ := dpa_get hd hi
      exact ⟨some v, start_get hv, v, rfl, dp_mono (less_sub zz) dv⟩
    · have il : i < (L2.start N vs).length := by
        rw [start_len, dpa_len hd]
        have := (List.getElem?_eq_some_iff.mp h).1
        unfold frame at this
        rw [List.length_append, List.length_map, List.length_replicate] at this
        exact this
      exact ⟨(L2.start N vs)[i], List.getElem?_eq_getElem il, trivial⟩
  ) only [↓qt_eq])
/-- a def of data -/
theorem okP {x qual : Str} {st : Stmt} {f : Addr} {fd : FuncData} {N ps : List Str} {k : Nat} {P : List PyData → PyData → Prop} (F : Fun K x qual st f fd) (S : FnScope N ps (defScope st)) (hl : ∀ ds r, P ds r → ds.length = ps.length)
    (hb : ∀ ds r, P ds r → ∀ (cdv : Value) (A : Around) (outer : List Env) (sh : Shared) (H : Hp) (E : XK), Room k (A.deeper (envOfC qual (defScope st) sh.heap.objs.size f cdv)) →
      ∃ t, PSs (cxOf CX0 Pg w K mg base N qual (defScope st) f cdv A outer sh H E).nox (defBody st) t ∧ ∀ b, SG K t (frame N.length ds) b (.rt r b)) : FnOk Pg w K mg base CX0 (k + 1) f fd ps (spP K P) := qt_of (by simp (disch := with_unfolding_all
  refine F.ok S (fun vs H Q E h => ?_) (fun cdv A outer sh H vs Q E hr h => ?_)
  · obtain ⟨W, ds, r, _, hd, hp, _⟩ := h
    rw [dpa_len hd]
    exact hl ds r hp
  · obtain ⟨W, ds, r, hW, hd, hp, q⟩ := h
    obtain ⟨t, ht, g⟩ := hb ds r hp cdv A outer sh H E hr
    refine ⟨t, ht, g ⟨[], 0, 0⟩ W none (fun _ => 0) H H _ _ (sta0 hW hd _) fun v H' e _ d => q v H' (fun a o h => e a o h (fun ⟨_, _, z, _⟩ => by cases z)) (dp_mono (less_sub fun a z => .inl z) d)⟩
  ) only [↓qt_eq])
theorem staB {N : List Str} {W : Addr → Prop} {H : Hp} {b c : Addr} {vs : List V} {ds : List PyData} {s : Bag} (hW : ∀ a, W a → ∃ o, H a = some o) (hB : BagAt H (some (b, c)) s) (hd : DpAll K (less H fun a => W a ∨ InB (some (b, c)) a) vs ds) :
    Sta K W (some (b, c)) (fun _ => 0) H H (L2.start N (.ref b :: vs)) (.bag :: frame (N.length - 1) ds) s := qt_of (by simp (disch := with_unfolding_all
  have no : ∀ (i : Nat) (xs : List PyData), (En.bag :: frame (N.length - 1) ds)[i]? ≠ some (En.own xs) := fun i xs h => by
    cases i with
    | zero => cases h
    | succ i => rcases frame_get h with ⟨d, _, e⟩ | ⟨_, e⟩ <;> cases e
  have zz : ∀ a, Zs W (some (b, c)) (fun _ => 0) (En.bag :: frame (N.length - 1) ds) a → W a ∨ InB (some (b, c)) a := by
    rintro a (z | ⟨i, xs, g, _⟩ | z)
    · exact .inl z
    · exact absurd g (no i xs)
    · exact .inr z
  have ln : (L2.start N (.ref b :: vs)).length = (En.bag :: frame (N.length - 1) ds).length := by
    rw [start_len, List.length_cons, List.length_cons, dpa_len hd]
    unfold frame
    rw [List.length_append, List.length_map, List.length_replicate]
    omega
  refine ⟨ln, fun i e h => ?_, fun i j xs ys g => absurd g (no i xs), fun i xs g => absurd g (no i xs), fun a o h _ => h, hB, hW⟩
  cases i with
  | zero =>
    cases h
    exact ⟨some (.ref b), rfl, b, c, rfl, rfl⟩
  | succ i =>
    rcases frame_get h with ⟨d, hi, rfl⟩ | ⟨hi, rfl⟩
    · obtain ⟨v, hv, dv⟩ := dpa_get hd hi
      exact ⟨some v, start_get (show (V.ref b :: vs)[i + 1]? = some v from hv), v, rfl, dp_mono (less_sub zz) dv⟩
    · have il : i + 1 < (L2.start N (.ref b :: vs)).length := by
        rw [ln]; exact (List.getElem?_eq_some_iff.mp h).1
      exact ⟨_, List.getElem?_eq_getElem il, trivial⟩
  ) only [↓qt_eq])
/-- a def that draws -/
theorem okB {x qual : Str} {st : Stmt} {f : Addr} {fd : FuncData} {N ps : List Str} {k : Nat} {P : Bag → List PyData → PyData → Bag → Prop} (F : Fun K x qual st f fd) (S : FnScope N ps (defScope st)) (hl : ∀ s ds r s', P s ds r s' → ds.length + 1 = ps.length)
    (hb : ∀ s ds r s', P s ds r s' → s.ok → ∀ (cdv : Value) (A : Around) (outer : List Env) (sh : Shared) (H : Hp) (E : XK), Room k (A.deeper (envOfC qual (defScope st) sh.heap.objs.size f cdv)) →
      ∃ t, PSs (cxOf CX0 Pg w K mg base N qual (defScope st) f cdv A outer sh H E).nox (defBody st) t ∧ SG K t (.bag :: frame (N.length - 1) ds) s (.rt r s')) : FnOk Pg w K mg base CX0 (k + 1) f fd ps (spB K P) := qt_of (by simp (disch := with_unfolding_all
  refine F.ok S (fun vs H Q E h => ?_) (fun cdv A outer sh H vs Q E hr h => ?_)
  · obtain ⟨W, b, c, us, s, ds, r, s', _, rfl, _, hd, hp, _⟩ := h
    rw [List.length_cons, dpa_len hd]
    exact hl s ds r s' hp
  · obtain ⟨W, b, c, us, s, ds, r, s', hW, rfl, hB, hd, hp, q⟩ := h
    obtain ⟨t, ht, g⟩ := hb s ds r s' hp hB.2.2 cdv A outer sh H E hr
    exact ⟨t, ht, g W (some (b, c)) (fun _ => 0) H H _ _ (staB hW hB hd) fun v H' e hb d => q v H' e hb d⟩
  ) only [↓qt_eq])
/-! ### the law itself: the script, the bag made of it, the rest -/
noncomputable def bag0 (ns : List Int) : Bag := ⟨ns, 0, 20011⟩
noncomputable def spBag (K : Fg) : Sp := fun vs H Q _ => ∃ (W : Addr → Prop) (ns : List Int), (∀ a, W a → ∃ o, H a = some o) ∧ DpAll K (less H W) vs [.list (ns.map PyData.int)] ∧ ns.length ≤ 63 ∧
  ∀ b c H', Ex H H' → H b = none → H c = none → BagAt H' (some (b, c)) (bag0 ns) → Q (.ref b) H'
noncomputable def PLaw : List PyData → PyData → Prop := fun ds r => ∃ ns : List Int, ds = [.list (ns.map PyData.int)] ∧ ns.length ≤ 63 ∧ r = .bool true
end
end U

end
section
namespace U
open PySem PyProof.Rows L2 Evl
/-! ### the mathematics of fractions -/
noncomputable abbrev Fr := Int × Int
noncomputable abbrev fr (p : Fr) : PyData := .tuple [.int p.1, .int p.2]
noncomputable def gN (a b : Int) : Nat := max (Nat.gcd a.natAbs b.natAbs) 1
noncomputable def gI (a b : Int) : Int := (gN a b : Int)
theorem gI_pos (a b : Int) : 0 < gI a b := by
  unfold gI gN
  have : 1 ≤ max (Nat.gcd a.natAbs b.natAbs) 1 := Nat.le_max_right _ _
  omega
/-- the states of Euclid's loop -/
noncomputable def eu (x y : Nat) : Nat → Nat × Nat
  | 0 => (x, y)
  | i + 1 => ((eu x y i).2, (eu x y i).1 % (eu x y i).2)
theorem eu_shift (x y : Nat) : ∀ i, eu x y (i + 1) = eu y (x % y) i
  | 0 => rfl
  | i + 1 => by
    show ((eu x y (i + 1)).2, (eu x y (i + 1)).1 % (eu x y (i + 1)).2) = _
    rw [eu_shift x y i]
    rfl
theorem eu_end : ∀ (y x : Nat), ∃ n, eu x y n = (Nat.gcd x y, 0) ∧ ∀ i, i < n → 0 < (eu x y i).2 := fun y => by
  induction y using Nat.strongRecOn with
  | ind y ih =>
    intro x
    by_cases hy : y = 0
    · subst hy
      exact ⟨0, by show (x, 0) = _; rw [Nat.gcd_zero_right], fun i hi => absurd hi (Nat.not_lt_zero _)⟩
    · obtain ⟨n, h1, h2⟩ := ih (x % y) (Nat.mod_lt _ (Nat.pos_of_ne_zero hy)) y
      refine ⟨n + 1, ?_, fun i hi => ?_⟩
      · rw [eu_shift, h1, Nat.gcd_comm x y, Nat.gcd_rec y x]
        rw [Nat.gcd_comm]
      · cases i with
        | zero => exact Nat.pos_of_ne_zero hy
        | succ i =>
          rw [eu_shift]
          exact h2 i (by omega)
theorem fmod_nat (a b : Nat) : Int.fmod (a : Int) (b : Int) = ((a % b : Nat) : Int) := by
  rw [Int.fmod_eq_emod_of_nonneg _ (Int.natCast_nonneg b)]
  rfl
theorem absI_nat (a : Int) : absI a = (a.natAbs : Int) := by
  unfold absI
  split <;> omega
noncomputable def Bd (n : Nat) (a : Int) : Prop := a.natAbs < 2 ^ n
noncomputable def Sz (n : Nat) (p : Fr) : Prop := Bd n p.1 ∧ Bd n p.2
theorem Bd.mono {n m : Nat} {a : Int} (h : Bd n a) (l : n ≤ m) : Bd m a := Nat.lt_of_lt_of_le h (Nat.pow_le_pow_right (by decide) l)
theorem Sz.mono {n m : Nat} {p : Fr} (h : Sz n p) (l : n ≤ m) : Sz m p := ⟨h.1.mono l, h.2.mono l⟩
theorem Bd.mul {n m : Nat} {a b : Int} (ha : Bd n a) (hb : Bd m b) : Bd (n + m) (a * b) := wide_lt ha hb
theorem Bd.cm {n m : Nat} {a b : Int} (ha : Bd n a) (hb : Bd m b) (h : n + m + 2 ≤ 1000000) : CMulW a b :=
  wide_mul (ha.mono (Nat.le_succ n)) (hb.mono (Nat.le_succ m)) (Nat.succ_pos _) (Nat.succ_pos _) (by omega)
theorem Bd.add {n : Nat} {a b : Int} (ha : Bd n a) (hb : Bd n b) : Bd (n + 1) (a + b) := by
  unfold Bd at *
  rw [Nat.pow_succ]
  omega
theorem Bd.sub {n : Nat} {a b : Int} (ha : Bd n a) (hb : Bd n b) : Bd (n + 1) (a - b) := by
  unfold Bd at *
  rw [Nat.pow_succ]
  omega
theorem Bd.neg {n : Nat} {a : Int} (ha : Bd n a) : Bd n (-a) := by
  unfold Bd at *
  omega
theorem Bd.fdiv {n : Nat} {a : Int} (b : Int) (ha : Bd n a) : Bd n (a.fdiv b) := Nat.lt_of_le_of_lt (Int.natAbs_fdiv_le_natAbs a b) ha
theorem gN_le {n : Nat} {a b : Int} (ha : Bd n a) (hb : Bd n b) : gN a b ≤ 2 ^ n := qt_of (by simp (disch := with_unfolding_all
  unfold gN
  have h1 : 1 ≤ 2 ^ n := Nat.one_le_two_pow
  refine Nat.max_le.mpr ⟨?_, h1⟩
  by_cases h0 : a.natAbs = 0
  · rw [h0, Nat.gcd_zero_left]
    exact Nat.le_of_lt hb
  · exact Nat.le_trans (Nat.gcd_le_left _ (Nat.pos_of_ne_zero h0)) (Nat.le_of_lt ha)
  ) only [↓qt_eq])
theorem Bd.g {n : Nat} {a b : Int} (ha : Bd n a) (hb : Bd n b) : Bd (n + 1) (gI a b) := by
  have h := gN_le ha hb
  have h1 : 1 ≤ 2 ^ n := Nat.one_le_two_pow
  unfold Bd gI
  rw [Nat.pow_succ, Int.natAbs_natCast]
  omega
theorem Bd.dv {n : Nat} {i j : Int} (h0 : j ≠ 0) (h : Bd n j) (hn : n ≤ 8000) : CDvX i j := by
  refine ⟨h0, ?_⟩
  have h2 : j.natAbs < 2 ^ (n + 1) := h.mono (Nat.le_succ n)
  have := PySem.Flt.log2_lt_of (Nat.succ_pos n) h2
  omega
/-! ### gcd, the law's own and the program's -/
theorem max_gN (a b : Int) : maxI 1 (Nat.gcd a.natAbs b.natAbs : Nat) = gI a b := by
  unfold maxI gI gN
  rw [Nat.max_def]
  split <;> split <;> omega
theorem gN_max (a b : Int) : maxI (Nat.gcd a.natAbs b.natAbs : Nat) 1 = gI a b := by
  unfold maxI gI gN
  rw [Nat.max_def]
  split <;> split <;> omega
noncomputable def P_gcd : List PyData → PyData → Prop := fun ds r => ∃ a b : Int, ds = [.int a, .int b] ∧ r = .int (gI a b)
/-- above / below as the law makes it -/
noncomputable def fracF (a b : Int) : Fr := (a.fdiv (if b < 0 then -gI a b else gI a b), b.fdiv (if b < 0 then -gI a b else gI a b))
noncomputable def P_frac : List PyData → PyData → Prop := fun ds r => ∃ a b : Int, ds = [.int a, .int b] ∧ Bd 7990 a ∧ Bd 7990 b ∧ r = fr (fracF a b)
theorem Sz.frac {n : Nat} {a b : Int} (ha : Bd n a) (hb : Bd n b) : Sz n (fracF a b) := ⟨ha.fdiv _, hb.fdiv _⟩
noncomputable def addF (p q : Fr) : Fr := fracF (p.1 * q.2 + q.1 * p.2) (p.2 * q.2)
theorem Sz.add {n m : Nat} {p q : Fr} (hp : Sz n p) (hq : Sz m q) : Sz (n + m + 1) (addF p q) :=
  Sz.frac (Bd.add (hp.1.mul hq.2) (by rw [Nat.add_comm n m]; exact hq.1.mul hp.2)) ((hp.2.mul hq.2).mono (Nat.le_succ _))
noncomputable def P_add : List PyData → PyData → Prop := fun ds r => ∃ (n m : Nat) (p q : Fr), ds = [fr p, fr q] ∧ Sz n p ∧ Sz m q ∧ n + m ≤ 7800 ∧ r = fr (addF p q)
section
variable {K : Fg} {G G' G1 G2 : Gam} {s s1 s2 s3 s' : Bag} {ta tb tc te : TE} {t u : TT} {x y z : PyData} {E : XK}
theorem ev_fst {p : Fr} (h : EvG K te G s (fr p) s') : EvG K (tOp (rIx K) te (tC (.int 0))) G s (.int p.1) s' := ev_ixT h ev_int rfl
theorem ev_snd {p : Fr} (h : EvG K te G s (fr p) s') : EvG K (tOp (rIx K) te (tC (.int 1))) G s (.int p.2) s' := ev_ixT h ev_int rfl
theorem ev_gcd {a b : Int} (h1 : EvG K ta G s (.int a) s1) (h2 : EvG K tb G s1 (.int b) s2) : EvG K (tCall (spP K P_gcd) [] E (tCons ta (tCons tb tNil))) G s (.int (gI a b)) s2 :=
  ev_call (ea_cons h1 (ea_cons h2 ea_nil)) (fun _ => .nil) ⟨a, b, rfl, rfl⟩
theorem ev_frac {a b : Int} (h1 : EvG K ta G s (.int a) s1) (h2 : EvG K tb G s1 (.int b) s2) (ha : Bd 4000 a) (hb : Bd 4000 b) : EvG K (tCall (spP K P_frac) [] E (tCons ta (tCons tb tNil))) G s (fr (fracF a b)) s2 :=
  ev_call (ea_cons h1 (ea_cons h2 ea_nil)) (fun _ => .nil) ⟨a, b, rfl, ha.mono (by decide), hb.mono (by decide), rfl⟩
theorem ev_fracN {a b : Int} (h1 : EvG K ta G s (.int a) s1) (h2 : EvG K tb G s1 (.int b) s2) (ha : Bd 7990 a) (hb : Bd 7990 b) : EvG K (tCall (spP K P_frac) [] E (tCons ta (tCons tb tNil))) G s (fr (fracF a b)) s2 :=
  ev_call (ea_cons h1 (ea_cons h2 ea_nil)) (fun _ => .nil) ⟨a, b, rfl, ha, hb, rfl⟩
end
theorem less_none {K : Fg} {H : Hp} {a : Addr} {xs : List V} (h : SqL K H a xs) : SqL K (less H fun _ => False) a xs := ex_l (fun a o h => less_of (fun z => z) h) h
theorem ev_ixDisp {K : Fg} {G : Gam} {s s1 s2 : Bag} {ta : TA} {tb : TE} {xs : List PyData} {x : PyData} {i : Int} (h : EvA K ta G s xs s1) (hl : xs.length ≤ 16000000) (hb : EvG K tb G s1 (.int i) s2) (he : atI xs i = some x) : EvG K (tOp (rIx K) (tLst ta) tb) G s x s2 := ev_ixL (ev_lst h hl) hb he
/-! ### draws -/
noncomputable def cellOf (s : Bag) : Int := if s.cs.length = 0 then 0 else s.cs.getD (s.i.fmod s.cs.length).toNat 0
noncomputable def pull (s : Bag) (n : Int) : Int × Bag :=
  if 0 < s.cs.length ∧ 1000000000000000000 ≤ absI (cellOf s) then ((cellOf s).fmod n, ⟨s.cs.set (s.i.fmod s.cs.length).toNat ((cellOf s).fdiv n), s.i, s.j⟩)
  else
    let j := (s.j * 48271 + (cellOf s).fmod 1000003 + (s.i + 1)).fmod 2147483647
    ((((j * 69621 + j.fdiv 65536).fmod 2147483629).fdiv 32).fmod n, ⟨s.cs, s.i + 1, j⟩)
noncomputable def pullV (s : Bag) (n : Int) : Int := (pull s n).1
noncomputable def pullS (s : Bag) (n : Int) : Bag := (pull s n).2
theorem fmod_range (a : Int) {n : Int} (h : 0 < n) : 0 ≤ a.fmod n ∧ a.fmod n < n := by
  rw [Int.fmod_eq_emod_of_nonneg _ (Int.le_of_lt h)]
  exact ⟨Int.emod_nonneg _ (by omega), Int.emod_lt_of_pos _ h⟩
theorem pullV_range (s : Bag) {n : Int} (h : 0 < n) : 0 ≤ pullV s n ∧ pullV s n < n := by
  unfold pullV pull
  split
  · exact fmod_range _ h
  · exact fmod_range _ h
theorem pullS_ok {s : Bag} (n : Int) (h : s.ok) : (pullS s n).ok := qt_of (by simp (disch := with_unfolding_all
  obtain ⟨h1, h2, h3⟩ := h
  unfold pullS pull
  split
  · exact ⟨by show (List.set _ _ _).length ≤ 63; rw [List.length_set]; exact h1, h2, h3⟩
  · have := fmod_range (s.j * 48271 + (cellOf s).fmod 1000003 + (s.i + 1)) (n := 2147483647) (by decide)
    exact ⟨h1, this.1, this.2⟩
  ) only [↓qt_eq])
noncomputable def P_pull : Bag → List PyData → PyData → Bag → Prop := fun s ds r s' => ∃ n : Int, ds = [.int n] ∧ 0 < n ∧ n < 1000000000000 ∧ r = .int (pullV s n) ∧ s' = pullS s n
section
variable {K : Fg} {G G' G1 G2 : Gam} {s s1 s2 s3 s' : Bag} {ta tb tc te : TE} {t u : TT} {x y z : PyData} {E : XK}
theorem ev_pull {i : Nat} {n : Int} (hi : G[i]? = some .bag) (h : EvG K ta G s (.int n) s1) (h0 : 0 < n) (h1 : n < 1000000000000) : EvG K (tCall (spB K P_pull) [] E (tCons (tVar i) (tCons ta tNil))) G s (.int (pullV s1 n)) (pullS s1 n) :=
  ev_callB hi (ea_cons h ea_nil) ⟨n, rfl, h0, h1, rfl, rfl⟩
end
/-! ### drawn numbers -/
noncomputable def menu (l : List Int) (i : Int) : Int := l.getD i.toNat 0
theorem menu_at {l : List Int} {i : Int} (h0 : 0 ≤ i) (h1 : i < l.length) : atI (l.map PyData.int) i = some (.int (menu l i)) := qt_of (by simp (disch := with_unfolding_all
  obtain ⟨j, rfl⟩ : ∃ j : Nat, i = (j : Int) := ⟨i.toNat, by omega⟩
  have hj : j < l.length := by omega
  refine atI_nat ?_
  unfold menu
  rw [List.getElem?_map, List.getElem?_eq_getElem hj, Int.toNat_natCast, List.getD_eq_getElem?_getD, List.getElem?_eq_getElem hj]
  rfl
  ) only [↓qt_eq])
theorem menu_mem {l : List Int} {i : Int} (h0 : 0 ≤ i) (h1 : i < l.length) : menu l i ∈ l := qt_of (by simp (disch := with_unfolding_all
  obtain ⟨j, rfl⟩ : ∃ j : Nat, i = (j : Int) := ⟨i.toNat, by omega⟩
  have hj : j < l.length := by omega
  unfold menu
  rw [Int.toNat_natCast, List.getD_eq_getElem?_getD, List.getElem?_eq_getElem hj]
  exact List.getElem_mem hj
  ) only [↓qt_eq])
noncomputable def partOf (s : Bag) : Fr := fracF (pullV s 13 - 6) (menu [1, 1, 2, 3] (pullV (pullS s 13) 4))
noncomputable def partS (s : Bag) : Bag := pullS (pullS s 13) 4
noncomputable def P_part : Bag → List PyData → PyData → Bag → Prop := fun s ds r s' => ds = [] ∧ r = fr (partOf s) ∧ s' = partS s
theorem ev_b0 {K : Fg} {G : Gam} {s s' : Bag} {x : PyData} {E : XK} {i : Nat} {P : Bag → List PyData → PyData → Bag → Prop} (hi : G[i]? = some .bag) (hp : P s [] x s') : EvG K (tCall (spB K P) [] E (tCons (tVar i) tNil)) G s x s' := ev_callB hi ea_nil hp
theorem ev_part {K : Fg} {G : Gam} {s : Bag} {E : XK} {i : Nat} (hi : G[i]? = some .bag) : EvG K (tCall (spB K P_part) [] E (tCons (tVar i) tNil)) G s (fr (partOf s)) (partS s) := ev_b0 hi ⟨rfl, rfl, rfl⟩
theorem partOf_sz (s : Bag) : Sz 10 (partOf s) := qt_of (by simp (disch := with_unfolding_all
  obtain ⟨z1, z2⟩ := pullV_range s (n := 13) (by decide)
  obtain ⟨y1, y2⟩ := pullV_range (pullS s 13) (n := 4) (by decide)
  have hm := menu_mem (l := [1, 1, 2, 3]) y1 y2
  unfold partOf
  generalize menu _ _ = m at hm
  generalize pullV s 13 = y at *
  simp only [List.mem_cons, List.mem_singleton, List.not_mem_nil, or_false] at hm
  refine Sz.frac ?_ ?_
  · unfold Bd; omega
  · unfold Bd; omega
  ) only [↓qt_eq])
theorem partS_ok {s : Bag} (h : s.ok) : (partS s).ok := pullS_ok _ (pullS_ok _ h)
/-! ### alike: what is asked of a thing and itself -/
mutual
noncomputable def okD : Nat → PyData → Bool
  | _, .none => true
  | _, .bool _ => true
  | _, .int _ => true
  | _, .str _ => true
  | 0, .list _ => false
  | 0, .tuple _ => false
  | n + 1, .list xs => decide (xs.length ≤ 1000000) && okAll n xs
  | n + 1, .tuple xs => decide (xs.length ≤ 1000000) && okAll n xs
  | _, .dict _ => false
noncomputable def okAll : Nat → List PyData → Bool
  | _, [] => true
  | n, x :: xs => okD n x && okAll n xs
end
theorem okAll_get : ∀ {n : Nat} {xs : List PyData} {i : Nat} {x : PyData}, okAll n xs = true → xs[i]? = some x → okD n x = true
  | _, [], _, _, _, h => by simp at h
  | n, y :: xs, 0, x, h, e => by
    have e := Option.some.inj e
    subst e
    unfold okAll at h
    exact (Bool.and_eq_true_iff.mp h).1
  | n, y :: xs, i + 1, x, h, e => by
    unfold okAll at h
    exact okAll_get (i := i) (Bool.and_eq_true_iff.mp h).2 e
noncomputable def P_like : Nat → List PyData → PyData → Prop
  | 0 => fun _ _ => False
  | n + 1 => fun ds r => ∃ x : PyData, ds = [x, x] ∧ okD n x = true ∧ r = .bool true
section
variable {K : Fg} {G G' G1 G2 : Gam} {s s1 s2 s3 s' : Bag} {ta tb tc te : TE} {t u : TT} {x y z : PyData} {E : XK}
theorem ev_like {n : Nat} (h1 : EvG K ta G s x s1) (h2 : EvG K tb G s1 y s2) (e : x = y) (hx : okD n y = true) : EvG K (tCall (spP K (P_like (n + 1))) [] E (tCons ta (tCons tb tNil))) G s (.bool true) s2 := by
  subst e
  exact ev_call (ea_cons h1 (ea_cons h2 ea_nil)) (fun _ => .nil) ⟨x, rfl, hx, rfl⟩
end
end U

end
section
namespace U
open PySem PyProof.Rows L2 Evl
/-! what plain data are -/
theorem okD_sh (n : Nat) : ∀ x : PyData, okD n x = true → x.depth ≤ n ∧ PyData.eqv x x = true := qt_of (by simp (disch := with_unfolding_all
  induction n with
  | zero =>
    intro x h
    cases x with
    | none => exact ⟨Nat.le_refl _, rfl⟩
    | bool b => exact ⟨Nat.le_refl _, by show (b == b) = true; simp⟩
    | int i => exact ⟨Nat.le_refl _, by show (i == i) = true; simp⟩
    | str s => exact ⟨Nat.le_refl _, by show (s == s) = true; simp⟩
    | list xs => cases h
    | tuple xs => cases h
    | dict xs => cases h
  | succ n ih =>
    have all : ∀ xs : List PyData, okAll n xs = true → PyData.depthAll xs ≤ n ∧ PyData.eqvAll xs xs = true := fun xs => by
      induction xs with
      | nil => exact fun _ => ⟨Nat.zero_le _, rfl⟩
      | cons a l ih2 =>
        intro h
        unfold okAll at h
        obtain ⟨h1, h2⟩ := Bool.and_eq_true_iff.mp h
        obtain ⟨a2, a3⟩ := ih a h1
        obtain ⟨b2, b3⟩ := ih2 h2
        refine ⟨?_, ?_⟩
        · show max a.depth (PyData.depthAll l) ≤ n
          exact Nat.max_le.mpr ⟨a2, b2⟩
        · show (PyData.eqv a a && PyData.eqvAll l l) = true
          rw [a3, b3]; rfl
    intro x h
    cases x with
    | none => exact ⟨Nat.zero_le _, rfl⟩
    | bool b => exact ⟨Nat.zero_le _, by show (b == b) = true; simp⟩
    | int i => exact ⟨Nat.zero_le _, by show (i == i) = true; simp⟩
    | str s => exact ⟨Nat.zero_le _, by show (s == s) = true; simp⟩
    | list xs =>
      unfold okD at h
      obtain ⟨h1, h2⟩ := Bool.and_eq_true_iff.mp h
      obtain ⟨b2, b3⟩ := all xs h2
      exact ⟨Nat.succ_le_succ b2, b3⟩
    | tuple xs =>
      unfold okD at h
      obtain ⟨h1, h2⟩ := Bool.and_eq_true_iff.mp h
      obtain ⟨b2, b3⟩ := all xs h2
      exact ⟨Nat.succ_le_succ b2, b3⟩
    | dict xs => cases h
  ) only [↓qt_eq])
theorem canAll_of : ∀ {xs : List PyData}, (∀ x ∈ xs, x.canLay0 = true) → PyData.canLayAll0 xs = true
  | [], _ => rfl
  | x :: xs, h => by
    show (x.canLay0 && PyData.canLayAll0 xs) = true
    rw [h x (List.mem_cons_self ..), canAll_of fun y hy => h y (List.mem_cons_of_mem _ hy)]
    rfl
theorem can_tup {xs : List PyData} (h : ∀ x ∈ xs, x.canLay0 = true) : (PyData.tuple xs).canLay0 = true := canAll_of h
theorem can_fr (p : Fr) : (fr p).canLay0 = true := rfl
theorem can_frs (ps : List Fr) : (PyData.tuple (ps.map fr)).canLay0 = true := can_tup fun x hx => by
  obtain ⟨p, _, rfl⟩ := List.mem_map.mp hx
  exact can_fr p
theorem shaped_ok {n : Nat} {x : PyData} (h1 : x.canLay0 = true) (h : okD n x = true) (hn : n ≤ 60) : SeqAt.shaped x = true := by
  obtain ⟨h2, _⟩ := okD_sh n x h
  unfold SeqAt.shaped
  rw [h1, decide_eq_true (show x.depth ≤ 64 by omega)]
  rfl
theorem okAll_of {n : Nat} : ∀ {xs : List PyData}, (∀ x ∈ xs, okD n x = true) → okAll n xs = true
  | [], _ => rfl
  | x :: xs, h => by
    unfold okAll
    rw [h x (List.mem_cons_self ..), okAll_of fun y hy => h y (List.mem_cons_of_mem _ hy)]
    rfl
theorem okD_list {n : Nat} {xs : List PyData} (hl : xs.length ≤ 1000000) (h : ∀ x ∈ xs, okD n x = true) : okD (n + 1) (.list xs) = true := by
  unfold okD
  rw [decide_eq_true hl, okAll_of h]
  rfl
theorem okD_tup {n : Nat} {xs : List PyData} (hl : xs.length ≤ 1000000) (h : ∀ x ∈ xs, okD n x = true) : okD (n + 1) (.tuple xs) = true := by
  unfold okD
  rw [decide_eq_true hl, okAll_of h]
  rfl
theorem okD_fr (n : Nat) (p : Fr) : okD (n + 1) (fr p) = true := by cases n <;> rfl
theorem okD_frs {n : Nat} {ps : List Fr} (hl : ps.length ≤ 1000000) : okD (n + 2) (.tuple (ps.map fr)) = true := okD_tup (by rw [List.length_map]; exact hl) fun x hx => by
  obtain ⟨p, _, rfl⟩ := List.mem_map.mp hx
  exact okD_fr n p
end U

end
section
namespace U
open PySem PyProof.Rows L2 Evl
/-- list + list, both of them only read -/
noncomputable def rCatL (K : Fg) : R2 := fun x y H Q => ∃ a b xs ys, x = .ref a ∧ y = .ref b ∧ SqL K H a xs ∧ SqL K H b ys ∧ xs.length + ys.length ≤ sizeLine ∧ ∀ p, H p = none → Q (.ref p) (upd H p (.lst (xs ++ ys)))
section
variable {X : Cx}
theorem op_catL : OpR X (binaryOp .Add) (rCatL X.K) := by
  intro pins s σ H x y v u Q I rx ry h
  obtain ⟨l, b, xs, zs, rfl, rfl, hH, hB, hz, q⟩ := h
  cases rx
  cases ry
  obtain ⟨its, r, pl, hl⟩ := I.list hH
  obtain ⟨its2, r2, pl2, hl2⟩ := I.list hB
  have h1 := r.length
  have h2 := r2.length
  obtain ⟨⟨cls, dd, data, sl⟩, n, ho, hc, _, hd⟩ := pl
  obtain ⟨⟨cls2, dd2, data2, sl2⟩, n2, ho2, hc2, _, hd2⟩ := pl2
  simp only at hc hd hc2 hd2
  subst hc hd hc2 hd2
  refine concat_meets ⟨_, ho, rfl⟩ ⟨_, ho2, rfl⟩ noFill_list_add seq_list_add F.slot_list_add F.entry_list_add (F.args_list_add_2 _ _) (list_addW l b its.toArray its2.toArray n n2 dd dd2 sl sl2 (by rw [List.size_toArray, List.size_toArray]; omega)) ⟨ho, ho2, ?_⟩
  have ea : its.toArray ++ its2.toArray = (its ++ its2).toArray := by simp
  rw [ea]
  exact ⟨.ref _, _, I.lnew (t' := s.toks) (r.append r2) (by rw [List.length_append]; omega), rfl, q _ I.fresh⟩
end
section
variable {K : Fg} {G G1 G2 : Gam} {s s1 s2 s3 s' : Bag} {ta tb tc te : TE} {t u : TT} {x y z : PyData}
theorem dpa_nil {H : Hp} {vs : List V} {xs : List PyData} (h : DpAll K H vs xs) : vs = [] ↔ xs = [] := by
  cases h with
  | nil => simp
  | cons _ _ => simp
theorem ev_catA {xs ys : List PyData} (ha : EvG K ta G s (.tuple xs) s1) (hb : EvG K tb G s1 (.tuple ys) s2) (hl : xs.length + ys.length ≤ 16000000) : EvG K (tOp (rCatA K) ta tb) G s (.tuple (xs ++ ys)) s2 := fun W B ad H0 H σ S Q q =>
  ha W B ad H0 H σ S _ fun v H1 S1 e1 d1 => hb W B ad H0 H1 σ S1 _ fun w H2 S2 e2 d2 => by
    cases dp_mono e2.l d1 with
    | tup g t =>
      cases d2 with
      | tup g2 t2 =>
        refine ⟨_, _, _, _, rfl, rfl, ex_t less_ex g, ex_t less_ex g2, by rw [dpa_len t, dpa_len t2]; exact sz_line hl, fun z => ?_, fun z1 z2 => ?_, fun z1 z2 p hp => new_tup S2 (dpa_app t t2) hp fun v H3 S3 e3 d3 => q v H3 S3 ((e1.trans e2).trans e3) d3⟩
        · have e := (dpa_nil t).mp z
          subst e
          exact q _ H2 S2 (e1.trans e2) (.tup g2 t2)
        · have e := (dpa_nil t2).mp z2
          subst e
          exact q _ H2 S2 (e1.trans e2) (by rw [List.append_nil]; exact .tup g t)
theorem cutD_whole {xs : List PyData} {lo hi : Option Int} (h : HT.sIx xs.length 0 lo = 0 ∧ HT.sIx xs.length xs.length hi = xs.length) : cutD xs lo hi = xs := by
  unfold cutD
  rw [h.1, h.2, List.drop_zero, Nat.sub_zero, List.take_length]
theorem ev_slA {xs : List PyData} {tl th : TO} {lo hi : Option Int} (h : EvG K te G s (.tuple xs) s1) (h1 : EvO K tl G s1 lo s2) (h2 : EvO K th G s2 hi s3) : EvG K (tSl (rSlA K) te tl th) G s (.tuple (cutD xs lo hi)) s3 := fun W B ad H0 H σ S Q q =>
  h W B ad H0 H σ S _ fun v H1 S1 e1 d1 => h1 W B ad H0 H1 σ S1 _ fun H2 S2 e2 => h2 W B ad H0 H2 σ S2 _ fun H3 S3 e3 => by
    cases dp_mono (e2.trans e3).l d1 with
    | tup g t =>
      have l := dpa_len t
      refine ⟨_, _, rfl, ex_t less_ex g, fun z => ?_, fun z p hp => new_tup S3 (dpa_cut t lo hi) hp fun v H4 S4 e4 d4 => q v H4 S4 ((e1.trans (e2.trans e3)).trans e4) d4⟩
      rw [l] at z
      exact q _ H3 S3 (e1.trans (e2.trans e3)) (by rw [cutD_whole z]; exact .tup g t)
end
end U

end
section
namespace U
open PySem PyProof.Rows L2 Evl
section
variable {K : Fg} {G G1 G2 : Gam} {s s1 s2 s3 s' : Bag} {ta tb tc te : TE} {t u : TT} {x y z : PyData}
/-! ### in, not in: whole numbers -/
/-! ### zip -/
/-! ### a comprehension that draws -/
noncomputable def itB (N : Bag → Bag) : Nat → Bag → Bag
  | 0, s => s
  | n + 1, s => N (itB N n s)
noncomputable def drawn (F : Bag → PyData) (N : Bag → Bag) (n : Nat) (s : Bag) : List PyData := (List.range n).map fun i => F (itB N i s)
theorem ev_lcDraw {wi : TI} {g : TG} {vs : List Nat} {ds : List PyData} (h : Src K wi G s ds s1) (F : Bag → PyData) (N : Bag → Bag) (hu : ∀ i e, i ∈ vs → G[i]? = some e → e = .un) (hz : ds.length ≤ 16000000)
    (hs : ∀ x s, x ∈ ds → ∃ Gt, Tgt K g vs G x Gt ∧ EvG K te Gt s (F s) (N s)) : EvG K (tLc wi g tYes te vs) G s (.list (drawn F N ds.length s1)) (itB N ds.length s1) := qt_of (by simp (disch := with_unfolding_all
  have k := ev_lc (K := K) (te := te) (tt := tYes) h (fun i => some (F (itB N i s1))) (fun i => itB N i s1) rfl hu hz fun i x hx => by
    obtain ⟨Gt, a, b⟩ := hs x (itB N i s1) (List.mem_of_getElem? hx)
    exact ⟨Gt, _, a, et_yes, fun y hy => by cases hy; exact b, fun hn => by cases hn⟩
  have e : (List.range ds.length).filterMap (fun i => some (F (itB N i s1))) = drawn F N ds.length s1 := by
    unfold drawn
    exact congrFun List.filterMap_eq_map' _
  rw [e] at k
  exact k
  ) only [↓qt_eq])
end
end U

end
section
namespace U
open PySem PyProof.Rows L2 Evl
local macro_rules | `(tactic| walk_at "ev1") => `(tactic| first
  | exact ev_int | exact ev_bl | exact ev_str | exact ev_non | exact ev_var rfl | exact ea_nil | exact eo_none
  | with_reducible apply ev_ixDisp | with_reducible apply ev_fst | with_reducible apply ev_snd
  | with_reducible apply ev_add | with_reducible apply ev_sub | with_reducible apply ev_mul | with_reducible apply ev_fdiv | with_reducible apply ev_mod | with_reducible apply ev_pow
  | with_reducible apply ev_lt | with_reducible apply ev_le | with_reducible apply ev_gt | with_reducible apply ev_ge
  | with_reducible apply ev_eqI | with_reducible apply ev_neI
  | with_reducible apply ev_neg | with_reducible apply ev_subB | with_reducible apply ev_isNo | with_reducible apply ev_noNo
  | with_reducible apply ev_not | with_reducible apply et_test | with_reducible apply et_B | with_reducible apply et_not
  | with_reducible apply ev_abs | with_reducible apply ev_max | with_reducible apply ev_min | with_reducible apply ev_intB
  | with_reducible apply ev_gcd | with_reducible apply ev_frac | with_reducible apply ev_fadd | with_reducible apply ev_sign | with_reducible apply ev_cmpF
  | with_reducible apply ev_pull rfl
  | with_reducible apply ev_like
  | with_reducible apply ev_tup | with_reducible apply ev_lst | with_reducible apply ea_cons | with_reducible apply eo_some
  | with_reducible apply ev_order | exact ev_part rfl | exact ev_far rfl | exact ev_farPart rfl
  | (with_reducible show List.length _ ≤ 16000000; (simp; done)) | (with_reducible show (0 : Int) < _; decide) | (with_reducible show (_ : Int) < 1000000000000; decide) | (with_reducible show CPow _ _; (unfold CPow; decide)) | (with_reducible show CNz _ _; (unfold CNz; decide))
  | with_reducible apply sg_ret | with_reducible apply sg_asg | with_reducible apply sg_next)
local macro_rules | `(tactic| walk_at "ln") => `(tactic| first | walk_at "ev1" | with_reducible apply sg_seq)
section

section
variable {K : Fg}
-- slots of order: 0 one, 1 other, 2 gap
noncomputable def t__law_gcd (K : Fg) : TS := (tSeq (tAsg (tCB rAbs (tCons (tVar 0) tNil)) (gName 0))
  (tSeq (tAsg (tCB rAbs (tCons (tVar 1) tNil)) (gName 1))
  (tSeq (tWhile (tTest (tOp (rI0 fun i j => V.bl (decide (j < i))) (tVar 1) (tC (V.int 0)))) (tSeq (tAsg (tVar 1) (gName 2))
  (tSeq (tAsg (tOp (rI CNz fun i j => V.int (i.fmod j)) (tVar 0) (tVar 1)) (gName 1))
  (tAsg (tVar 2) (gName 0)))))
  (tRet (tCB rMx (tCons (tC (V.int 1)) (tCons (tVar 0) tNil)))))))
-- slots of _law_gcd: 0 _law_one, 1 _law_other, 2 _law_kept
theorem ln__law_gcd : ∀ ds r, P_gcd ds r → ds.length = 2 := fun ds r h => by obtain ⟨p, q, rfl, _⟩ := h; rfl
theorem rd__law_gcd {ds r} (h : P_gcd ds r) (b : Bag) : SG K (t__law_gcd K) (frame 3 ds) b (.rt r b) := qt_of (by simp (disch := with_unfolding_all
  obtain ⟨x, y, rfl, rfl⟩ := h
  unfold t__law_gcd
  obtain ⟨n, h1, h2⟩ := eu_end y.natAbs x.natAbs
  apply sg_is
  apply sg_seq
  (repeat' walk_at "ev1")
  apply sg_seq
  (repeat' walk_at "ev1")
  apply sg_seq
  · refine sg_while (s' := b) (fun i => [.d (.int (eu x.natAbs y.natAbs i).1), .d (.int (eu x.natAbs y.natAbs i).2), .un]) (fun _ => b) (fun _ => b) n ?_ rfl (fun i hi => ?_) (fun i hi => .inl ?_) ?_
    · show Wk [.d (.int (absI x)), .d (.int (absI y)), .un] _
      rw [absI_nat, absI_nat]
      exact .refl _
    · refine et_is (by (repeat' walk_at "ev1")) ?_
      have := h2 i hi
      simp; omega
    · have hy := h2 i hi
      refine sg_wk (G1 := [.d (.int (eu x.natAbs y.natAbs (i + 1)).1), .d (.int (eu x.natAbs y.natAbs (i + 1)).2), .d (.int (eu x.natAbs y.natAbs i).2)]) ?_ (.cons (.cons (.drop .nil)))
      apply sg_is
      (repeat' walk_at "ln")
      · show ((eu x.natAbs y.natAbs i).2 : Int) ≠ 0
        omega
      · rw [fmod_nat]
        rfl
    · refine et_is (by (repeat' walk_at "ev1")) ?_
      rw [h1]
      rfl
  · rw [h1]
    (repeat' walk_at "ev1")
  · show Out.rt (.int (maxI 1 _)) b = _
    rw [max_gN]
  ) only [↓qt_eq])
noncomputable def t__law_frac (K : Fg) : TS := (tSeq (tAsg (tCall (spP K P_gcd) [] E0 (tCons (tVar 0) (tCons (tVar 1) tNil))) (gName 2))
  (tSeq (tIfS (tTest (tOp (rI0 fun i j => V.bl (decide (i < j))) (tVar 1) (tC (V.int 0)))) (tAsg (tUn (rU fun i => V.int (-i)) (tVar 2)) (gName 2)) tNext)
  (tRet (tTup (tCons (tOp (rI CDvX fun i j => V.int (i.fdiv j)) (tVar 0) (tVar 2)) (tCons (tOp (rI CDvX fun i j => V.int (i.fdiv j)) (tVar 1) (tVar 2)) tNil))))))
-- slots of _law_frac: 0 _law_above, 1 _law_below, 2 _law_divisor
theorem ln__law_frac : ∀ ds r, P_frac ds r → ds.length = 2 := fun ds r h => by obtain ⟨p, q, rfl, _⟩ := h; rfl
theorem rd__law_frac {ds r} (h : P_frac ds r) (b : Bag) : SG K (t__law_frac K) (frame 3 ds) b (.rt r b) := qt_of (by simp (disch := with_unfolding_all
  obtain ⟨x, y, rfl, hx, hy, rfl⟩ := h
  unfold t__law_frac
  have hg := gI_pos x y
  have hb : Bd 7991 (gI x y) := Bd.g hx hy
  apply sg_seq
  (repeat' walk_at "ev1")
  apply sg_when
  (repeat' walk_at "ev1")
  · intro h
    have h := of_decide_eq_true h
    apply sg_is
    (repeat' walk_at "ln")
    · exact Bd.dv (by omega) hb.neg (by decide)
    · exact Bd.dv (by omega) hb.neg (by decide)
    · show Out.rt (fr (x.fdiv (-gI x y), y.fdiv (-gI x y))) b = Out.rt (fr (fracF x y)) b
      unfold fracF
      rw [if_pos h]
  · intro h
    have h := of_decide_eq_false h
    apply sg_is
    (repeat' walk_at "ln")
    · exact Bd.dv (by omega) hb (by decide)
    · exact Bd.dv (by omega) hb (by decide)
    · show Out.rt (fr (x.fdiv (gI x y), y.fdiv (gI x y))) b = Out.rt (fr (fracF x y)) b
      unfold fracF
      rw [if_neg h]
  ) only [↓qt_eq])
noncomputable def t__law_add (K : Fg) : TS := (tRet (tCall (spP K P_frac) [] E0 (tCons (tOp (rI0 fun i j => V.int (i + j)) (tOp (rI CMulW fun i j => V.int (i * j)) (tOp (rIx K) (tVar 0) (tC (V.int 0))) (tOp (rIx K) (tVar 1) (tC (V.int 1)))) (tOp (rI CMulW fun i j => V.int (i * j)) (tOp (rIx K) (tVar 1) (tC (V.int 0))) (tOp (rIx K) (tVar 0) (tC (V.int 1))))) (tCons (tOp (rI CMulW fun i j => V.int (i * j)) (tOp (rIx K) (tVar 0) (tC (V.int 1))) (tOp (rIx K) (tVar 1) (tC (V.int 1)))) tNil))))
-- slots of _law_add: 0 _law_one, 1 _law_other
theorem ln__law_add : ∀ ds r, P_add ds r → ds.length = 2 := fun ds r h => by obtain ⟨_, _, p, q, rfl, _⟩ := h; rfl
theorem rd__law_add {ds r} (h : P_add ds r) (b : Bag) : SG K (t__law_add K) (frame 2 ds) b (.rt r b) := qt_of (by simp (disch := with_unfolding_all
  obtain ⟨n, m, p, q, rfl, hp, hq, hl, rfl⟩ := h
  exact sg_ret (ev_fracN (ev_add (ev_mul (ev_fst (ev_var rfl)) (ev_snd (ev_var rfl)) (hp.1.cm hq.2 (by omega))) (ev_mul (ev_fst (ev_var rfl)) (ev_snd (ev_var rfl)) (hq.1.cm hp.2 (by omega)))) (ev_mul (ev_snd (ev_var rfl)) (ev_snd (ev_var rfl)) (hp.2.cm hq.2 (by omega)))
    ((Bd.add (hp.1.mul hq.2) (by rw [Nat.add_comm n m]; exact hq.1.mul hp.2)).mono (by omega)) ((hp.2.mul hq.2).mono (by omega)))
  ) only [↓qt_eq])
-- slots of _law_sign: 0 _law_number
-- slots of _law_cmp: 0 _law_one, 1 _law_other
noncomputable def t__law_part (K : Fg) : TS := (tRet (tCall (spP K P_frac) [] E0 (tCons (tOp (rI0 fun i j => V.int (i - j)) (tCall (spB K P_pull) [] E0 (tCons (tVar 0) (tCons (tC (V.int 13)) tNil))) (tC (V.int 6))) (tCons (tOp (rIx K) (tLst (tCons (tC (V.int 1)) (tCons (tC (V.int 1)) (tCons (tC (V.int 2)) (tCons (tC (V.int 3)) tNil))))) (tCall (spB K P_pull) [] E0 (tCons (tVar 0) (tCons (tC (V.int 4)) tNil)))) tNil))))
-- slots of _law_part: 0 _law_bag_here
theorem ln__law_part : ∀ s ds r s', P_part s ds r s' → ds.length + 1 = 1 := fun s ds r s' h => by obtain ⟨rfl, _⟩ := h; rfl
theorem rd__law_part {s ds r s'} (h : P_part s ds r s') (ok : s.ok) : SG K (t__law_part K) (.bag :: frame 0 ds) s (.rt r s') := qt_of (by simp (disch := with_unfolding_all
  obtain ⟨rfl, rfl, rfl⟩ := h
  unfold t__law_part
  obtain ⟨z1, z2⟩ := pullV_range s (n := 13) (by decide)
  obtain ⟨y1, y2⟩ := pullV_range (pullS s 13) (n := 4) (by decide)
  have hm := menu_mem (l := [1, 1, 2, 3]) y1 y2
  apply sg_is
  (repeat' walk_at "ln")
  all_goals first | exact menu_at (l := [1, 1, 2, 3]) y1 y2 | skip
  · unfold Bd; omega
  · refine Bd.mono (n := 10) ?_ (by decide)
    generalize menu _ _ = m at hm
    simp only [List.mem_cons, List.not_mem_nil, or_false] at hm
    unfold Bd; omega
  · rfl
  ) only [↓qt_eq])
-- slots of _law_far: 0 _law_bag_here
-- slots of _law_far_part: 0 _law_bag_here
noncomputable def t__law_pull (K : Fg) : TS := (tSeq (tAsg (tOp (rIx K) (tVar 0) (tC (V.int 0))) (gName 2))
  (tSeq (tAsg (tC (V.int 0)) (gName 3))
  (tSeq (tIfS (tTest (tOp (rI0 fun i j => V.bl (decide (j < i))) (tCB (rLenQ K) (tCons (tVar 2) tNil)) (tC (V.int 0)))) (tSeq (tAsg (tOp (rI CNz fun i j => V.int (i.fmod j)) (tOp (rIx K) (tVar 0) (tC (V.int 1))) (tCB (rLenQ K) (tCons (tVar 2) tNil))) (gName 4))
  (tSeq (tAsg (tOp (rIx K) (tVar 2) (tVar 4)) (gName 3))
  (tIfS (tTest (tOp (rI0 fun i j => V.bl (decide (j ≤ i))) (tCB rAbs (tCons (tVar 3) tNil)) (tOp (rI CPow fun i j => V.int (i ^ j.toNat)) (tC (V.int 10)) (tC (V.int 18))))) (tSeq (tAsg (tOp (rI CDvX fun i j => V.int (i.fdiv j)) (tVar 3) (tVar 1)) (gSub (tVar 2) (tVar 4) rSetL))
  (tRet (tOp (rI CNz fun i j => V.int (i.fmod j)) (tVar 3) (tVar 1)))) tNext))) tNext)
  (tSeq (tAsg (tOp (rI0 fun i j => V.int (i + j)) (tOp (rIx K) (tVar 0) (tC (V.int 1))) (tC (V.int 1))) (gSub (tVar 0) (tC (V.int 1)) rSetL))
  (tSeq (tAsg (tOp (rI CNz fun i j => V.int (i.fmod j)) (tOp (rI0 fun i j => V.int (i + j)) (tOp (rI0 fun i j => V.int (i + j)) (tOp (rI CMulW fun i j => V.int (i * j)) (tOp (rIx K) (tVar 0) (tC (V.int 2))) (tC (V.int 48271))) (tOp (rI CNz fun i j => V.int (i.fmod j)) (tVar 3) (tC (V.int 1000003)))) (tOp (rIx K) (tVar 0) (tC (V.int 1)))) (tC (V.int 2147483647))) (gSub (tVar 0) (tC (V.int 2)) rSetL))
  (tRet (tOp (rI CNz fun i j => V.int (i.fmod j)) (tOp (rI CDvX fun i j => V.int (i.fdiv j)) (tOp (rI CNz fun i j => V.int (i.fmod j)) (tOp (rI0 fun i j => V.int (i + j)) (tOp (rI CMulW fun i j => V.int (i * j)) (tOp (rIx K) (tVar 0) (tC (V.int 2))) (tC (V.int 69621))) (tOp (rI CDvX fun i j => V.int (i.fdiv j)) (tOp (rIx K) (tVar 0) (tC (V.int 2))) (tC (V.int 65536)))) (tC (V.int 2147483629))) (tC (V.int 32))) (tVar 1))))))))
-- slots of _law_pull: 0 _law_bag_here, 1 _law_size, 2 _law_cells, 3 _law_cell, 4 _law_spot
theorem ln__law_pull : ∀ s ds r s', P_pull s ds r s' → ds.length + 1 = 2 := fun s ds r s' h => by obtain ⟨n, rfl, _⟩ := h; rfl
theorem bag_ne {H : Hp} {b c : Addr} {s : Bag} (h : BagAt H (some (b, c)) s) : b ≠ c := fun e => by
  have h1 := h.1
  have h2 := h.2.1
  rw [e, h2] at h1
  have h3 := HO.lst.inj (Option.some.inj h1)
  cases hc : s.cs with
  | nil => rw [hc] at h3; cases h3
  | cons x r => rw [hc] at h3; cases h3
theorem rd_pullTail {D : Ends} {H : Hp} {b c : Addr} {s : Bag} {cell n : Int} {x4 : Option V} (hB : BagAt H (some (b, c)) s) (h0 : 0 < n)
    (q : ∀ H', (∀ a o, H a = some o → ¬ InB (some (b, c)) a → H' a = some o) → BagAt H' (some (b, c)) ⟨s.cs, s.i + 1, (s.j * 48271 + cell.fmod 1000003 + (s.i + 1)).fmod 2147483647⟩ →
      D.rt (.int (((((s.j * 48271 + cell.fmod 1000003 + (s.i + 1)).fmod 2147483647) * 69621 + ((s.j * 48271 + cell.fmod 1000003 + (s.i + 1)).fmod 2147483647).fdiv 65536).fmod 2147483629).fdiv 32 |>.fmod n)) H') :
    (tSeq (tAsg (tOp (rI0 fun i j => V.int (i + j)) (tOp (rIx K) (tVar 0) (tC (V.int 1))) (tC (V.int 1))) (gSub (tVar 0) (tC (V.int 1)) rSetL))
  (tSeq (tAsg (tOp (rI CNz fun i j => V.int (i.fmod j)) (tOp (rI0 fun i j => V.int (i + j)) (tOp (rI0 fun i j => V.int (i + j)) (tOp (rI CMulW fun i j => V.int (i * j)) (tOp (rIx K) (tVar 0) (tC (V.int 2))) (tC (V.int 48271))) (tOp (rI CNz fun i j => V.int (i.fmod j)) (tVar 3) (tC (V.int 1000003)))) (tOp (rIx K) (tVar 0) (tC (V.int 1)))) (tC (V.int 2147483647))) (gSub (tVar 0) (tC (V.int 2)) rSetL))
  (tRet (tOp (rI CNz fun i j => V.int (i.fmod j)) (tOp (rI CDvX fun i j => V.int (i.fdiv j)) (tOp (rI CNz fun i j => V.int (i.fmod j)) (tOp (rI0 fun i j => V.int (i + j)) (tOp (rI CMulW fun i j => V.int (i * j)) (tOp (rIx K) (tVar 0) (tC (V.int 2))) (tC (V.int 69621))) (tOp (rI CDvX fun i j => V.int (i.fdiv j)) (tOp (rIx K) (tVar 0) (tC (V.int 2))) (tC (V.int 65536)))) (tC (V.int 2147483629))) (tC (V.int 32))) (tVar 1))))) D
    [some (.ref b), some (.int n), some (.ref c), some (.int cell), x4] H := qt_of (by simp (disch := with_unfolding_all
  obtain ⟨hb, hc, h1, h2, h3⟩ := id hB
  have nbc : b ≠ c := bag_ne hB
  have mulj : ∀ {x y : Int}, 0 ≤ x → x < 2147483647 → Bd 40 y → CMulW x y := fun {x y} a b c => Bd.cm (n := 31) (m := 40) (by unfold Bd; omega) c (by decide)
  generalize hj : (s.j * 48271 + cell.fmod 1000003 + (s.i + 1)).fmod 2147483647 = j at q
  have hjr : 0 ≤ j ∧ j < 2147483647 := by rw [← hj]; exact fmod_range _ (by decide)
  -- bag[1] = bag[1] + 1
  refine ⟨_, rfl, .inl ⟨b, _, 1, .int s.i, rfl, rfl, sq_of hb, rfl, _, _, rfl, rfl, _, rfl, b, _, 1, 1, rfl, rfl, hb, rfl, ?_⟩⟩
  -- bag[2] = ..
  refine ⟨_, rfl, .inl ⟨b, _, 2, .int s.j, rfl, rfl, sq_of upd_same, rfl, _, _, rfl, rfl, mulj h2 h3 (by unfold Bd; decide), _, rfl, _, _, rfl, rfl, (by show (1000003 : Int) ≠ 0; decide), _, _, rfl, rfl, _, rfl, .inl ⟨b, _, 1, .int (s.i + 1), rfl, rfl, sq_of upd_same, rfl, _, _, rfl, rfl, _, _, rfl, rfl, (by show (2147483647 : Int) ≠ 0; decide), _, rfl, b, _, 2, 2, rfl, rfl, upd_same, rfl, ?_⟩⟩⟩
  dsimp only
  rw [hj]
  -- return
  refine ⟨_, rfl, .inl ⟨b, _, 2, .int j, rfl, rfl, sq_of upd_same, rfl, _, _, rfl, rfl, mulj hjr.1 hjr.2 (by unfold Bd; decide), _, rfl, .inl ⟨b, _, 2, .int j, rfl, rfl, sq_of upd_same, rfl, _, _, rfl, rfl, ⟨by decide, by decide⟩, _, _, rfl, rfl, _, _, rfl, rfl, (by show (2147483629 : Int) ≠ 0; decide), _, _, rfl, rfl, ⟨by decide, by decide⟩, _, rfl, _, _, rfl, rfl, ?_, ?_⟩⟩⟩
  · show n ≠ 0
    omega
  · refine q _ (fun a o h z => ?_) ⟨upd_same, ?_, h1, hjr.1, hjr.2⟩
    · have na : a ≠ b := fun e => z ⟨b, c, rfl, .inl e⟩
      rw [upd_ne na, upd_ne na]; exact h
    · rw [upd_ne nbc.symm, upd_ne nbc.symm]; exact hc
  ) only [↓qt_eq])
theorem rd__law_pull {D : Ends} {W : Addr → Prop} {H : Hp} {b c : Addr} {s : Bag} {n : Int} (hB : BagAt H (some (b, c)) s) (h0 : 0 < n) (h1 : n < 1000000000000)
    (q : ∀ (v : V) (H' : Hp), (∀ (a : Addr) (o : HO), H a = some o → ¬InB (some (b, c)) a → H' a = some o) → BagAt H' (some (b, c)) (pullS s n) → Dp K (less H' fun a => W a ∨ InB (some (b, c)) a) v (PyData.int (pullV s n)) → D.rt v H') :
    t__law_pull K D [some (.ref b), some (.int n), none, none, none] H := qt_of (by simp (disch := with_unfolding_all
  obtain ⟨hb, hc, k1, k2, k3⟩ := id hB
  have nbc : b ≠ c := bag_ne hB
  unfold t__law_pull
  refine ⟨_, rfl, .inl ⟨b, _, 0, .ref c, rfl, rfl, sq_of hb, rfl, ?_⟩⟩
  have lc : SqL K H c (s.cs.map V.int) := sq_of hc
  refine ⟨_, rfl, c, _, rfl, .inl lc, _, _, rfl, rfl, _, rfl, ?_⟩
  rw [List.length_map]
  refine ite2 (fun h => ?_) (fun h => ?_)
  · have hl : 0 < s.cs.length := by have := of_decide_eq_true h; omega
    have hsp := fmod_range s.i (n := (s.cs.length : Int)) (by omega)
    obtain ⟨k, hk⟩ : ∃ k : Nat, s.i.fmod s.cs.length = (k : Int) := ⟨(s.i.fmod s.cs.length).toNat, by omega⟩
    have kl : k < s.cs.length := by omega
    have gk : (s.cs.map V.int)[k]? = some (.int s.cs[k]) := by rw [List.getElem?_map, List.getElem?_eq_getElem kl]; rfl
    have ec : cellOf s = s.cs[k] := by
      unfold cellOf
      rw [if_neg (by omega), hk, Int.toNat_natCast, List.getD_eq_getElem?_getD, List.getElem?_eq_getElem kl]
      rfl
    refine ⟨_, rfl, .inl ⟨b, _, 1, .int s.i, rfl, rfl, sq_of hb, rfl, _, rfl, c, _, rfl, .inl lc, _, _, rfl, rfl, ?_, ?_⟩⟩
    · show ((s.cs.map V.int).length : Int) ≠ 0
      rw [List.length_map]; omega
    rw [List.length_map]
    dsimp only
    rw [hk]
    refine ⟨_, rfl, _, rfl, .inl ⟨c, _, (k : Int), _, rfl, rfl, lc, atI_nat gk, ?_⟩⟩
    refine ⟨_, rfl, _, rfl, _, _, rfl, rfl, (by unfold CPow; decide), _, _, rfl, rfl, _, rfl, ?_⟩
    have e18 : (10 : Int) ^ (18 : Int).toNat = 1000000000000000000 := by decide
    rw [e18]
    refine ite2 (fun h2 => ?_) (fun h2 => ?_)
    · have hbig : 1000000000000000000 ≤ absI (cellOf s) := by
        rw [ec]; exact of_decide_eq_true h2
      have ep : pull s n = ((cellOf s).fmod n, ⟨s.cs.set k ((cellOf s).fdiv n), s.i, s.j⟩) := by
        unfold pull
        rw [if_pos ⟨hl, hbig⟩, hk, Int.toNat_natCast]
      refine ⟨_, rfl, _, rfl, _, _, rfl, rfl, ⟨by omega, ?_⟩, _, rfl, _, rfl, c, _, (k : Int), k, rfl, rfl, hc, ?_, ?_⟩
      · have : n.natAbs < 2 ^ 40 := by omega
        have := PySem.Flt.log2_lt_of (by decide) this
        omega
      · exact ixN_nat (by rw [List.length_map]; exact kl)
      · refine ⟨_, rfl, _, rfl, _, _, rfl, rfl, (by show n ≠ 0; omega), ?_⟩
        refine q _ _ (fun a o h z => ?_) ?_ ?_
        · rw [upd_ne (fun e => z ⟨b, c, rfl, .inr e⟩)]; exact h
        · unfold pullS
          rw [ep]
          refine ⟨by rw [upd_ne nbc]; exact hb, ?_, by rw [List.length_set]; exact k1, k2, k3⟩
          rw [upd_same, List.map_set, ec]
        · unfold pullV
          rw [ep, ec]
          exact .int _
    · have hbig : ¬ 1000000000000000000 ≤ absI (cellOf s) := fun z => h2 (decide_eq_true (by rw [ec] at z; exact z))
      refine rd_pullTail hB h0 fun H' e hB' => ?_
      have ep : pull s n = (((((s.j * 48271 + (cellOf s).fmod 1000003 + (s.i + 1)).fmod 2147483647) * 69621 + ((s.j * 48271 + (cellOf s).fmod 1000003 + (s.i + 1)).fmod 2147483647).fdiv 65536).fmod 2147483629).fdiv 32 |>.fmod n, ⟨s.cs, s.i + 1, (s.j * 48271 + (cellOf s).fmod 1000003 + (s.i + 1)).fmod 2147483647⟩) := by
        unfold pull
        rw [if_neg (fun z => hbig z.2)]
      refine q _ _ e ?_ ?_
      · unfold pullS
        rw [ep, ec]; exact hB'
      · unfold pullV
        rw [ep, ec]; exact .int _
  · have hl : s.cs.length = 0 := by
      have := of_decide_eq_false (eq_false_of_ne_true h)
      omega
    have ec : cellOf s = 0 := by unfold cellOf; rw [if_pos hl]
    refine rd_pullTail hB h0 fun H' e hB' => ?_
    have ep : pull s n = (((((s.j * 48271 + (cellOf s).fmod 1000003 + (s.i + 1)).fmod 2147483647) * 69621 + ((s.j * 48271 + (cellOf s).fmod 1000003 + (s.i + 1)).fmod 2147483647).fdiv 65536).fmod 2147483629).fdiv 32 |>.fmod n, ⟨s.cs, s.i + 1, (s.j * 48271 + (cellOf s).fmod 1000003 + (s.i + 1)).fmod 2147483647⟩) := by
      unfold pull
      rw [if_neg (fun z => by omega)]
    refine q _ _ e ?_ ?_
    · unfold pullS
      rw [ep, ec]; exact hB'
    · unfold pullV
      rw [ep, ec]; exact .int _
  ) only [↓qt_eq])
end

end
end U
end
section
namespace U
open PySem PyProof.Rows L2 Evl
theorem kit_NoneType_bool : kitB "NoneType" "bool" = some false := by decide +kernel
theorem kit_NoneType_int : kitB "NoneType" "int" = some false := by decide +kernel
theorem kit_NoneType_str : kitB "NoneType" "str" = some false := by decide +kernel
theorem kit_NoneType_list : kitB "NoneType" "list" = some false := by decide +kernel
theorem kit_NoneType_tuple : kitB "NoneType" "tuple" = some false := by decide +kernel
theorem kit_bool_bool : kitB "bool" "bool" = some true := by decide +kernel
theorem kit_bool_list : kitB "bool" "list" = some false := by decide +kernel
theorem kit_bool_tuple : kitB "bool" "tuple" = some false := by decide +kernel
theorem kit_int_bool : kitB "int" "bool" = some false := by decide +kernel
theorem kit_int_int : kitB "int" "int" = some true := by decide +kernel
theorem kit_int_list : kitB "int" "list" = some false := by decide +kernel
theorem kit_int_tuple : kitB "int" "tuple" = some false := by decide +kernel
theorem kit_str_bool : kitB "str" "bool" = some false := by decide +kernel
theorem kit_str_int : kitB "str" "int" = some false := by decide +kernel
theorem kit_str_str : kitB "str" "str" = some true := by decide +kernel
theorem kit_str_list : kitB "str" "list" = some false := by decide +kernel
theorem kit_str_tuple : kitB "str" "tuple" = some false := by decide +kernel
theorem kit_list_list : kitB "list" "list" = some true := by decide +kernel
theorem kit_list_tuple : kitB "list" "tuple" = some false := by decide +kernel
theorem kit_tuple_list : kitB "tuple" "list" = some false := by decide +kernel
theorem kit_tuple_tuple : kitB "tuple" "tuple" = some true := by decide +kernel
local macro_rules | `(tactic| walk_at "ev1") => `(tactic| first
  | exact ev_int | exact ev_bl | exact ev_str | exact ev_non | exact ev_var rfl | exact ea_nil | exact eo_none
  | with_reducible apply ev_ixDisp | with_reducible apply ev_fst | with_reducible apply ev_snd
  | with_reducible apply ev_add | with_reducible apply ev_sub | with_reducible apply ev_mul | with_reducible apply ev_fdiv | with_reducible apply ev_mod | with_reducible apply ev_pow
  | with_reducible apply ev_lt | with_reducible apply ev_le | with_reducible apply ev_gt | with_reducible apply ev_ge
  | with_reducible apply ev_eqI | with_reducible apply ev_neI
  | with_reducible apply ev_neg | with_reducible apply ev_subB | with_reducible apply ev_isNo | with_reducible apply ev_noNo
  | with_reducible apply ev_not | with_reducible apply et_test | with_reducible apply et_B | with_reducible apply et_not
  | with_reducible apply ev_abs | with_reducible apply ev_max | with_reducible apply ev_min | with_reducible apply ev_intB
  | with_reducible apply ev_gcd | with_reducible apply ev_frac | with_reducible apply ev_fadd | with_reducible apply ev_sign | with_reducible apply ev_cmpF
  | with_reducible apply ev_pull rfl
  | with_reducible apply ev_like
  | with_reducible apply ev_tup | with_reducible apply ev_lst | with_reducible apply ea_cons | with_reducible apply eo_some
  | with_reducible apply ev_order | exact ev_part rfl | exact ev_far rfl | exact ev_farPart rfl
  | (with_reducible show List.length _ ≤ 16000000; (simp; done)) | (with_reducible show (0 : Int) < _; decide) | (with_reducible show (_ : Int) < 1000000000000; decide) | (with_reducible show CPow _ _; (unfold CPow; decide)) | (with_reducible show CNz _ _; (unfold CNz; decide))
  | with_reducible apply sg_ret | with_reducible apply sg_asg | with_reducible apply sg_next)
local macro_rules | `(tactic| walk_at "ln") => `(tactic| first | walk_at "ev1" | with_reducible apply sg_seq)

section
variable {K : Fg}
theorem fnok_false {Pg : Program} {w : World} {mg : Str → Option Value} {base : Heap} {CX : CXT} {k : Nat} {f : Addr} {fd : FuncData} {ps : List Str} : FnOk Pg w K mg base CX k f fd ps (spP K fun _ _ => False) :=
  ⟨fun vs H Q E h => by obtain ⟨_, _, _, _, _, h, _⟩ := h; exact h.elim, fun A outer s H args us vs Q E _ _ _ _ h => by obtain ⟨_, _, _, _, _, h, _⟩ := h; exact h.elim⟩
/-! _law_bag -/
noncomputable def t__law_bag (K : Fg) : TS := (tRet (tLst (tCons (tCB (rListQ K) (tCons (tSl (rSlL K) (tVar 0) tNoPart (tPart (tC (V.int 63)))) tNil)) (tCons (tC (V.int 0)) (tCons (tC (V.int 20011)) tNil)))))
-- slots of _law_bag: 0 _law_script
theorem cut63 {xs : List V} (h : xs.length ≤ 63) : cutV xs none (some 63) = xs := qt_of (by simp (disch := with_unfolding_all
  unfold cutV
  rw [HT.sIx_none, show HT.sIx xs.length xs.length (some 63) = min 63 xs.length from HT.sIx_nat xs.length xs.length 63, Nat.min_eq_right h, List.drop_zero, Nat.sub_zero, List.take_length]
  ) only [↓qt_eq])
theorem rd__law_bag {D : Ends} {W : Addr → Prop} {H : Hp} {v : V} {ns : List Int} (hd : Dp K (less H W) v (.list (ns.map PyData.int))) (hl : ns.length ≤ 63)
    (q : ∀ b c H', Ex H H' → H b = none → H c = none → BagAt H' (some (b, c)) (bag0 ns) → D.rt (.ref b) H') : t__law_bag K D [some v] H := qt_of (by simp (disch := with_unfolding_all
  cases hd with
  | @lst a vs _ g t =>
    have e := dpa_ints t
    subst e
    have g' : SqL K H a (ns.map V.int) := ex_l less_ex g
    have ll : (ns.map V.int).length ≤ 63 := by rw [List.length_map]; exact hl
    unfold t__law_bag
    refine ⟨.ref a, rfl, 63, rfl, a, _, rfl, g', fun p hp => ?_⟩
    rw [cut63 ll]
    refine ⟨p, _, rfl, .inl (sq_of upd_same), fun c hc => ?_⟩
    refine ⟨by show 3 ≤ sizeLine; decide, fun b hb => ?_⟩
    have e1 : Ex H (upd H p (.lst (ns.map V.int))) := Ex.new hp
    have e2 := e1.trans (Ex.new (o := .lst (ns.map V.int)) hc)
    have nbc : c ≠ b := fun z => by
      rw [← z, upd_same] at hb; cases hb
    refine q b c _ (e2.trans (Ex.new hb)) (fresh_back e2 hb) (fresh_back e1 hc) ⟨upd_same, ?_, hl, by show (0 : Int) ≤ 20011; decide, by show (20011 : Int) < 2147483647; decide⟩
    rw [upd_ne nbc, upd_same]
    rfl
  ) only [↓qt_eq])
/-! _law_like -/
noncomputable def t__law_like (K : Fg) (n : Nat) : TS := (tSeq (tIfS (tB (tCB (rIsiT K) (tCons (tVar 1) (tCons (tTup (tCons (tC (V.ty "tuple")) (tCons (tC (V.ty "list")) tNil))) tNil)))) (tSeq (tIfS (tTest (tOp rNe (tCB (rIsi K) (tCons (tVar 0) (tCons (tC (V.ty "tuple")) tNil))) (tCB (rIsi K) (tCons (tVar 1) (tCons (tC (V.ty "tuple")) tNil))))) (tRet (tC (V.bl false))) tNext)
  (tSeq (tIfS (tOr (tNot (tB (tCB (rIsiT K) (tCons (tVar 0) (tCons (tTup (tCons (tC (V.ty "tuple")) (tCons (tC (V.ty "list")) tNil))) tNil))))) (tTest (tOp rNe (tCB (rLenQ K) (tCons (tVar 0) tNil)) (tCB (rLenQ K) (tCons (tVar 1) tNil))))) (tRet (tC (V.bl false))) tNext)
  (tRet (tCB (rAll K) (tCons (tLc (iRng1 (tCons (tCB (rLenQ K) (tCons (tVar 1) tNil)) tNil)) (gName 2) tYes (tCall (spP K (P_like n)) [] E0 (tCons (tOp (rIx K) (tVar 0) (tVar 2)) (tCons (tOp (rIx K) (tVar 1) (tVar 2)) tNil))) [2]) tNil))))) tNext)
  (tSeq (tIfS (tB (tCB (rIsi K) (tCons (tVar 1) (tCons (tC (V.ty "bool")) tNil)))) (tRet (tAndV (tCB (rIsi K) (tCons (tVar 0) (tCons (tC (V.ty "bool")) tNil))) (tOp rEq (tVar 0) (tVar 1)))) tNext)
  (tSeq (tIfS (tB (tCB (rIsi K) (tCons (tVar 1) (tCons (tC (V.ty "int")) tNil)))) (tRet (tAndV (tCB (rIsi K) (tCons (tVar 0) (tCons (tC (V.ty "int")) tNil))) (tAndV (tNotV (tCB (rIsi K) (tCons (tVar 0) (tCons (tC (V.ty "bool")) tNil)))) (tOp rEq (tVar 0) (tVar 1))))) tNext)
  (tSeq (tIfS (tB (tCB (rIsi K) (tCons (tVar 1) (tCons (tC (V.ty "str")) tNil)))) (tRet (tAndV (tCB (rIsi K) (tCons (tVar 0) (tCons (tC (V.ty "str")) tNil))) (tOp rEq (tVar 0) (tVar 1)))) tNext)
  (tRet (tAndV (tOp rIsNo (tVar 1) (tC V.non)) (tOp rIsNo (tVar 0) (tC V.non))))))))
-- slots of _law_like: 0 _law_found, 1 _law_due, 2 _law_at
theorem ln__law_like {n : Nat} : ∀ ds r, P_like (n + 1) ds r → ds.length = 2 := fun ds r h => by obtain ⟨p, rfl, _⟩ := h; rfl
theorem atI_rng {xs : List PyData} {i : Nat} (h : i < xs.length) : ∃ x, xs[i]? = some x ∧ atI xs ((0 : Int) + (i : Int)) = some x := by
  refine ⟨xs[i], List.getElem?_eq_getElem h, ?_⟩
  rw [Int.zero_add]
  exact atI_nat (List.getElem?_eq_getElem h)
theorem mem_rng {lo : Int} {n : Nat} {x : PyData} (h : x ∈ rngD lo n) : ∃ i, i < n ∧ x = .int (lo + (i : Int)) := by
  unfold rngD at h
  obtain ⟨i, hi, rfl⟩ := List.mem_map.mp h
  exact ⟨i, List.mem_range.mp hi, rfl⟩
theorem un_at {G : Gam} {j : Nat} (h : G[j]? = some .un) : ∀ i e, i ∈ [j] → G[i]? = some e → e = .un := fun i e hi g => by
  rw [List.mem_singleton.mp hi, h] at g
  exact (Option.some.inj g).symm
theorem all_true (n : Nat) (l : List PyData) : l.map (fun _ => PyData.bool true) = (l.map fun _ => true).map PyData.bool := by
  rw [List.map_map]; rfl
theorem all_true2 (l : List PyData) : (l.map fun _ => true).all id = true := by
  rw [List.all_map]; simp
theorem rd__law_like {n : Nat} {ds r} (h : P_like (n + 1) ds r) (b : Bag) : SG K (t__law_like K n) (frame 3 ds) b (.rt r b) := qt_of (by simp (disch := with_unfolding_all
  obtain ⟨x, rfl, hx, rfl⟩ := h
  unfold t__law_like
  have v0 : EvG K (tVar 0) (frame 3 [x, x]) b x b := ev_var rfl
  have v1 : EvG K (tVar 1) (frame 3 [x, x]) b x b := ev_var rfl
  cases x with
  | none =>
    refine sg_when (et_B (ev_isi2 v1 kit_NoneType_tuple kit_NoneType_list)) (fun h => by cases h) fun _ => ?_
    refine sg_when (et_B (ev_isi v1 kit_NoneType_bool)) (fun h => by cases h) fun _ => ?_
    refine sg_when (et_B (ev_isi v1 kit_NoneType_int)) (fun h => by cases h) fun _ => ?_
    refine sg_when (et_B (ev_isi v1 kit_NoneType_str)) (fun h => by cases h) fun _ => ?_
    exact sg_ret (ev_andT (ev_isNo v1) (ev_isNo v0))
  | bool i =>
    refine sg_when (et_B (ev_isi2 v1 kit_bool_tuple kit_bool_list)) (fun h => by cases h) fun _ => ?_
    refine sg_when (et_B (ev_isi v1 kit_bool_bool)) (fun _ => ?_) (fun h => by cases h)
    refine sg_seqR (sg_ret (ev_andT (ev_isi v0 kit_bool_bool) (ev_is (ev_eqB v0 v1) ?_)))
    simp
  | int i =>
    refine sg_when (et_B (ev_isi2 v1 kit_int_tuple kit_int_list)) (fun h => by cases h) fun _ => ?_
    refine sg_when (et_B (ev_isi v1 kit_int_bool)) (fun h => by cases h) fun _ => ?_
    refine sg_when (et_B (ev_isi v1 kit_int_int)) (fun _ => ?_) (fun h => by cases h)
    refine sg_seqR (sg_ret (ev_andT (ev_isi v0 kit_int_int) (ev_andT (ev_not (ev_isi v0 kit_int_bool)) (ev_is (ev_eqI v0 v1) ?_))))
    simp
  | str i =>
    refine sg_when (et_B (ev_isi2 v1 kit_str_tuple kit_str_list)) (fun h => by cases h) fun _ => ?_
    refine sg_when (et_B (ev_isi v1 kit_str_bool)) (fun h => by cases h) fun _ => ?_
    refine sg_when (et_B (ev_isi v1 kit_str_int)) (fun h => by cases h) fun _ => ?_
    refine sg_when (et_B (ev_isi v1 kit_str_str)) (fun _ => ?_) (fun h => by cases h)
    refine sg_seqR (sg_ret (ev_andT (ev_isi v0 kit_str_str) (ev_is (ev_eqS v0 v1) ?_)))
    simp
  | dict i => cases n <;> cases hx
  | tuple xs =>
    cases n with
    | zero => cases hx
    | succ n =>
      unfold okD at hx
      obtain ⟨hl, ha⟩ := Bool.and_eq_true_iff.mp hx
      have hl := of_decide_eq_true hl
      refine sg_when (et_B (ev_isi2 v1 kit_tuple_tuple kit_tuple_list)) (fun _ => ?_) (fun h => by cases h)
      refine sg_seqR ?_
      refine sg_when (et_test (ev_neB (ev_isi v0 kit_tuple_tuple) (ev_isi v1 kit_tuple_tuple))) (fun h => by cases h) fun _ => ?_
      refine sg_when (et_orF (et_not (et_B (ev_isi2 v0 kit_tuple_tuple kit_tuple_list))) (et_is (et_test (ev_neI (ev_lenT v0) (ev_lenT v1))) (b' := false) (by simp))) (fun h => by cases h) fun _ => ?_
      refine sg_ret (ev_is (ev_all (bs := (rngD 0 ((xs.length : Int).toNat)).map fun _ => true) (ev_is (ev_lcM (src_rng1 (ea_cons (ev_lenT v1) ea_nil) ⟨by omega, by omega⟩) (fun _ => .bool true) (un_at rfl) (by rw [rngD_len]; omega) fun y hy => ?_) (congrArg PyData.list (all_true 0 _)))) (by rw [all_true2]))
      obtain ⟨i, hi, rfl⟩ := mem_rng hy
      rw [Int.toNat_natCast] at hi
      obtain ⟨z, hz, hz2⟩ := atI_rng hi
      refine ⟨_, tgt_name, ev_like (ev_ixT (ev_var rfl) (ev_var rfl) hz2) (ev_ixT (ev_var rfl) (ev_var rfl) hz2) rfl (okAll_get ha hz)⟩
  | list xs =>
    cases n with
    | zero => cases hx
    | succ n =>
      unfold okD at hx
      obtain ⟨hl, ha⟩ := Bool.and_eq_true_iff.mp hx
      have hl := of_decide_eq_true hl
      refine sg_when (et_B (ev_isi2 v1 kit_list_tuple kit_list_list)) (fun _ => ?_) (fun h => by cases h)
      refine sg_seqR ?_
      refine sg_when (et_test (ev_neB (ev_isi v0 kit_list_tuple) (ev_isi v1 kit_list_tuple))) (fun h => by cases h) fun _ => ?_
      refine sg_when (et_orF (et_not (et_B (ev_isi2 v0 kit_list_tuple kit_list_list))) (et_is (et_test (ev_neI (ev_lenL v0) (ev_lenL v1))) (b' := false) (by simp))) (fun h => by cases h) fun _ => ?_
      refine sg_ret (ev_is (ev_all (bs := (rngD 0 ((xs.length : Int).toNat)).map fun _ => true) (ev_is (ev_lcM (src_rng1 (ea_cons (ev_lenL v1) ea_nil) ⟨by omega, by omega⟩) (fun _ => .bool true) (un_at rfl) (by rw [rngD_len]; omega) fun y hy => ?_) (congrArg PyData.list (all_true 0 _)))) (by rw [all_true2]))
      obtain ⟨i, hi, rfl⟩ := mem_rng hy
      rw [Int.toNat_natCast] at hi
      obtain ⟨z, hz, hz2⟩ := atI_rng hi
      refine ⟨_, tgt_name, ev_like (ev_ixL (ev_var rfl) (ev_var rfl) hz2) (ev_ixL (ev_var rfl) (ev_var rfl) hz2) rfl (okAll_get ha hz)⟩
  ) only [↓qt_eq])
/-! ### a law's loop -/
end
end U


end
section
namespace U
open PySem PyProof.Rows L2 Evl
local macro_rules | `(tactic| walk_at "ev1") => `(tactic| first
  | exact ev_int | exact ev_bl | exact ev_str | exact ev_non | exact ev_var rfl | exact ea_nil | exact eo_none
  | with_reducible apply ev_ixDisp | with_reducible apply ev_fst | with_reducible apply ev_snd
  | with_reducible apply ev_add | with_reducible apply ev_sub | with_reducible apply ev_mul | with_reducible apply ev_fdiv | with_reducible apply ev_mod | with_reducible apply ev_pow
  | with_reducible apply ev_lt | with_reducible apply ev_le | with_reducible apply ev_gt | with_reducible apply ev_ge
  | with_reducible apply ev_eqI | with_reducible apply ev_neI
  | with_reducible apply ev_neg | with_reducible apply ev_subB | with_reducible apply ev_isNo | with_reducible apply ev_noNo
  | with_reducible apply ev_not | with_reducible apply et_test | with_reducible apply et_B | with_reducible apply et_not
  | with_reducible apply ev_abs | with_reducible apply ev_max | with_reducible apply ev_min | with_reducible apply ev_intB
  | with_reducible apply ev_gcd | with_reducible apply ev_frac | with_reducible apply ev_fadd | with_reducible apply ev_sign | with_reducible apply ev_cmpF
  | with_reducible apply ev_pull rfl
  | with_reducible apply ev_like
  | with_reducible apply ev_tup | with_reducible apply ev_lst | with_reducible apply ea_cons | with_reducible apply eo_some
  | with_reducible apply ev_order | exact ev_part rfl | exact ev_far rfl | exact ev_farPart rfl
  | (with_reducible show List.length _ ≤ 16000000; (simp; done)) | (with_reducible show (0 : Int) < _; decide) | (with_reducible show (_ : Int) < 1000000000000; decide) | (with_reducible show CPow _ _; (unfold CPow; decide)) | (with_reducible show CNz _ _; (unfold CNz; decide))
  | with_reducible apply sg_ret | with_reducible apply sg_asg | with_reducible apply sg_next)
local macro_rules | `(tactic| walk_at "ln") => `(tactic| first | walk_at "ev1" | with_reducible apply sg_seq)
section

noncomputable def isPart2 : PyData → PyData → Bool
  | .int a, .int b => decide (0 < b) && decide (gI a b = 1)
  | _, _ => false
noncomputable def isPart : PyData → Bool
  | .tuple [p, q] => isPart2 p q
  | _ => false
section
variable {K : Fg} {G : Gam} {s s1 s2 s' : Bag} {ta tb te : TE} {x y : PyData} {E : XK}
end
section
variable {K : Fg}
-- slots of is_whole: 0 thing
noncomputable def t_shared (K : Fg) : TS := (tSeq (tPar 0 1 (tCons (tCB rAbs (tCons (tVar 0) tNil)) (tCons (tCB rAbs (tCons (tVar 1) tNil)) tNil)))
  (tSeq (tWhile (tTest (tOp (rI0 fun i j => V.bl (decide (j < i))) (tVar 1) (tC (V.int 0)))) (tPar 0 1 (tCons (tVar 1) (tCons (tOp (rI CNz fun i j => V.int (i.fmod j)) (tVar 0) (tVar 1)) tNil))))
  (tRet (tCB rMx (tCons (tVar 0) (tCons (tC (V.int 1)) tNil))))))
-- slots of shared: 0 one, 1 other
theorem ln_shared : ∀ ds r, P_gcd ds r → ds.length = 2 := fun ds r h => by obtain ⟨p, q, rfl, _⟩ := h; rfl
theorem rd_shared {ds r} (h : P_gcd ds r) (b : Bag) : SG K (t_shared K) (frame 2 ds) b (.rt r b) := qt_of (by simp (disch := with_unfolding_all
  obtain ⟨x, y, rfl, rfl⟩ := h
  unfold t_shared
  obtain ⟨n, h1, h2⟩ := eu_end y.natAbs x.natAbs
  apply sg_is
  apply sg_seq
  · apply sg_par
    (repeat' walk_at "ev1")
  apply sg_seq
  · refine sg_while (s' := b) (fun i => [.d (.int (eu x.natAbs y.natAbs i).1), .d (.int (eu x.natAbs y.natAbs i).2)]) (fun _ => b) (fun _ => b) n ?_ rfl (fun i hi => ?_) (fun i hi => .inl ?_) ?_
    · show Wk [.d (.int (absI x)), .d (.int (absI y))] _
      rw [absI_nat, absI_nat]
      exact .refl _
    · refine et_is (by (repeat' walk_at "ev1")) ?_
      have := h2 i hi
      simp; omega
    · have hy := h2 i hi
      refine sg_is (sg_par (ea_cons (ev_var rfl) (ea_cons (ev_mod (ev_var rfl) (ev_var rfl) ?_) ea_nil))) ?_
      · show ((eu x.natAbs y.natAbs i).2 : Int) ≠ 0
        omega
      · rw [fmod_nat]
        rfl
    · refine et_is (by (repeat' walk_at "ev1")) ?_
      rw [h1]
      rfl
  · rw [h1]
    (repeat' walk_at "ev1")
  · show Out.rt (.int (maxI _ 1)) b = _
    rw [gN_max]
  ) only [↓qt_eq])
-- slots of is_part: 0 thing
-- slots of _law_wild: 0 _law_bag_here, 1 _law_things
end

end
end U
end
section
/-! Own exception classes over any of four built-in bases, their __init__ walked as a def. -/
namespace U
open PySem PySem.W PyProof.Rows L2 Evl
structure OxC (K : Fg) (C : Addr) (B newId initId : String) (bmB : List Value) : Prop where
  fb : ExcBaseFacts B newId initId bmB
  sf : StoreFacts B bmB "object.__setattr__" "object"
  ov : excOver K C bmB = true
  mkC : excInitIn K C bmB newId = true
  hd : hasDictIn K C = true
  sa : findIn K (.ref C) "__setattr__" = some (some (.builtin "object.__setattr__"))
  exC : subIn K (.ref C) (.type "BaseException") = some true
  tyC : typeIn K (.ref C) = some (.type "type")
  kC : keepIn K (.ref C) = true
section
open Builtin Builtin.ObjectAttr
variable {prog : Program} {w : World} {A : Around} {R : Result → Shared → Prop} {hp : Heap} {g : Array GenState} {d : Drawn} {t : Nat} {os : OsState} {K : Fg} {C x : Addr} {B newId initId : String} {bmB : List Value} {name : Str} {tk : Tok} {v : Value} {fv : Array Value}
theorem taker_none (h : findIn K (.ref C) name = some none) : takerIn K C name = some none := by
  unfold takerIn
  rw [h]
  rfl
theorem has_dict (h : hasDictIn K C = true) : ∃ cd, clsIn K C = some cd ∧ cd.hasDict = true := by
  unfold hasDictIn at h
  cases e : clsIn K C with
  | none => rw [e] at h; cases h
  | some cd => rw [e] at h; exact ⟨cd, rfl, h⟩
/-- the first field of an exception that has no dict yet -/
theorem osa_first (T : OxC K C B newId initId bmB) (X : K.In hp) (hx : hp.get? x = some { cls := .ref C, data := .fields fv }) (ha : findIn K (.ref C) name = some none)
    (hq : ∀ h' tk' dx, (∀ b o, b ≠ x → hp.get? b = some o → h'.get? b = some o) → hp.objs.size ≤ dx → dx ≠ x →
      h'.get? x = some { cls := .ref C, dict := some dx, data := .fields fv } → h'.Ns1 dx (fun y => if y = name then some v else none) → R (.ok (.ret .none)) ⟨h', g, d, tk', os⟩) :
    codeAny (model prog w) A (.call (.builtin "object.__setattr__") ⟨[.ref x, .str name tk, v], []⟩) R ⟨hp, g, d, t, os⟩ := qt_of (by simp (disch := with_unfolding_all
  have I : InstAt hp x { cls := .ref C, data := .fields fv } C none := ⟨hx, rfl, rfl, trivial⟩
  have hxs : x ≠ hp.objs.size := Nat.ne_of_lt (Heap.lt_size hx)
  obtain ⟨cd, hcd, hh⟩ := has_dict T.hd
  have hcls : Looks (model prog w) hp (classData C) cd := looks_clsIn X hcd
  refine osa_openX (s := ⟨hp, g, d, t, os⟩) T.sf X I T.ov (taker_none ha) fun b => ?_
  obtain ⟨nm, bs, mro, ns, qn, hdv, sn, sb, ab, col, del⟩ := cd
  dsimp only at hh
  subst hh
  show wpAny _ _ (storeInOwnDict (.ref x) (.ref C) (.str name tk) name v b) _ _ _
  unfold storeInOwnDict ownDictForStores
  cases b <;>
  repeat (first | with_reducible refine HandSPX.store_in_new ?_ ?_ | with_reducible refine wpAny_loadPart_at hx ?_ | with_reducible refine hcls.at ?_ | wp_step)
  case' false.h.h.h.hq.refine_1 => skip
  all_goals first
    | exact ⟨_, #[], _, (Heap.get?_update_ne _ _ _ _ hxs.symm).trans (Heap.get?_push_at rfl rfl), rfl, (fun e he => absurd he (by simp)), (fun _ => rfl)⟩
    | (intro h2 tk2 hn2 hs2
       have hx1 : (hp.push { cls := .type "dict", data := .dict #[] }).get? x = some ⟨.ref C, none, .fields fv, #[]⟩ := Heap.get?_push_of_some _ hx
       refine hq h2 tk2 hp.objs.size (fun b o hb ho => ?_) (Nat.le_refl _) hxs.symm ?_ hn2
       · have e1 := hs2.2 b (Nat.ne_of_lt (Heap.lt_size ho))
         exact e1.trans ((Heap.get?_update_ne _ _ _ _ hb).trans (Heap.get?_push_of_some _ ho))
       · have e1 := hs2.2 x hxs
         exact e1.trans (Heap.get?_update_self _ hx1 rfl))
  ) only [↓qt_eq])
/-- a further field -/
theorem osa_more {dx : Addr} {m0 : Str → Option Value} {nl : List Str} (T : OxC K C B newId initId bmB) (X : K.In hp) (hx : hp.get? x = some { cls := .ref C, dict := some dx, data := .fields fv }) (ha : findIn K (.ref C) name = some none)
    (hns : hp.Ns1 dx m0) (hw : Within m0 nl) (hz : nl.length ≤ 1000)
    (hq : ∀ h' tk', (∀ b o, b ≠ dx → hp.get? b = some o → h'.get? b = some o) → h'.Ns1 dx (fun y => if y = name then some v else m0 y) →
      R (.ok (.ret .none)) ⟨h', g, d, tk', os⟩) :
    codeAny (model prog w) A (.call (.builtin "object.__setattr__") ⟨[.ref x, .str name tk, v], []⟩) R ⟨hp, g, d, t, os⟩ := qt_of (by simp (disch := with_unfolding_all
  obtain ⟨oD, esD, epD, hoD, hdD, _⟩ := hns.count hw
  have I : InstAt hp x { cls := .ref C, dict := some dx, data := .fields fv } C (some oD) := ⟨hx, rfl, rfl, hoD⟩
  obtain ⟨cd, hcd, hh⟩ := has_dict T.hd
  have hcls : Looks (model prog w) hp (classData C) cd := looks_clsIn X hcd
  refine osa_openX (s := ⟨hp, g, d, t, os⟩) T.sf X I T.ov (taker_none ha) fun b => ?_
  obtain ⟨nm, bs, mro, ns, qn, hdv, sn, sb, ab, col, del⟩ := cd
  dsimp only at hh
  subst hh
  show wpAny _ _ (storeInOwnDict (.ref x) (.ref C) (.str name tk) name v b) _ _ _
  unfold storeInOwnDict ownDictForStores
  cases b <;>
  repeat (first | with_reducible refine OEX.store_in_old hns hw hz ?_ | with_reducible refine wpAny_loadPart_at hx ?_ | with_reducible refine hcls.at ?_ | wp_step)
  all_goals
    intro h2 tk2 hn2 hs2
    exact hq h2 tk2 (fun b o hb ho => (hs2.2 b hb).trans ho) hn2
  ) only [↓qt_eq])
end
section
variable {X : Cx} {pins : List (Addr × Obj)} {σ : St} {H : Hp} {s : Shared} {a C dx : Addr} {f : Str} {y : V} {u : Value} {fs : List (Str × V)} {Q : Unit → Shared → Prop} {E : Value → Shared → Prop} {A : Around} {B newId initId : String} {bmB : List Value}
theorem ox_new (T : OxC X.K C B newId initId bmB) (I : Inv X pins σ H s) (e : H a = some (exo a C none)) (hno : findIn X.K (.ref C) f = some none) (ry : RelV y u)
    (h : ∀ dx s', H dx = none → dx ≠ a → Inv X pins σ (upd (upd H dx (exd dx [(f, y)])) a (exo a C (some dx))) s' → Q () s') :
    wpAny (model X.prog X.w) A (setAttr (.ref a) f u) Q E s := qt_of (by simp (disch := with_unfolding_all
  obtain ⟨t1, ho⟩ := exo_at I.hok e
  obtain ⟨hp, g, d, t, os⟩ := s
  refine set_plain I.kIn (od := none) ⟨ho, rfl, rfl, trivial⟩ T.sa ?_
  refine osa_first T I.kIn ho hno fun h2 tk2 dx k dn dne hx hn => ?_
  have hnd : H dx = none := I.hok.fresh dn
  have nd : ∀ {b : Addr} {o : Obj}, hp.get? b = some o → b ≠ dx := fun {b o} q =>
    Nat.ne_of_lt (Nat.lt_of_lt_of_le (Heap.lt_size q) dn)
  have na : ∀ {b : Addr}, H b = none → b ≠ a := fun {b} n z => by
    subst z
    rw [e] at n
    cases n
  have un : Un X.fs [] H (upd (upd H dx (exd dx [(f, y)])) a (exo a C (some dx))) hp h2 := by
    refine ⟨fun b o q n _ _ => k b o (na n) q, fun b o q n _ _ => ⟨o.slots, k b o (na n) q⟩, fun b o q n _ => ?_, fun b o q _ => ?_, fun b xs q => ?_, fun b o v q => ?_, fun b ps q => ⟨#[], ?_⟩⟩
    · rw [upd_ne (na n), upd_ne (nd q)]
      exact n
    · by_cases hb : b = a
      · subst hb
        exact ⟨_, hx⟩
      · exact ⟨o, k b o hb q⟩
    · rw [upd_ne (at_ne e q exo_tup), upd_ne (ne_of_none q hnd)]
      exact q
    · rw [upd_ne (at_ne e q exo_frz), upd_ne (ne_of_none q hnd)]
      exact q
    · rw [upd_ne (at_ne e q exo_tbl), upd_ne (ne_of_none q hnd), q]
      simp
  refine h dx _ hnd dne (I.un (t' := tk2) un fun b o q => ?_)
  by_cases hb : b = a
  · subst hb
    rw [upd_same] at q
    cases q
    exact exo_ok hx
  rw [upd_ne hb] at q
  by_cases hd : b = dx
  · subst hd
    rw [upd_same] at q
    cases q
    exact exd_ok hn (relO_put (fs := []) ry fun _ => True.intro)
  rw [upd_ne hd] at q
  refine (I.hok b o q).stay (fun c v hc z => k c v ?_ z) (fun c hc => ?_) (fun c xs hc => ?_)
  · rcases hc with rfl | hc
    · exact hb
    · exact at_ne e hc exo_own
  · rw [upd_ne (at_ne e hc exo_own), upd_ne (ne_of_none hc hnd)]
    exact hc
  · rw [upd_ne (at_ne e hc exo_tup), upd_ne (ne_of_none hc hnd)]
    exact hc
  ) only [↓qt_eq])
theorem ox_old (T : OxC X.K C B newId initId bmB) (I : Inv X pins σ H s) (e : H a = some (exo a C (some dx))) (ed : H dx = some (exd dx fs)) (hl : fs.length ≤ 900) (hno : findIn X.K (.ref C) f = some none) (ry : RelV y u)
    (h : ∀ s', Inv X pins σ (upd H dx (exd dx ((f, y) :: fs))) s' → Q () s') :
    wpAny (model X.prog X.w) A (setAttr (.ref a) f u) Q E s := qt_of (by simp (disch := with_unfolding_all
  obtain ⟨t1, ho⟩ := exo_at I.hok e
  obtain ⟨mA, hns, rel⟩ := exd_at I.hok ed
  have hw := within_of rel
  obtain ⟨hp, g, d, t, os⟩ := s
  obtain ⟨oD, _, _, hoD, _, _⟩ := hns.count hw
  refine set_plain I.kIn (od := some oD) ⟨ho, rfl, rfl, hoD⟩ T.sa ?_
  refine osa_more T I.kIn ho hno hns hw (by rw [List.length_map]; omega) fun h2 tk2 k hn => ?_
  have hd : ∃ o, h2.get? dx = some o := by
    obtain ⟨o, _, _, e2, _⟩ := hn
    exact ⟨o, e2⟩
  exact h _ (I.write (t' := tk2) (x := dx) (e := dx) (by rw [ed]; exact True.intro) (.inl rfl) k hd (exd_ok hn (relO_put ry rel)))
  ) only [↓qt_eq])
/-- what is promised by an own exception's class -/
structure OxK (K : Fg) (C : Addr) : Prop where
  ex : ∃ B newId initId bmB, OxC K C B newId initId bmB
/-- self.f = e, upon an exception that is being made -/
noncomputable def tOx (K : Fg) (f : Str) (to te : TE) : TS := fun D σ H => te σ H fun y H1 => to σ H1 fun x H2 => ∃ a C : Addr, x = .ref a ∧ OxK K C ∧ findIn K (.ref C) f = some none ∧
  ((H2 a = some (exo a C none) ∧ ∀ dx, H2 dx = none → dx ≠ a → D.nx σ (upd (upd H2 dx (exd dx [(f, y)])) a (exo a C (some dx)))) ∨
    ∃ (dx : Addr) (fs : List (Str × V)), H2 a = some (exo a C (some dx)) ∧ H2 dx = some (exd dx fs) ∧ fs.length ≤ 900 ∧ D.nx σ (upd H2 dx (exd dx ((f, y) :: fs))))
/-- C(e, ..), C's own __init__ keeping sp -/
noncomputable def tMkX (C : Addr) (sp : Sp) (dvs : List V) (ta : TA) : St → Hp → XK → Prop := fun σ H Q => ta σ H fun vs H1 => vs.length ≤ 1000 ∧ ∀ a, H1 a = none →
  sp (.ref a :: (vs ++ dvs)) (upd H1 a (exo a C none)) (fun v H2 => v = .non ∧ ∃ (d : Addr) (fs : List (Str × V)), H2 a = some (exo a C (some d)) ∧ H2 d = some (exd d fs) ∧ H1 d = none ∧
    Q (.ref C) (some d) (upd (del H2 a) d (.xd fs))) (fun _ _ _ => False)
end
section
variable {X : Cx} {o e : Expr} {es : List Expr} {to te : TE} {ta : TA} {f : Str} {p p' p1 p2 pos : Pos}
theorem ps_ox (ho : PE X o to) (he : PE X e te) (hs : swapsWith e (some (.Attribute o f p')) pos.line X.env = pure false := by rfl) :
    PS X (.Assign [.Attribute o f p'] e pos) (tOx X.K f to te) := by
  refine ⟨fun pins s σ H D I h => ?_⟩
  refine plainObj_wpAny_Assign_Attribute (thn (he.run pins s σ H _ I h) fun v s1 hh => ?_) hs
  obtain ⟨y, H1, I1, r1, q1⟩ := hh
  refine thn (ho.run pins s1 σ H1 _ I1 q1) fun u s2 hh => ?_
  obtain ⟨x, H2, I2, r2, a, C, ex, T, hno, q⟩ := hh
  subst ex
  obtain rfl : u = Value.ref a := r2
  obtain ⟨B, n1, n2, bm, T⟩ := T.ex
  rcases q with ⟨ea, q⟩ | ⟨dx, fs, ea, ed, hl, q⟩
  · exact ox_new T I2 ea hno r1 fun dx s' n ne J => ⟨σ, _, J, q dx n ne⟩
  · exact ox_old T I2 ea ed hl hno r1 fun s' J => ⟨σ, _, J, q⟩
/-- the call of the class, once the arguments are there -/
theorem made_ox {CX : CXT} {C fI : Addr} {k : Nat} {fd : FuncData} {ps : List Str} {sp : Sp} {ds : List Value} {dvs vs : List V} {us : List Value} {pins : List (Addr × Obj)} {σ : St} {H : Hp} {s : Shared} {Q : XK} (T : OxK X.K C)
    (iC : findIn X.K (.ref C) "__init__" = some (some (.ref fI))) (tI : typeIn X.K (.ref fI) = some (.type "function")) (F1 : FnOk X.prog X.w X.K X.mg X.base CX k fI fd ps sp) (hr : Room (k + 1) X.A) (hb : Binds X.K fd ps ds) (hd : Vals dvs ds)
    (hx : Passes CX X (fun _ _ _ => False)) (I : Inv X pins σ H s) (r1 : Vals vs us) (hz : vs.length ≤ 1000)
    (h : ∀ a, H a = none → sp (.ref a :: (vs ++ dvs)) (upd H a (exo a C none)) (fun v H2 => v = .non ∧ ∃ (d : Addr) (fs : List (Str × V)), H2 a = some (exo a C (some d)) ∧ H2 d = some (exd d fs) ∧ H d = none ∧
      Q (.ref C) (some d) (upd (del H2 a) d (.xd fs))) (fun _ _ _ => False)) :
    wpAny (model X.prog X.w) X.A (call (.ref C) us) (MkP X pins σ Q) X.xe s := qt_of (by simp (disch := with_unfolding_all
  obtain ⟨B, n1, n2, bm, T⟩ := T.ex
  obtain ⟨hp, g, dr, tk, os⟩ := s
  obtain ⟨nm, N', qn, bs, bm', hdct, sn, sub, ab, col, dd, k0, k1, k2, k3, k5, hC, hT⟩ := excInit_of I.kIn T.mkC
  have hsz : hp.objs.size ≤ hp.objs.size + 1 := Nat.le_succ _
  have hn : H (hp.objs.size + 1) = none := I.hok.fresh hsz
  have hq := h (hp.objs.size + 1) hn
  have kk : ∀ b o, hp.get? b = some o → ((hp.push (kdv_tup us)).push (HandSPX.excO C hp.objs.size)).get? b = some o := fun b o e =>
    Heap.get?_push_of_some _ (Heap.get?_push_of_some _ e)
  have hget : ((hp.push (kdv_tup us)).push (HandSPX.excO C hp.objs.size)).get? (hp.objs.size + 1) = some (HandSPX.excO C hp.objs.size) := by heap_get
  have I2 := I.laid (t' := tk) (a := hp.objs.size + 1) (o := exo (hp.objs.size + 1) C none) (h' := (hp.push (kdv_tup us)).push (HandSPX.excO C hp.objs.size)) kk hsz (exo_ok hget)
  have r2 : Vals (V.ref (hp.objs.size + 1) :: (vs ++ dvs)) (Value.ref (hp.objs.size + 1) :: (us ++ ds)) := .cons rfl (r1.append hd)
  have hl : (Value.ref (hp.objs.size + 1) :: us ++ ds).length = ps.length := by
    rw [← F1.len _ _ _ _ hq]
    exact r2.length.symm
  have hus : us.length ≤ sizeLine := by
    rw [← Paired.length r1, sizeLine_eq]
    omega
  refine wpAny_call (HandSPX.call_own T.fb hT hC (looks_findIn I.kIn iC) (fun self => bind_fn I.kIn self tI) hus ?_)
  refine codeAny_mono (F1.run _ X.stack _ _ ⟨Value.ref (hp.objs.size + 1) :: us, []⟩ (Value.ref (hp.objs.size + 1) :: (us ++ ds)) _ _ (fun _ _ _ => False) (hr.make C us []) (I2.env0.make C us []) (hb _ _ I2.kIn hl) r2 hq) fun r s' hq' => ?_
  cases r with
  | error er => exact hx pins σ _ _ er s' I2 hq'
  | ok fl =>
    cases fl with
    | ret u =>
      obtain ⟨v, H2, os2, bare2, un2, hok2, rv, ev, d, fs, ea, ed, hd1, q2⟩ := hq'
      subst ev
      obtain ⟨h2, g2, d2, t2, os'⟩ := s'
      exact ⟨rv, mk_end (raises_own T.exC T.tyC) I hsz kk un2 hok2 os2 bare2 ea ed hd1 q2⟩
    | next => exact False.elim hq'
    | brk => exact False.elim hq'
    | cont => exact False.elim hq'
  ) only [↓qt_eq])
theorem pmk_ox0 {CX : CXT} {x : Str} {C fI : Addr} {k : Nat} {fd : FuncData} {ps : List Str} {sp : Sp} {ds : List Value} {dvs : List V} (T : OxK X.K C) (kC : keepIn X.K (.ref C) = true)
    (iC : findIn X.K (.ref C) "__init__" = some (some (.ref fI))) (tI : typeIn X.K (.ref fI) = some (.type "function")) (F1 : FnOk X.prog X.w X.K X.mg X.base CX k fI fd ps sp) (hr : Room (k + 1) X.A) (hb : Binds X.K fd ps ds) (hd : Vals dvs ds)
    (hx : Passes CX X (fun _ _ _ => False)) (hg : Gl X x) (hm : X.mg x = some (.ref C)) (hdb : (x == ("__debug__" : Str)) = false := by decide) :
    PMk X (.Call (.Name x p) [] [] pos) (tMkX C sp dvs tNil) := by
  intro pins s σ H Q I h
  refine wpAny_Call_Name_kw (ld_glob I hg hm ?_ hdb)
  exact callWith_K0 I.kIn kC (made_ox (us := []) (vs := []) T iC tI F1 hr hb hd hx I .nil (by show 0 ≤ 1000; decide) h.2)
end
end U

end
section
/-! Raising, over data: promises of defs that may raise, judgements of what raises, try .. except .. as. -/
namespace U
open PySem PyProof.Rows L2 Evl
/-- an exception: its class's name, its fields -/
structure Xw where
  cls : Str
  fs : List (Str × V)
noncomputable abbrev Cs := Str → Addr
/-- a def's promise that may raise -/
noncomputable def spX (K : Fg) (cs : Cs) (P : List PyData → Except Xw PyData → Prop) : Sp := fun vs H Q E => ∃ (W : Addr → Prop) (ds : List PyData) (r : Except Xw PyData), (∀ a, W a → ∃ o, H a = some o) ∧ DpAll K (less H W) vs ds ∧ P ds r ∧
  match r with
  | .ok x => ∀ v H', Ex H H' → Dp K (less H' W) v x → Q v H'
  | .error e => ∀ d H', Ex H H' → H d = none → H' d = some (.xd e.fs) → E (.ref (cs e.cls)) (some d) H'
noncomputable def SX (K : Fg) (cs : Cs) (W : WX) (ts : TS) (G : Gam) (s : Bag) (e : Xw) (G' : Gam) (s' : Bag) : Prop :=
  ∀ Wd B ad H0 H σ (D : Ends), Sta K Wd B ad H0 H σ G s → (∀ d ad' H' σ', Sta K Wd B ad' H0 H' σ' G' s' → Ex (less H (Zs Wd B ad G)) (less H' (Zs Wd B ad' G')) → H0 d = none → H' d = some (.xd e.fs) → W (.ref (cs e.cls)) (some d) σ' H') → ts D σ H
section
variable {K : Fg} {cs : Cs} {W : WX} {G G' G1 G2 : Gam} {s s1 s2 s3 s' : Bag} {ta tb tc te : TE} {t u : TT} {x y z : PyData} {tu tw tz : TS} {o : Out} {e : Xw}
theorem ev_callX {P : List PyData → Except Xw PyData → Prop} {ta : TA} {ds : List PyData} {dvs : List V} {des : List PyData} {E : St → XK} (h : EvA K ta G s ds s') (hd : ∀ H, DpAll K H dvs des) (hp : P (ds ++ des) (.ok x)) : EvG K (tCallSD (spX K cs P) dvs E ta) G s x s' := fun W B ad H0 H σ S Q q =>
  h W B ad H0 H σ S _ fun vs H1 S1 e1 d1 => ⟨Zs W B ad G, ds ++ des, .ok x, S1.there, dpa_app d1 (hd _), hp, fun v H' e d => q v H' (S1.ext e) (e1.trans (.of e)) d⟩
theorem sx_seq1 (h : SX K cs W tu G s e G' s') : SX K cs W (tSeq tu tz) G s e G' s' := fun Wd B ad H0 H σ D S k => h Wd B ad H0 H σ _ S k
theorem sx_ifT (h : EvT K t G s true s1) (h2 : SX K cs W tu G s1 e G' s') : SX K cs W (tIfS t tu tw) G s e G' s' := fun Wd B ad H0 H σ D S k =>
  h Wd B ad H0 H σ S _ fun H1 S1 e1 => iteT (h2 Wd B ad H0 H1 σ D S1 fun d ad' H' σ' S' e' => k d ad' H' σ' S' (e1.l.trans e'))
theorem sx_whenT (h : EvT K t G s true s1) (h2 : SX K cs W tu G s1 e G' s') : SX K cs W (tSeq (tIfS t tu tNext) tz) G s e G' s' := sx_seq1 (sx_ifT h h2)
/-! ### raise C(..) -/
/-- what an own exception's __init__ promises: its fields by its arguments -/
noncomputable def spIn (K : Fg) (nm : List Str) (g : List V → Option (List (Str × V))) : Sp := fun vs H Q _ => ∃ (a C : Addr) (ws : List V) (fs : List (Str × V)), vs = .ref a :: ws ∧ H a = some (exo a C none) ∧ OxK K C ∧ (∀ n ∈ nm, PySem.W.findIn K (.ref C) n = some none) ∧ g ws = some fs ∧
  ∀ d H', H d = none → H' a = some (exo a C (some d)) → H' d = some (exd d fs) → (∀ b, b ≠ a → b ≠ d → H' b = H b) → Q .non H'
noncomputable def tRaiseX (C : Addr) (sp : Sp) (dvs : List V) (ta : TA) (W : WX) : TS := fun _ σ H => tMkX C sp dvs ta σ H fun cls d H' => W cls d σ H'
theorem mk_read {C : Addr} {nm : List Str} {g : List V → Option (List (Str × V))} {dvs : List V} {ta : TA} {σ : St} {H : Hp} {Q : XK} {fs : List (Str × V)} (ox : OxK K C) (hn : ∀ n ∈ nm, PySem.W.findIn K (.ref C) n = some none)
    (h : ta σ H fun vs H1 => vs.length ≤ 1000 ∧ g (vs ++ dvs) = some fs ∧ ∀ d, H1 d = none → Q (.ref C) (some d) (upd H1 d (.xd fs))) (mono : ∀ (Q1 Q2 : List V → Hp → Prop), (∀ vs H1, Q1 vs H1 → Q2 vs H1) → ta σ H Q1 → ta σ H Q2) : tMkX C (spIn K nm g) dvs ta σ H Q := by
  refine mono _ _ (fun vs H1 hq => ?_) h
  obtain ⟨hl, hg, q⟩ := hq
  refine ⟨hl, fun a ha => ⟨a, C, vs ++ dvs, fs, rfl, upd_same, ox, hn, hg, fun d H2 hd h1 h2 h3 => ?_⟩⟩
  have hda : d ≠ a := fun z => by rw [z, upd_same] at hd; cases hd
  rw [upd_ne hda] at hd
  refine ⟨rfl, d, fs, h1, h2, hd, ?_⟩
  have e : upd (del H2 a) d (.xd fs) = upd H1 d (.xd fs) := by
    funext b
    by_cases hb : b = d
    · rw [hb, upd_same, upd_same]
    · rw [upd_ne hb, upd_ne hb]
      by_cases ha2 : b = a
      · rw [ha2, del_same, ha]
      · rw [del_ne ha2, h3 b ha2 hb, upd_ne ha2]
  rw [e]
  exact q d hd
/-- raise C() -/
theorem sx_raise0 {c : Str} {nm : List Str} {g : List V → Option (List (Str × V))} {fs : List (Str × V)} (ox : OxK K (cs c)) (hn : ∀ n ∈ nm, PySem.W.findIn K (.ref (cs c)) n = some none) (hg : g [] = some fs) : SX K cs W (tRaiseX (cs c) (spIn K nm g) [] tNil W) G s ⟨c, fs⟩ G s := fun Wd B ad H0 H σ D S k => by
  refine mk_read ox hn ⟨by show 0 ≤ 1000; decide, hg, fun d hd => ?_⟩ (fun Q1 Q2 m h => m _ _ h)
  have e : Ex H (upd H d (.xd fs)) := Ex.new hd
  exact k d ad _ σ (S.ext e) (less_mono e) (S.fresh hd).1 upd_same
end
section
variable {Pg : Program} {w : World} {K : Fg} {mg : Str → Option Value} {base : Heap} {cs : Cs}
/-- what a def that may raise is read to do -/
noncomputable def RdX (K : Fg) (cs : Cs) (W : WX) (t : TS) (G : Gam) (b : Bag) : Except Xw PyData → Prop
  | .ok x => SG K t G b (.rt x b)
  | .error e => ∃ G', SX K cs W t G b e G' b
/-- a def's own wish -/
noncomputable abbrev WD (E : XK) : WX := fun cls d _ H => E cls d H
end
/-! ### try .. except C as why -/
section
variable {K : Fg} {cs : Cs} {G G' G1 : Gam} {s s1 s' : Bag} {x : PyData} {e : Xw}
noncomputable def tTryAs (K : Fg) (c : Value) (i : Nat) (tb : WX → TS) (ts : Addr → Value → Option Addr → TS) : TS := fun D σ H => tb (wAs K c i ts (fun _ _ _ _ => False) D) D σ H
end
end U

end
section
/-! Defs with defaults and keyword-only parameters; the refusals' own __init__. -/
namespace U
open PySem PyProof.Rows L2 Evl
section
variable {Pg : Program} {w : World} {K : Fg} {mg : Str → Option Value} {base : Heap} {cs : Cs}
theorem okPD {x qual : Str} {st : Stmt} {dvs : List V} {kws : List (Str × V)} {f : Addr} {fd : FuncData} {N ps : List Str} {k : Nat} {P : List PyData → PyData → Prop} (F : FunD K x qual (defArgs st) (defBody st) (defScope st) dvs kws f fd) (S : FnScope N ps (defScope st)) (hl : ∀ ds r, P ds r → ds.length = ps.length)
    (hb : ∀ ds r, P ds r → ∀ (cdv : Value) (A : Around) (outer : List Env) (sh : Shared) (H : Hp) (E : XK), Room k (A.deeper (envOfC qual (defScope st) sh.heap.objs.size f cdv)) →
      ∃ t, PSs (cxOf CX0 Pg w K mg base N qual (defScope st) f cdv A outer sh H E).nox (defBody st) t ∧ ∀ b, SG K t (frame N.length ds) b (.rt r b)) : FnOk Pg w K mg base CX0 (k + 1) f fd ps (spP K P) := qt_of (by simp (disch := with_unfolding_all
  refine F.ok S (fun vs H Q E h => ?_) (fun cdv A outer sh H vs Q E hr h => ?_)
  · obtain ⟨W, ds, r, _, hd, hp, _⟩ := h
    rw [dpa_len hd]
    exact hl ds r hp
  · obtain ⟨W, ds, r, hW, hd, hp, q⟩ := h
    obtain ⟨t, ht, g⟩ := hb ds r hp cdv A outer sh H E hr
    refine ⟨t, ht.nox, g ⟨[], 0, 0⟩ W none (fun _ => 0) H H _ _ (sta0 hW hd _) fun v H' e _ d => q v H' (fun a o h => e a o h (fun ⟨_, _, z, _⟩ => by cases z)) (dp_mono (less_sub fun a z => .inl z) d)⟩
  ) only [↓qt_eq])
theorem okXD {x qual : Str} {st : Stmt} {dvs : List V} {kws : List (Str × V)} {f : Addr} {fd : FuncData} {N ps : List Str} {k : Nat} {P : List PyData → Except Xw PyData → Prop} (F : FunD K x qual (defArgs st) (defBody st) (defScope st) dvs kws f fd) (S : FnScope N ps (defScope st)) (hl : ∀ ds r, P ds r → ds.length = ps.length)
    (hb : ∀ ds r, P ds r → ∀ (cdv : Value) (A : Around) (outer : List Env) (sh : Shared) (H : Hp) (E : XK), Room k (A.deeper (envOfC qual (defScope st) sh.heap.objs.size f cdv)) →
      ∃ t, PSs (cxOf (L2.CX Pg w) Pg w K mg base N qual (defScope st) f cdv A outer sh H E) (defBody st) t ∧ ∀ b, RdX K cs (WD E) t (frame N.length ds) b r) :
    FnOk Pg w K mg base (L2.CX Pg w) (k + 1) f fd ps (spX K cs P) := qt_of (by simp (disch := with_unfolding_all
  refine F.ok S (fun vs H Q E h => ?_) (fun cdv A outer sh H vs Q E hr h => ?_)
  · obtain ⟨W, ds, r, _, hd, hp, _⟩ := h
    rw [dpa_len hd]
    exact hl ds r hp
  · obtain ⟨W, ds, r, hW, hd, hp, q⟩ := h
    obtain ⟨t, ht, g⟩ := hb ds r hp cdv A outer sh H E hr
    refine ⟨t, ht, ?_⟩
    have nb : ∀ a, ¬ InB none a := fun a ⟨_, _, z, _⟩ => by cases z
    have S0 := sta0 (N := N) hW hd ⟨[], 0, 0⟩
    cases r with
    | ok x => exact g ⟨[], 0, 0⟩ W none (fun _ => 0) H H _ _ S0 fun v H' e _ d => q v H' (fun a o h => e a o h (nb a)) (dp_mono (less_sub fun a z => .inl z) d)
    | error e =>
      obtain ⟨G', g⟩ := g ⟨[], 0, 0⟩
      exact g W none (fun _ => 0) H H _ _ S0 fun d ad' H' σ' S' _ hn hx => q d H' (fun a o h => S'.base a o h (nb a)) hn hx
  ) only [↓qt_eq])
/-- all given though there are defaults -/
theorem binds_all {x qual : Str} {params : Arguments} {body : List Stmt} {scope : Scope} {dvs : List V} {kws : List (Str × V)} {f : Addr} {fd : FuncData} {ps : List Str} (F : FunD K x qual params body scope dvs kws f fd) (hd : dvs ≠ [])
    (h : ∀ (T : Addr) (kV doc pm : Value) (an : Option Addr) (cdv ct : Value) (us its : List Value), us.length = ps.length → its.length = dvs.length →
      ∃ k, bindArgs (PySem.W.fnOf x qual params body scope (.ref T) kV doc pm an cdv ct) ⟨us, []⟩ = seqItems? (.ref T) >>= k ∧ k (some its.toArray) = pure (ps.zip us)) : Binds K fd ps [] := qt_of (by simp (disch := with_unfolding_all
  obtain ⟨ds, r, b⟩ := F.binds1 (ps := ps) ps.length dvs.length hd (by omega) (fun T kV doc pm an cdv ct us its l1 l2 => by
    obtain ⟨k, e1, e2⟩ := h T kV doc pm an cdv ct us its l1 l2
    refine ⟨k, e1, ?_⟩
    rw [e2, List.drop_eq_nil_of_le (by omega), List.append_nil])
  rw [List.drop_eq_nil_of_le (Nat.le_refl _)] at r
  cases r
  exact b
  ) only [↓qt_eq])
end
section
variable {K : Fg} {cs : Cs} {W : WX} {G G' G1 G2 : Gam} {s s1 s2 s3 s' : Bag} {ta tb tc te : TE} {t u : TT} {x y z : PyData}
end
/-! ### Flat -/
noncomputable abbrev gFlat : List V → Option (List (Str × V)) := fun ws => match ws with
  | [] => some [("word", .str "Flat")]
  | _ => none
noncomputable def t_Flat (K : Fg) : TS := tOx K "word" (tVar 0) (tC (V.str "Flat"))
theorem rd_Flat {K : Fg} {a C : Addr} {H : Hp} {D : Ends} (ha : H a = some (exo a C none)) (ox : OxK K C) (hn : PySem.W.findIn K (.ref C) "word" = some none)
    (q : ∀ d H', H d = none → H' a = some (exo a C (some d)) → H' d = some (exd d [("word", .str "Flat")]) → (∀ b, b ≠ a → b ≠ d → H' b = H b) → D.nx [some (.ref a)] H') : t_Flat K D [some (.ref a)] H := by
  refine ⟨.ref a, rfl, a, C, rfl, ox, hn, .inl ⟨ha, fun d hd hda => ?_⟩⟩
  refine q d _ hd upd_same (by rw [upd_ne hda, upd_same]) fun b h1 h2 => by rw [upd_ne h1, upd_ne h2]
theorem okFlat {Pg : Program} {w : World} {K : Fg} {mg : Str → Option Value} {base : Heap} {st : Stmt} {qual : Str} {f : Addr} {fd : FuncData} {k : Nat} (F : Fun K "__init__" qual st f fd) (S : FnScope ["self"] ["self"] (defScope st))
    (hb : ∀ (cdv : Value) (A : Around) (outer : List Env) (sh : Shared) (H : Hp) (E : XK), PSs (cxOf CX0 Pg w K mg base ["self"] qual (defScope st) f cdv A outer sh H E).nox (defBody st) (t_Flat K)) : FnOk Pg w K mg base CX0 (k + 1) f fd ["self"] (spIn K ["word"] gFlat) := qt_of (by simp (disch := with_unfolding_all
  refine F.ok S (fun vs H Q E h => ?_) (fun cdv A outer sh H vs Q E hr h => ?_)
  · obtain ⟨a, C, ws, fs, rfl, _, _, _, hg, _⟩ := h
    cases ws with
    | nil => rfl
    | cons _ _ => cases hg
  · obtain ⟨a, C, ws, fs, rfl, ha, ox, hn, hg, q⟩ := h
    cases ws with
    | cons _ _ => cases hg
    | nil =>
      cases hg
      exact ⟨_, hb cdv A outer sh H E, rd_Flat ha ox (hn _ (List.mem_singleton.mpr rfl)) q⟩
  ) only [↓qt_eq])
noncomputable abbrev xFlat : Xw := ⟨"Flat", [("word", .str "Flat")]⟩
noncomputable abbrev W0 : WX := fun _ _ _ _ => False
end U

end
section
namespace U
open PySem PyProof.Rows L2 Evl
/-- what is told of an own exception class by its name -/
structure ClsF (K : Fg) (cs : Cs) (c : Str) (nm : List Str) : Prop where
  ox : OxK K (cs c)
  no : ∀ n ∈ nm, PySem.W.findIn K (.ref (cs c)) n = some none
section
variable {K : Fg}
theorem fund_mk {x qual : Str} {st : Stmt} {f T : Addr} {oc ot : Value} {od odt an : Option Addr} {osl osT : Array (Option Value)} {kV doc pm cdv ct : Value} {its : List Value} {n : Nat} {dvs : List V}
    (l : K.lookup f = some ⟨oc, od, .func (PySem.W.fnOf x qual (defArgs st) (defBody st) (defScope st) (.ref T) kV doc pm an cdv ct), osl⟩)
    (c : PySem.W.codeIn K cdv qual = true) (k : PySem.W.keepIn K (.ref f) = true) (t : K.lookup T = some ⟨ot, odt, .seq its.toArray n, osT⟩) (r : Vals dvs its) (hd : dvs ≠ []) :
    FunD K x qual (defArgs st) (defBody st) (defScope st) dvs [] f (PySem.W.fnOf x qual (defArgs st) (defBody st) (defScope st) (.ref T) kV doc pm an cdv ct) :=
  ⟨⟨oc, od, _, kV, doc, pm, an, cdv, ct, osl, rfl, l, c, .inr ⟨hd, T, _, its, n, rfl, t, rfl, r⟩, .inl rfl⟩, k⟩
/-- exmOne of own classes -/
theorem em_of {C : Addr} {cls : Value} {b : Bool} (h1 : PySem.W.subIn K (.ref C) (.type "BaseException") = some true) (hdct : PySem.W.hasDictIn K C = true) (ht : PySem.W.typeIn K (.ref C) = some (.type "type")) (h4 : PySem.W.subIn K cls (.ref C) = some b) : PySem.W.exmOne K cls (.ref C) = some b := PySem.W.exm_ref h1 hdct ht h4
end
end U

end
section
/-! Own exceptions whose __init__ calls the base class's own. -/
namespace U
open PySem PySem.W PyProof.Rows L2 Evl
/-- C.m(e, ..), C an own class, m a plain def of it -/
theorem pe_up {X : Cx} {CX : CXT} {k : Nat} {x m : Str} {C g : Addr} {mc : Value} {fd : FuncData} {ps : List Str} {sp : Sp} {E : XK} {ds : List Value} {dvs : List V} {e : Expr} {es : List Expr} {t : TA} {p pos apos : Pos} {pl : Sem Bool}
    (hg : Gl X x) (hm : X.mg x = some (.ref C)) (rd : readsIn X.K C mc = true) (ga : specialIn X.K (.ref C) "__getattribute__" = some (some (.builtin "type.__getattribute__"))) (fa : findCls X.K (.ref C) mc m = some (.val (.ref g)))
    (hk : keepIn X.K (.ref g) = true) (F : FnOk X.prog X.w X.K X.mg X.base CX k g fd ps sp) (hr : Room k X.A) (hb : Binds X.K fd ps ds) (hd : Vals dvs ds) (hx : Passes CX X E) (ha : PA X (e :: es) t) (hdb : (x == ("__debug__" : Str)) = false := by decide)
    (ht : eval (.Call (.Attribute (.Name x p) m apos) (e :: es) [] pos) X.env = (do
      let ov ← eval (.Name x p) X.env
      standAt apos.atName
      let (f, first) ← holding [ov] (getMethod ov m pl)
      callWith pos f first (backTo pos (starEach (e :: es) X.env)) (backToKw pos (keywordEach [] X.env))) := by rfl)
    (he : starEach (e :: es) X.env = (false, eval e X.env) :: starEach es X.env := by rfl) (hpl : (backTo pos (starEach es X.env)).any (·.1) = false := by rfl) :
    PE X (.Call (.Attribute (.Name x p) m apos) (e :: es) [] pos) (tCall sp dvs E t) := by
  refine ⟨fun pins s σ H Q I h => ?_⟩
  refine methodCall_KW (pl := pl) (ld_glob I hg hm ?_ hdb) ht
  refine method_cls I.kIn ga (cls_value I.kIn rd fa rfl ?_)
  show wpAny _ _ (callWith pos (.ref g) [] (backTo pos (starEach (e :: es) X.env)) []) _ _ _
  refine callWith_K (h₀ := X.base) I.ok.mod.kin hk (thn (ha.run pos pins _ σ H _ (I.tok _) h) fun us s1 hh => ?_) he hpl
  obtain ⟨vs, H1, I1, r, q⟩ := hh
  exact ⟨I1.kIn, run_fn F hr hb hd hx I1 r q⟩
/-- self.word = word -/
noncomputable abbrev gWd : List V → Option (List (Str × V)) := fun ws => match ws with
  | [v] => some [("word", v)]
  | _ => none
/-- a word that is always the same -/
noncomputable abbrev gCw (w : Str) : List V → Option (List (Str × V)) := fun ws => match ws with
  | [] => some [("word", .str w)]
  | _ => none
noncomputable def t_Wd (K : Fg) : TS := tOx K "word" (tVar 0) (tVar 1)
section
variable {Pg : Program} {w : World} {K : Fg} {mg : Str → Option Value} {base : Heap} {cs : Cs}
theorem okWd {st : Stmt} {qual : Str} {dvs : List V} {f : Addr} {fd : FuncData} {k : Nat} (F : FunD K "__init__" qual (defArgs st) (defBody st) (defScope st) dvs [] f fd) (S : FnScope ["self", "word"] ["self", "word"] (defScope st))
    (hb : ∀ (cdv : Value) (A : Around) (outer : List Env) (sh : Shared) (H : Hp) (E : XK), PSs (cxOf CX0 Pg w K mg base ["self", "word"] qual (defScope st) f cdv A outer sh H E) (defBody st) (t_Wd K)) : FnOk Pg w K mg base CX0 (k + 1) f fd ["self", "word"] (spIn K ["word"] gWd) := qt_of (by simp (disch := with_unfolding_all
  refine F.ok S (fun vs H Q E h => ?_) (fun cdv A outer sh H vs Q E hr h => ?_)
  · obtain ⟨a, C, ws, fs, rfl, _, _, _, hg, _⟩ := h
    match ws, hg with
    | [v], _ => rfl
  · obtain ⟨a, C, ws, fs, rfl, ha, ox, hn, hg, q⟩ := h
    match ws, hg with
    | [v], hg =>
      cases hg
      refine ⟨_, hb cdv A outer sh H E, ?_⟩
      refine ⟨v, rfl, .ref a, rfl, a, C, rfl, ox, hn _ (List.mem_singleton.mpr rfl), .inl ⟨ha, fun d hd hda => ?_⟩⟩
      exact q d _ hd upd_same (by rw [upd_ne hda, upd_same]) fun b h1 h2 => by rw [upd_ne h1, upd_ne h2]
  ) only [↓qt_eq])
noncomputable def t_Sub (K : Fg) (w : Str) : TS := tDrop (tCall (spIn K ["word"] gWd) [] E0 (tCons (tVar 0) (tCons (tC (V.str w)) tNil)))
theorem okSub (wd : Str) {st : Stmt} {qual : Str} {f : Addr} {fd : FuncData} {k : Nat} (F : Fun K "__init__" qual st f fd) (S : FnScope ["self"] ["self"] (defScope st))
    (hb : ∀ (cdv : Value) (A : Around) (outer : List Env) (sh : Shared) (H : Hp) (E : XK), Room k (A.deeper (envOfC qual (defScope st) sh.heap.objs.size f cdv)) → PSs (cxOf CX0 Pg w K mg base ["self"] qual (defScope st) f cdv A outer sh H E).nox (defBody st) (t_Sub K wd)) : FnOk Pg w K mg base CX0 (k + 1) f fd ["self"] (spIn K ["word"] (gCw wd)) := qt_of (by simp (disch := with_unfolding_all
  refine F.ok S (fun vs H Q E h => ?_) (fun cdv A outer sh H vs Q E hr h => ?_)
  · obtain ⟨a, C, ws, fs, rfl, _, _, _, hg, _⟩ := h
    match ws, hg with
    | [], _ => rfl
  · obtain ⟨a, C, ws, fs, rfl, ha, ox, hn, hg, q⟩ := h
    match ws, hg with
    | [], hg =>
      cases hg
      refine ⟨_, hb cdv A outer sh H E hr, ?_⟩
      exact ⟨.ref a, rfl, a, C, [.str wd], _, rfl, ha, ox, hn, rfl, fun d H' h1 h2 h3 h4 => q d H' h1 h2 h3 h4⟩
  ) only [↓qt_eq])
end
noncomputable abbrev xWd (c : Str) : Xw := ⟨c, [("word", .str c)]⟩
end U

end
section
namespace U
open PySem PyProof.Rows L2 Evl
/-- the values of a module's constants -/
noncomputable abbrev Gs := Str → V
section
variable {K : Fg} {cs : Cs} {W : WX} {G G' G1 : Gam} {s s1 s2 s' : Bag} {ta tb te : TE} {x y : PyData} {e : Xw}
end
end U

end
section
namespace U
open PySem PySem.W PyProof.Rows L2 Evl
/-- *a, b = a tuple -/
noncomputable def gStar (K : Fg) (t : TGs) : TG := fun v σ H Q => ∃ p ys x, v = .ref p ∧ SqT K H p (ys ++ [x]) ∧ ys.length ≤ 10000 ∧ ∀ l, H l = none → t [.ref l, x] σ (upd H l (.lst ys)) Q
section
variable {prog : Program} {w : World} {A : Around} {E : Value → Shared → Prop} {s : Shared}
theorem star_items {t : Addr} {items : Array Value} {Q : List Value → Shared → Prop} (hh : A.handled = none) (hl : IsTup s.heap t items) (h0 : 1 ≤ items.size) (hz : items.size ≤ 16384)
    (h : ∀ h' tk, Heap.ExtBut s.heap.objs.size s.heap h' → wpAny (model prog w) A (newList (items.toList.take (items.size - 1)) >>= fun d => pure ([d] ++ items.toList.drop (items.size - 1))) Q E { s with heap := h', toks := tk }) : wpAny (model prog w) A (unpackItems (.ref t) 2 (some 0)) Q E s := qt_of (by simp (disch := with_unfolding_all
  have hlt : t ≠ s.heap.objs.size := by obtain ⟨o, ho, _⟩ := hl; exact Nat.ne_of_lt (Heap.lt_size ho)
  unfold unpackItems
  refine wpAny_bind ?_
  unfold notIterableAtAll
  refine wpAny_bind (wpAny_specialOf hl.typeIs slot_tuple_iter.lookup ?_)
  refine wpAny_pure ?_
  simp only [Bool.false_eq_true, if_false]
  refine wpAny_bind (wpAny_holding (iter_tuple hl ?_))
  refine wpAny_bind (wpAny_holding (draw_tuple hlt 0 0 _ _ ⟨_, Heap.get?_push_size _ rfl, rfl, rfl⟩ (hl.push _) (by omega) fun h₁ hit₁ hs₁ => ?_))
  have hl₁ : IsTup h₁ t items := (hl.push _).extBut hs₁.extBut hlt
  obtain ⟨oi, hoi, _⟩ := id hit₁
  obtain ⟨ol, hol, _⟩ := id hl₁
  rw [List.take_zero]
  rw [if_neg (by simp)]
  refine wpAny_bind (wpAny_holding (kun_collect (s := { s with heap := h₁ }) (T := "tuple_iterator") (.inr (.inr (.inr rfl))) (Walks.tuple (A := A.in1) hh s.heap.objs.size t hlt items) (fun j u st => st.1.typeIs) (k := 0) (by omega) ⟨hit₁, hl₁⟩ (Heap.lt_size hoi) (Heap.lt_size hol) (fun h₂ tk hk => ?_) (by rw [sizeLine_eq]; omega)))
  rw [List.drop_zero]
  have hrl : items.toList.length = items.size := Array.length_toList
  show wpAny _ _ (if items.toList.length < 2 - 1 - 0 then _ else _) _ _ _
  rw [if_neg (by rw [hrl]; omega)]
  have he : Heap.ExtBut s.heap.objs.size s.heap h₂ := fun b o hb e => hk b o hb (hs₁.extBut b o hb (Heap.get?_push_of_some _ e))
  have hh2 := h h₂ tk he
  rw [← hrl] at hh2
  exact hh2
  ) only [↓qt_eq])
end
theorem pg_star {X : Cx} {a b : Expr} {p pos : Pos} {k : Nat} {t : TGs} (hc : X.calm = true) (h : PGs X [a, b] t)
    (hn : (assignEach [.Starred a p, b] X.env).length = 2 := by rfl) (hst : (assignEach [.Starred a p, b] X.env).findIdx? (·.1) = some 0 := by rfl)
    (hm : (assignEach [.Starred a p, b] X.env).map (·.2) = (assignEach [a, b] X.env).map (·.2) := by rfl) : PG X (.Tuple [.Starred a p, b] k pos) (gStar X.K t) := by
  refine ⟨fun pins s σ H v u Q I r hw => ?_⟩
  obtain ⟨q, ys, x, e1, hq, hl, hw⟩ := hw
  subst e1
  cases r
  obtain ⟨its, rv, ht, hz⟩ := I.tuple hq
  have hlen : its.length = ys.length + 1 := by rw [← rv.length, List.length_append]; rfl
  obtain ⟨us, w, rfl, ru, rw'⟩ : ∃ us w, its = us ++ [w] ∧ Vals ys us ∧ RelV x w := by
    have key : ∀ (ys : List V) (x : V) (its : List Value), Vals (ys ++ [x]) its → ∃ us w, its = us ++ [w] ∧ Vals ys us ∧ RelV x w := fun ys => by
      induction ys with
      | nil =>
        intro x its r
        cases r with
        | cons a b => cases b; exact ⟨[], _, rfl, .nil, a⟩
      | cons y ys ih =>
        intro x its r
        cases r with
        | cons a b =>
          obtain ⟨us, w, rfl, r1, r2⟩ := ih _ _ b
          exact ⟨_ :: us, w, rfl, .cons a r1, r2⟩
    exact key ys x its rv
  have hus : us.length = ys.length := by simpa using hlen
  rw [assign_Tuple]
  refine wpAny_bind (wpAny_standAt ?_)
  unfold unpack
  rw [hn, hst, hm]
  refine wpAny_bind (wpAny_holding (star_items (I.ok.hd hc) ht (by simp) (by simp; omega) fun h' tk he => ?_))
  have e1 : (us ++ [w]).toArray.toList.take ((us ++ [w]).toArray.size - 1) = us := by simp
  have e2 : (us ++ [w]).toArray.toList.drop ((us ++ [w]).toArray.size - 1) = [w] := by simp
  rw [e1, e2]
  have I1 : Inv X pins σ H { s with heap := h', toks := tk } := I.kept (t' := tk) fun b o e => he b o (Nat.ne_of_lt (Heap.lt_size e)) e
  refine wpAny_bind (wpAny_newList ?_ (by rw [sizeLine_eq]; omega))
  refine wpAny_pure ?_
  have I2 := I1.lnew (t' := tk) ru (Nat.le_trans hl (by decide))
  exact h.run pins _ σ _ [.ref _, x] _ Q I2 (.cons rfl (.cons rw' .nil)) (hw _ I1.fresh)
end U

end
section
/-! zip of two things, each a list or a tuple, strict or not. -/
namespace U
open PySem PySem.W PyProof.Rows L2 Evl
inductive Kd where
  | L
  | T
noncomputable def ItK : Kd → Heap → Addr → Addr → Nat → Prop
  | .L, h, it, l, i => h.IsListIter it l i
  | .T, h, it, l, i => h.IsTupleIter it l i
noncomputable def SqK : Kd → Heap → Addr → Array Value → Prop
  | .L, h, l, xs => h.IsList l xs
  | .T, h, l, xs => h.IsTuple l xs
theorem ItK.extBut {k : Kd} {h h' : Heap} {it l b : Addr} {i : Nat} (x : ItK k h it l i) (e : Heap.ExtBut b h h') (n : it ≠ b) : ItK k h' it l i := by
  cases k with
  | L => exact Heap.IsListIter.extBut x e n
  | T => exact Heap.IsTupleIter.extBut x e n
theorem SqK.extBut {k : Kd} {h h' : Heap} {l b : Addr} {xs : Array Value} (x : SqK k h l xs) (e : Heap.ExtBut b h h') (n : l ≠ b) : SqK k h' l xs := by
  cases k with
  | L => exact Heap.IsList.extBut x e n
  | T => exact Heap.IsTuple.extBut x e n
theorem ItK.at_ {k : Kd} {h h' : Heap} {it l : Addr} {i : Nat} (x : ItK k h it l i) (e : ∀ o, h.get? it = some o → h'.get? it = some o) : ItK k h' it l i := by
  cases k with
  | L => exact Heap.IsListIter.at x e
  | T => exact Heap.IsTupleIter.at x e
theorem ItK.obj {k : Kd} {h : Heap} {it l : Addr} {i : Nat} (x : ItK k h it l i) : ∃ o, h.get? it = some o ∧ ∀ v, o.data ≠ .cell v := by
  cases k with
  | L => obtain ⟨o, e, _, d⟩ := x; exact ⟨o, e, fun v q => by rw [d] at q; cases q⟩
  | T => obtain ⟨o, e, _, d⟩ := x; exact ⟨o, e, fun v q => by rw [d] at q; cases q⟩
section
variable {prog : Program} {w : World} {A : Around} {E : Value → Shared → Prop} {s : Shared}
theorem nx_item {k : Kd} {it l : Addr} {i : Nat} {xs : Array Value} {x : Value} {Q : Value → Shared → Prop} (hit : ItK k s.heap it l i) (hl : SqK k s.heap l xs) (hx : xs[i]? = some x)
    (hQ : ∀ h', ItK k h' it l (i + 1) → Heap.SameBut it s.heap h' → Q x { s with heap := h' }) : wpAny (model prog w) A (Builtin.SmallTypes.nextOf (.ref it)) Q E s := by
  cases k with
  | L => exact wpAny_nextOf_list_item hit hl hx hQ
  | T => exact RZ.nextOf_tuple_item hit hl hx hQ
theorem nx_end {k : Kd} {it l : Addr} {i : Nat} {xs : Array Value} {Q : Value → Shared → Prop} (hh : A.handled = none) (hit : ItK k s.heap it l i) (hl : SqK k s.heap l xs) (hx : xs[i]? = none)
    (hE : ∀ h' e, Heap.ExtBut it s.heap h' → (∃ o, h'.get? e = some o ∧ o.cls = .type "StopIteration") → E (.ref e) { s with heap := h' }) : wpAny (model prog w) A (Builtin.SmallTypes.nextOf (.ref it)) Q E s := by
  cases k with
  | L => exact wpAny_nextOf_list_end hh hit hl hx hE
  | T => exact RZ.nextOf_tuple_end hh hit hl hx hE
theorem ne_item {k : Kd} {it l : Addr} {i : Nat} {xs : Array Value} {x : Value} {Q : Option Value → Shared → Prop} (hit : ItK k s.heap it l i) (hl : SqK k s.heap l xs) (hx : xs[i]? = some x)
    (hQ : ∀ h', ItK k h' it l (i + 1) → Heap.SameBut it s.heap h' → Q (some x) { s with heap := h' }) : wpAny (model prog w) A (Builtin.SmallTypes.nextOrEnd (.ref it)) Q E s := by
  unfold Builtin.SmallTypes.nextOrEnd
  exact wpAny_bind (wpAny_attempt (nx_item hit hl hx fun h' a b => wpAny_pure (hQ h' a b)))
theorem ne_end {k : Kd} {it l : Addr} {i : Nat} {xs : Array Value} {Q : Option Value → Shared → Prop} (hh : A.handled = none) (hit : ItK k s.heap it l i) (hl : SqK k s.heap l xs) (hx : xs[i]? = none)
    (hQ : ∀ h', Heap.ExtBut it s.heap h' → Q none { s with heap := h' }) : wpAny (model prog w) A (Builtin.SmallTypes.nextOrEnd (.ref it)) Q E s := qt_of (by simp (disch := with_unfolding_all
  unfold Builtin.SmallTypes.nextOrEnd
  refine wpAny_bind (wpAny_attempt (nx_end hh hit hl hx fun h' e hk he => ?_))
  obtain ⟨o, ho, hc⟩ := he
  refine wpAny_bind (wpAny_isInstance (T := "StopIteration") (b := true) ⟨o, ho, hc⟩ isSubtype_stop ?_)
  exact wpAny_pure (hQ _ hk)
  ) only [↓qt_eq])
noncomputable abbrev IsZipB (h : Heap) (z TI TO : Addr) (f0 : Value) (b : Bool) : Prop :=
  h.get? z = some { cls := .type "zip", dict := none, data := .fields #[f0, .bool false, .bool b, .ref TI, .ref TO], slots := #[] }
theorem zb_item {b : Bool} {k1 k2 : Kd} {z TI TO i1 i2 l1 l2 : Addr} {n1 n2 : Nat} {xs ys : Array Value} {x y u v : Value} {Q : Value → Shared → Prop} (D : ZipApart z TI TO i1 i2 l1 l2)
    (hz : IsZipB s.heap z TI TO .none b) (hTI : IsPair s.heap TI (.ref i1) (.ref i2)) (hTO : IsPair s.heap TO u v)
    (h1 : ItK k1 s.heap i1 l1 n1) (h2 : ItK k2 s.heap i2 l2 n2) (hl1 : SqK k1 s.heap l1 xs) (hl2 : SqK k2 s.heap l2 ys) (hx : xs[n1]? = some x) (hy : ys[n2]? = some y)
    (hQ : ∀ h', IsZipB h' z TI TO (rawInt s.heap.objs.size) b → IsPair h' TO x y → ItK k1 h' i1 l1 (n1 + 1) → ItK k2 h' i2 l2 (n2 + 1) → IsPair h' s.heap.objs.size x y → h'.objs.size = s.heap.objs.size + 1 →
      (∀ c o, c ≠ z → c ≠ TO → c ≠ i1 → c ≠ i2 → s.heap.get? c = some o → h'.get? c = some o) → Q (.ref s.heap.objs.size) { s with heap := h' }) :
    wpAny (model prog w) A (Builtin.«zip.__next__» ⟨[.ref z], []⟩) (fun fin s' => ∃ v, fin = .done (.ret v) ∧ Q v s') E s := qt_of (by simp (disch := with_unfolding_all
  show wpAny _ _ (field (.ref z) 2 >>= _) _ _ _
  refine wpAny_bind (wpAny_field hz rfl (x := .bool b) rfl ?_)
  show wpAny _ _ (field (.ref z) 3 >>= _) _ _ _
  refine wpAny_bind (wpAny_field hz rfl (x := .ref TI) rfl ?_)
  refine wpAny_bind (wpAny_seqItems hTI rfl ?_)
  show wpAny _ _ (Builtin.SmallTypes.ownedTupleIsFree (.ref z) >>= _) _ _ _
  refine wpAny_bind ?_
  unfold Builtin.SmallTypes.ownedTupleIsFree
  refine wpAny_bind (wpAny_field hz rfl (x := .none) rfl (wpAny_pure ?_))
  simp only [if_true]
  refine wpAny_bind (wpAny_rule ?_)
  refine wpAny_bind (wpAny_field hz rfl (x := .ref TO) rfl ?_)
  refine wpAny_bind (wpAny_setField_rec hz (by simp) fun h₁ hz₁ hs₁ => ?_)
  replace hz₁ : IsZipB h₁ z TI TO .ellipsis b := hz₁
  refine wpAny_bind ?_
  simp only [List.zipIdx_cons, List.zipIdx_nil, List.forIn_cons, List.forIn_nil]
  have draw : ∀ {k : Kd} {it l : Addr} {i : Nat} {zs : Array Value} {q : Value} {s : Shared} {R : Option Value → Shared → Prop} {E' : Value → Shared → Prop}, ItK k s.heap it l i → SqK k s.heap l zs → zs[i]? = some q →
      (∀ h', ItK k h' it l (i + 1) → Heap.SameBut it s.heap h' → R (some q) { s with heap := h' }) → wpAny (model prog w) A (if (Value.bool b == Value.bool true) = true then Builtin.SmallTypes.nextOrEnd (.ref it) else (do let y ← Builtin.SmallTypes.nextOf (.ref it); pure (some y))) R E' s := fun {k it l i zs q s R E'} a1 a2 a3 a4 => by
    cases b with
    | true => exact ne_item a1 a2 a3 a4
    | false => exact wpAny_bind (nx_item a1 a2 a3 fun h' c d => wpAny_pure (a4 h' c d))
  refine wpAny_bind (wpAny_bind (wpAny_onRaise ?_))
  refine draw (h1.extBut hs₁.extBut D.i1z) (hl1.extBut hs₁.extBut D.l1z) hx fun h₂ h1₂ hs₂ => ?_
  have hTO₂ : IsPair h₂ TO u v := hs₂.extBut _ _ D.TOi1 (hs₁.extBut _ _ D.TOz hTO)
  refine wpAny_bind (wpAny_seqItems hTO₂ rfl ?_)
  refine wpAny_bind (wpAny_updateSeq_pair hTO₂ fun h₃ hTO₃ hs₃ => ?_)
  replace hTO₃ : IsPair h₃ TO x v := hTO₃
  refine wpAny_bind (wpAny_letGo (wpAny_pure ?_))
  refine wpAny_bind (wpAny_bind (wpAny_onRaise ?_))
  refine draw (((h2.extBut hs₁.extBut D.i2z).extBut hs₂.extBut D.i12.symm).extBut hs₃.extBut D.TOi2.symm)
    (((hl2.extBut hs₁.extBut D.l2z).extBut hs₂.extBut D.l2i1).extBut hs₃.extBut D.l2TO) hy fun h₄ h2₄ hs₄ => ?_
  have hTO₄ : IsPair h₄ TO x v := hs₄.extBut _ _ D.TOi2 hTO₃
  refine wpAny_bind (wpAny_seqItems hTO₄ rfl ?_)
  refine wpAny_bind (wpAny_updateSeq_pair hTO₄ fun h₅ hTO₅ hs₅ => ?_)
  replace hTO₅ : IsPair h₅ TO x y := hTO₅
  refine wpAny_bind (wpAny_letGo (wpAny_pure (wpAny_pure ?_)))
  refine wpAny_bind (wpAny_seqItems hTO₅ rfl ?_)
  refine wpAny_bind (wpAny_newTuple ?_)
  have hsz : h₅.objs.size = s.heap.objs.size := by rw [hs₅.1, hs₄.1, hs₃.1, hs₂.1, hs₁.1]
  have hz₅ : IsZipB h₅ z TI TO .ellipsis b := hs₅.extBut _ _ D.TOz.symm (hs₄.extBut _ _ D.i2z.symm (hs₃.extBut _ _ D.TOz.symm (hs₂.extBut _ _ D.i1z.symm hz₁)))
  have hk₅ : ∀ c o, c ≠ z → c ≠ TO → c ≠ i1 → c ≠ i2 → s.heap.get? c = some o → h₅.get? c = some o := fun c o c1 c2 c3 c4 e =>
    hs₅.extBut _ _ c2 (hs₄.extBut _ _ c4 (hs₃.extBut _ _ c2 (hs₂.extBut _ _ c3 (hs₁.extBut _ _ c1 e))))
  have h1₅ : ItK k1 h₅ i1 l1 (n1 + 1) := ((h1₂.extBut hs₃.extBut D.TOi1.symm).extBut hs₄.extBut D.i12).extBut hs₅.extBut D.TOi1.symm
  have h2₅ : ItK k2 h₅ i2 l2 (n2 + 1) := h2₄.extBut hs₅.extBut D.TOi2.symm
  have hzlt : z < h₅.objs.size := Heap.lt_size hz₅
  show wpAny _ _ (Builtin.SmallTypes.ownedTupleHandOut (.ref z) (.ref h₅.objs.size) >>= _) _ _ _
  refine wpAny_bind ?_
  unfold Builtin.SmallTypes.ownedTupleHandOut
  have hz₆ : IsZipB (h₅.push { cls := .type "tuple", data := .seq #[x, y] }) z TI TO .ellipsis b := Heap.get?_push_of_some _ hz₅
  refine wpAny_bind (wpAny_setField_rec hz₆ (by simp) fun h₇ hz₇ hs₇ => ?_)
  replace hz₇ : IsZipB h₇ z TI TO (rawInt h₅.objs.size) b := hz₇
  refine wpAny_setField_rec hz₇ (by simp) fun h₈ hz₈ hs₈ => ?_
  replace hz₈ : IsZipB h₈ z TI TO (rawInt h₅.objs.size) b := hz₈
  have up : ∀ c o, c ≠ z → h₅.get? c = some o → h₈.get? c = some o := fun c o c1 e => hs₈.extBut _ _ c1 (hs₇.extBut _ _ c1 (Heap.get?_push_of_some _ e))
  have hT₈ : IsPair h₈ h₅.objs.size x y := hs₈.extBut _ _ (Nat.ne_of_gt hzlt) (hs₇.extBut _ _ (Nat.ne_of_gt hzlt) (Heap.get?_push_size _ rfl))
  have hz8 : h₈.objs.size = h₅.objs.size + 1 := by rw [hs₈.1, hs₇.1, Heap.size_push]
  rw [hsz] at hz₈ hT₈ hz8
  refine wpAny_pure ⟨_, rfl, ?_⟩
  show Q (.ref h₅.objs.size) _
  rw [hsz]
  exact hQ h₈ hz₈ (up _ _ D.TOz hTO₅) (h1₅.at_ fun o e => up _ o D.i1z e) (h2₅.at_ fun o e => up _ o D.i2z e) hT₈ hz8 fun c o c1 c2 c3 c4 e => up c o c1 (hk₅ c o c1 c2 c3 c4 e)
  ) only [↓qt_eq])
end
end U

end
section
/-! zip(a, b, strict=True) and zip(a, b): the end, the making. -/
namespace U
open PySem PySem.W PyProof.Rows L2 Evl
section
variable {prog : Program} {w : World} {A : Around} {E : Value → Shared → Prop} {s : Shared}
theorem zb_end {b : Bool} {k1 k2 : Kd} {z TI TO i1 i2 l1 l2 : Addr} {n1 n2 : Nat} {xs ys : Array Value} {u v : Value} {Q : Fin → Shared → Prop} (hh : A.handled = none) (D : ZipApart z TI TO i1 i2 l1 l2)
    (hz : IsZipB s.heap z TI TO .none b) (hTI : IsPair s.heap TI (.ref i1) (.ref i2)) (hTO : IsPair s.heap TO u v)
    (h1 : ItK k1 s.heap i1 l1 n1) (h2 : ItK k2 s.heap i2 l2 n2) (hl1 : SqK k1 s.heap l1 xs) (hl2 : SqK k2 s.heap l2 ys) (hend : (xs[n1]? = none ∧ (b = true → ys[n2]? = none)) ∨ (b = false ∧ ys[n2]? = none))
    (hE : ∀ h' e, (∀ c o, c ≠ z → c ≠ TO → c ≠ i1 → c ≠ i2 → s.heap.get? c = some o → h'.get? c = some o) → (∃ o, h'.get? e = some o ∧ o.cls = .type "StopIteration") → E (.ref e) { s with heap := h' }) :
    wpAny (model prog w) A (Builtin.«zip.__next__» ⟨[.ref z], []⟩) Q E s := qt_of (by simp (disch := with_unfolding_all
  show wpAny _ _ (field (.ref z) 2 >>= _) _ _ _
  refine wpAny_bind (wpAny_field hz rfl (x := .bool b) rfl ?_)
  show wpAny _ _ (field (.ref z) 3 >>= _) _ _ _
  refine wpAny_bind (wpAny_field hz rfl (x := .ref TI) rfl ?_)
  refine wpAny_bind (wpAny_seqItems hTI rfl ?_)
  show wpAny _ _ (Builtin.SmallTypes.ownedTupleIsFree (.ref z) >>= _) _ _ _
  refine wpAny_bind ?_
  unfold Builtin.SmallTypes.ownedTupleIsFree
  refine wpAny_bind (wpAny_field hz rfl (x := .none) rfl (wpAny_pure ?_))
  simp only [if_true]
  refine wpAny_bind (wpAny_rule ?_)
  refine wpAny_bind (wpAny_field hz rfl (x := .ref TO) rfl ?_)
  refine wpAny_bind (wpAny_setField_rec hz (by simp) fun h₁ hz₁ hs₁ => ?_)
  replace hz₁ : IsZipB h₁ z TI TO .ellipsis b := hz₁
  refine wpAny_bind ?_
  simp only [List.zipIdx_cons, List.zipIdx_nil, List.forIn_cons, List.forIn_nil]
  have h1' := h1.extBut hs₁.extBut D.i1z
  have hl1' := hl1.extBut hs₁.extBut D.l1z
  cases b with
  | false =>
    refine wpAny_bind (wpAny_bind (wpAny_onRaise ?_))
    show wpAny _ _ (Builtin.SmallTypes.nextOf (.ref i1) >>= _) _ _ _
    cases hx : xs[n1]? with
    | none =>
      refine wpAny_bind (nx_end hh h1' hl1' hx fun h₂ e hs₂ he => ?_)
      obtain ⟨oe, hoe, hce⟩ := he
      have hz₂ : IsZipB h₂ z TI TO .ellipsis false := hs₂ _ _ D.i1z.symm hz₁
      have hez : e ≠ z := fun x => by subst x; rw [hz₂] at hoe; cases hoe; simp at hce
      refine wpAny_setField_rec hz₂ (by simp) fun h₃ _ hs₃ => hE h₃ e (fun c o c1 _ c3 _ x => hs₃.extBut _ _ c1 (hs₂ _ _ c3 (hs₁.extBut _ _ c1 x))) ⟨oe, hs₃.extBut _ _ hez hoe, hce⟩
    | some x =>
      have hy : ys[n2]? = none := by rcases hend with h | h; rw [hx] at h; cases h.1; exact h.2
      refine wpAny_bind (nx_item h1' hl1' hx fun h₂ h1₂ hs₂ => wpAny_pure ?_)
      have hTO₂ : IsPair h₂ TO u v := hs₂.extBut _ _ D.TOi1 (hs₁.extBut _ _ D.TOz hTO)
      refine wpAny_bind (wpAny_seqItems hTO₂ rfl ?_)
      refine wpAny_bind (wpAny_updateSeq_pair hTO₂ fun h₃ hTO₃ hs₃ => ?_)
      refine wpAny_bind (wpAny_letGo (wpAny_pure ?_))
      refine wpAny_bind (wpAny_bind (wpAny_onRaise ?_))
      show wpAny _ _ (Builtin.SmallTypes.nextOf (.ref i2) >>= _) _ _ _
      refine wpAny_bind (nx_end hh (((h2.extBut hs₁.extBut D.i2z).extBut hs₂.extBut D.i12.symm).extBut hs₃.extBut D.TOi2.symm)
        (((hl2.extBut hs₁.extBut D.l2z).extBut hs₂.extBut D.l2i1).extBut hs₃.extBut D.l2TO) hy fun h₄ e hs₄ he => ?_)
      obtain ⟨oe, hoe, hce⟩ := he
      have hz₄ : IsZipB h₄ z TI TO .ellipsis false := hs₄ _ _ D.i2z.symm (hs₃.extBut _ _ D.TOz.symm (hs₂.extBut _ _ D.i1z.symm hz₁))
      have hez : e ≠ z := fun x => by subst x; rw [hz₄] at hoe; cases hoe; simp at hce
      refine wpAny_setField_rec hz₄ (by simp) fun h₅ _ hs₅ => hE h₅ e (fun c o c1 c2 c3 c4 x => hs₅.extBut _ _ c1 (hs₄ _ _ c4 (hs₃.extBut _ _ c2 (hs₂.extBut _ _ c3 (hs₁.extBut _ _ c1 x))))) ⟨oe, hs₅.extBut _ _ hez hoe, hce⟩
  | true =>
    obtain ⟨hx, hy⟩ : xs[n1]? = none ∧ ys[n2]? = none := by
      rcases hend with h | h
      · exact ⟨h.1, h.2 rfl⟩
      · cases h.1
    refine wpAny_bind (wpAny_bind (wpAny_onRaise ?_))
    show wpAny _ _ (Builtin.SmallTypes.nextOrEnd (.ref i1)) _ _ _
    refine ne_end hh h1' hl1' hx fun h₂ hs₂ => ?_
    have hz₂ : IsZipB h₂ z TI TO .ellipsis true := hs₂ _ _ D.i1z.symm hz₁
    refine wpAny_bind (wpAny_setField_rec hz₂ (by simp) fun h₃ hz₃ hs₃ => ?_)
    have h2₃ : ItK k2 h₃ i2 l2 n2 := ((h2.extBut hs₁.extBut D.i2z).extBut hs₂ D.i12.symm).extBut hs₃.extBut D.i2z
    have hl2₃ : SqK k2 h₃ l2 ys := ((hl2.extBut hs₁.extBut D.l2z).extBut hs₂ D.l2i1).extBut hs₃.extBut D.l2z
    refine wpAny_bind ?_
    show wpAny _ _ (forIn [((Value.ref i2 : Value), (1 : Nat))] _ _ >>= _) _ _ _
    refine wpAny_bind ?_
    simp only [List.forIn_cons, List.forIn_nil]
    refine wpAny_bind (wpAny_bind ?_)
    refine ne_end hh h2₃ hl2₃ hy fun h₄ hs₄ => ?_
    simp only [Option.isSome_none, Bool.false_eq_true, if_false]
    refine wpAny_pure ?_
    refine wpAny_pure ?_
    refine wpAny_bind (wpAny_rule ?_)
    show wpAny _ _ (newExc (.type "StopIteration") [] >>= _) _ _ _
    refine wpAny_bind ?_
    simp only [newExc, newTuple]
    refine wpAny_bind (wpAny_newObj_type ?_ (by size_fits))
    refine wpAny_bind (m := firstArgMember _ _) (wpAny_of_eq (a := Value.none) (by first | rfl | (simp only [firstArgMember]; rfl)) ?_)
    refine wpAny_newObj_type ?_ (by size_fits)
    simp only [raiseNew]
    refine wpAny_bind (wpAny_handled ?_)
    rw [hh]
    refine wpAny_bind (wpAny_pure (wpAny_throw ?_))
    refine hE _ _ (fun c o c1 c2 c3 c4 x => ?_) ⟨_, Heap.get?_push_size _ rfl, rfl⟩
    exact Heap.get?_push_of_some _ (Heap.get?_push_of_some _ (hs₄ _ _ c4 (hs₃.extBut _ _ c1 (hs₂ _ _ c3 (hs₁.extBut _ _ c1 x)))))
  ) only [↓qt_eq])
theorem pyNext_zb_item {b : Bool} {k1 k2 : Kd} {z TI TO i1 i2 l1 l2 : Addr} {n1 n2 : Nat} {xs ys : Array Value} {x y u v : Value} {Q : Option Value → Shared → Prop} (D : ZipApart z TI TO i1 i2 l1 l2)
    (hz : IsZipB s.heap z TI TO .none b) (hTI : IsPair s.heap TI (.ref i1) (.ref i2)) (hTO : IsPair s.heap TO u v)
    (h1 : ItK k1 s.heap i1 l1 n1) (h2 : ItK k2 s.heap i2 l2 n2) (hl1 : SqK k1 s.heap l1 xs) (hl2 : SqK k2 s.heap l2 ys) (hx : xs[n1]? = some x) (hy : ys[n2]? = some y)
    (hQ : ∀ h', IsZipB h' z TI TO (rawInt s.heap.objs.size) b → IsPair h' TO x y → ItK k1 h' i1 l1 (n1 + 1) → ItK k2 h' i2 l2 (n2 + 1) → IsPair h' s.heap.objs.size x y → h'.objs.size = s.heap.objs.size + 1 →
      (∀ c o, c ≠ z → c ≠ TO → c ≠ i1 → c ≠ i2 → s.heap.get? c = some o → h'.get? c = some o) → Q (some (.ref s.heap.objs.size)) { s with heap := h' }) :
    wpAny (model prog w) A (pyNext (.ref z)) Q E s := qt_of (by simp (disch := with_unfolding_all
  have hT : s.TypeIs (.ref z) "zip" := ⟨_, hz, rfl⟩
  unfold pyNext
  exact wpAny_bind (wpAny_attempt (wpAny_callSpecial?_slot (name := Str.ofString "__next__") hT F.slot_zip_next
    (wpAny_call_entry F.slot_zip_next hT F.entry_zip_next
      (zb_item D hz hTI hTO h1 h2 hl1 hl2 hx hy fun h' a1 a2 a3 a4 a5 a6 a7 => wpAny_pure (hQ h' a1 a2 a3 a4 a5 a6 a7)) (F.args_zip_next_1 _))))
  ) only [↓qt_eq])
theorem pyNext_zb_end {b : Bool} {k1 k2 : Kd} {z TI TO i1 i2 l1 l2 : Addr} {n1 n2 : Nat} {xs ys : Array Value} {u v : Value} {Q : Option Value → Shared → Prop} (hh : A.handled = none) (D : ZipApart z TI TO i1 i2 l1 l2)
    (hz : IsZipB s.heap z TI TO .none b) (hTI : IsPair s.heap TI (.ref i1) (.ref i2)) (hTO : IsPair s.heap TO u v)
    (h1 : ItK k1 s.heap i1 l1 n1) (h2 : ItK k2 s.heap i2 l2 n2) (hl1 : SqK k1 s.heap l1 xs) (hl2 : SqK k2 s.heap l2 ys) (hend : (xs[n1]? = none ∧ (b = true → ys[n2]? = none)) ∨ (b = false ∧ ys[n2]? = none))
    (hQ : ∀ h', (∀ c o, c ≠ z → c ≠ TO → c ≠ i1 → c ≠ i2 → s.heap.get? c = some o → h'.get? c = some o) → Q none { s with heap := h' }) : wpAny (model prog w) A (pyNext (.ref z)) Q E s := qt_of (by simp (disch := with_unfolding_all
  have hT : s.TypeIs (.ref z) "zip" := ⟨_, hz, rfl⟩
  unfold pyNext
  refine wpAny_bind (wpAny_attempt (wpAny_callSpecial?_slot (name := Str.ofString "__next__") hT F.slot_zip_next
    (wpAny_call_entry F.slot_zip_next hT F.entry_zip_next (zb_end hh D hz hTI hTO h1 h2 hl1 hl2 hend fun h' e hk he => ?_) (F.args_zip_next_1 _))))
  obtain ⟨o, ho, hc⟩ := he
  refine wpAny_bind (wpAny_isInstance (T := "StopIteration") (b := true) ⟨o, ho, hc⟩ isSubtype_stop ?_)
  exact wpAny_pure (hQ _ hk)
  ) only [↓qt_eq])
/-! ### the making -/
noncomputable def itN : Kd → String
  | .L => "list_iterator"
  | .T => "tuple_iterator"
noncomputable abbrev zH1 (k1 : Kd) (h : Heap) (l1 : Addr) : Heap := h.push { cls := .type (itN k1), data := .fields #[.ref l1, .int 0 0] }
noncomputable abbrev zH2 (k1 k2 : Kd) (h : Heap) (l1 l2 : Addr) : Heap := (zH1 k1 h l1).push { cls := .type (itN k2), data := .fields #[.ref l2, .int 0 0] }
noncomputable abbrev zH3 (k1 k2 : Kd) (h : Heap) (l1 l2 : Addr) : Heap := (zH2 k1 k2 h l1 l2).push { cls := .type "tuple", data := .seq #[.ref h.objs.size, .ref (zH1 k1 h l1).objs.size] }
noncomputable abbrev zH4 (k1 k2 : Kd) (h : Heap) (l1 l2 : Addr) : Heap := (zH3 k1 k2 h l1 l2).push { cls := .type "tuple", data := .seq #[.none, .none] }
noncomputable abbrev zH5 (b : Bool) (k1 k2 : Kd) (h : Heap) (l1 l2 : Addr) : Heap := (zH4 k1 k2 h l1 l2).push { cls := .type "zip", data := .fields #[.none, .bool false, .bool b, .ref (zH2 k1 k2 h l1 l2).objs.size, .ref (zH3 k1 k2 h l1 l2).objs.size] }
theorem SqK.push {k : Kd} {h : Heap} {l : Addr} {xs : Array Value} (x : SqK k h l xs) (o : Obj) : SqK k (h.push o) l xs := by
  cases k with
  | L => exact Heap.IsList.push x o
  | T => exact Heap.IsTuple.push x o
theorem iter_k {k : Kd} {l : Addr} {xs : Array Value} {Q : Value → Shared → Prop} (hl : SqK k s.heap l xs) (h : Q (.ref s.heap.objs.size) { s with heap := s.heap.push { cls := .type (itN k), data := .fields #[.ref l, .int 0 0] } }) : wpAny (model prog w) A (pyIter (.ref l)) Q E s := by
  cases k with
  | L => exact wpAny_pyIter_list hl h
  | T => exact wpAny_pyIter_tuple hl h
end
theorem meets_zb_new (k1 k2 : Kd) (l1 l2 : Addr) (xs ys : Array Value) :
    Meets (Builtin.«zip.__new__» ⟨[.type "zip", .ref l1, .ref l2], []⟩) (fun _ R s => SqK k1 s.heap l1 xs ∧ SqK k2 s.heap l2 ys ∧
      R (.ok (.ret (.ref (zH4 k1 k2 s.heap l1 l2).objs.size))) { s with heap := zH5 false k1 k2 s.heap l1 l2 }) :=
  .of_wp fun prog w A R s h => by
    obtain ⟨hp, g, d, tk, os⟩ := s; obtain ⟨hl1, hl2, h⟩ := h
    have hsub := sub_zip
    have hL1 : SqK k1 (Shared.heap ⟨hp, g, d, tk, os⟩) l1 xs := hl1
    have hL2 : SqK k2 (Shared.heap ⟨hp.push { cls := .type (itN k1), data := .fields #[.ref l1, .int 0 0] }, g, d, tk, os⟩) l2 ys := hl2.push _
    wp_walk using iter_k hL1, iter_k hL2
    exact ⟨_, rfl, h⟩
theorem meets_zs_new (k1 k2 : Kd) (l1 l2 : Addr) (xs ys : Array Value) :
    Meets (Builtin.«zip.__new__» ⟨[.type "zip", .ref l1, .ref l2], [("strict", .bool true)]⟩) (fun _ R s => SqK k1 s.heap l1 xs ∧ SqK k2 s.heap l2 ys ∧
      R (.ok (.ret (.ref (zH4 k1 k2 s.heap l1 l2).objs.size))) { s with heap := zH5 true k1 k2 s.heap l1 l2 }) :=
  .of_wp fun prog w A R s h => by
    obtain ⟨hp, g, d, tk, os⟩ := s; obtain ⟨hl1, hl2, h⟩ := h
    have hsub := sub_zip
    have hL1 : SqK k1 (Shared.heap ⟨hp, g, d, tk, os⟩) l1 xs := hl1
    have hL2 : SqK k2 (Shared.heap ⟨hp.push { cls := .type (itN k1), data := .fields #[.ref l1, .int 0 0] }, g, d, tk, os⟩) l2 ys := hl2.push _
    wp_walk using iter_k hL1, iter_k hL2
    exact ⟨_, rfl, h⟩
section
variable {prog : Program} {w : World} {A : Around} {E : Value → Shared → Prop} {s : Shared}
end
end U

end
section
namespace U
open PySem PySem.W PyProof.Rows L2 Evl
section
variable {prog : Program} {w : World} {A : Around} {E : Value → Shared → Prop} {s : Shared}
theorem callType_meetsK {T newId initId : String} {Bn Bi : Builtin} {args : List Value} {kw : List (Str × Value)} {S : PySem.Spec} {Q Q₁ : Value → Shared → Prop} (ft : TypeCalled T newId initId)
    (hct : checkTypeCall T ⟨args, kw⟩ = pure ()) (hcn : checkBuiltinCall newId ⟨.type T :: args, kw⟩ = pure ())
    (entryN : entryFor table newId = some Bn) (entryI : entryFor table initId = some Bi) (g : Meets (Bn ⟨.type T :: args, kw⟩) S)
    (h : S A.in1 (wants Q₁ E) s)
    (hnext : ∀ obj s₁, Q₁ obj s₁ → s₁.TypeIs obj T ∧ argsOk initId ⟨obj :: args, kw⟩ ∧ ∃ Si, Meets (Bi ⟨obj :: args, kw⟩) Si ∧ Si A.in1 (wants (fun r s₂ => r = .none ∧ Q obj s₂) E) s₁) :
    wpAny (model prog w) A (call (.type T) args kw) Q E s := qt_of (by simp (disch := with_unfolding_all
  obtain ⟨c, tl, hmro⟩ := ft.mro
  have hmade := ft.made
  have hsub := ft.sub
  refine wpAny_call (codeAny_of_tree ?_)
  show wpAny _ _ (callAny (.type T) _) _ _ _
  refine wpAny_pure ⟨Code.quiet_builtin _ (by decide +kernel), codeAny_builtin F.entry_type_call ?_⟩
  rw [Around.under_plain (weight_type_call_type T args kw) (units_type_call_type T args kw)]
  have h1 := ft.notType
  have h2 := ft.canCreate
  repeat (any_goals (first | assumption | wp_step))
  refine codeAny_mono (codeAny_call_builtin ft.plain entryN (wpAny_of_eq hcn (g prog w A.in1 _ s h))) fun r s₁ hr => ?_
  cases r with
  | error e => exact hr
  | ok fl =>
    cases fl with
    | ret obj =>
      obtain ⟨hT, hok, Si, gi, hsi⟩ := hnext _ _ hr
      have hli := ft.init.lookup
      have hbi := ft.init.bind obj
      repeat (any_goals (first | assumption | wp_step))
      refine codeAny_mono (codeAny_call_builtin ft.init.plain entryI (ft.init.check _ _ _ _ _ _ _ _ hT hok (gi prog w A.in1 _ s₁ hsi))) fun r₂ s₂ hr₂ => ?_
      cases r₂ with
      | error e => exact hr₂
      | ok fl₂ =>
        cases fl₂ with
        | ret r =>
          obtain ⟨rfl, hq⟩ := hr₂
          repeat (any_goals (first | assumption | wp_step))
        | _ => exact hr₂.elim
    | _ => exact hr.elim
  ) only [↓qt_eq])
theorem object_init_meetsK {T newId : String} {self : Value} {rest : List Value} {kw : List (Str × Value)} (hl : typeLookup (.type T) "__init__" = pure (some (.builtin "object.__init__")))
    (hm : Bind.madeBy (.type T) = pure (some newId)) (hne : (some newId != some "object.__new__") = true) (hr : rest ≠ []) :
    Meets (Builtin.«object.__init__» ⟨self :: rest, kw⟩) (fun _ R s => s.TypeIs self T ∧ R (.ok (.ret .none)) s) := qt_of (by simp (disch := with_unfolding_all
  refine Meets.of_wp fun prog w A R s hs => ?_
  obtain ⟨hT, hq⟩ := hs
  cases rest with
  | nil => exact absurd rfl hr
  | cons a rest =>
    repeat (any_goals (first | assumption | wp_step))
    exact ⟨_, rfl, hq⟩
  ) only [↓qt_eq])
theorem zs_type (a b : Value) : checkTypeCall "zip" ⟨[a, b], [("strict", .bool true)]⟩ = pure () := by kernel_rfl
theorem zs_new (a b : Value) : checkBuiltinCall "zip.__new__" ⟨[.type "zip", a, b], [("strict", .bool true)]⟩ = pure () := by kernel_rfl
theorem zs_init (o a b : Value) : argsOk "object.__init__" ⟨[o, a, b], [("strict", .bool true)]⟩ := by kernel_rfl
theorem zb_made {b : Bool} {k1 k2 : Kd} {l1 l2 : Addr} {Q : Value → Shared → Prop}
    (h : ∀ h', IsZipB h' (s.heap.objs.size + 4) (s.heap.objs.size + 2) (s.heap.objs.size + 3) .none b → IsPair h' (s.heap.objs.size + 2) (.ref s.heap.objs.size) (.ref (s.heap.objs.size + 1)) →
      IsPair h' (s.heap.objs.size + 3) .none .none → ItK k1 h' s.heap.objs.size l1 0 → ItK k2 h' (s.heap.objs.size + 1) l2 0 → h'.objs.size = s.heap.objs.size + 5 →
      (∀ c o, s.heap.get? c = some o → h'.get? c = some o) → Q (.ref (s.heap.objs.size + 4)) { s with heap := h' }) :
    (∃ o, (zH5 b k1 k2 s.heap l1 l2).get? (zH4 k1 k2 s.heap l1 l2).objs.size = some o ∧ o.cls = .type "zip") ∧ Q (.ref (zH4 k1 k2 s.heap l1 l2).objs.size) { s with heap := zH5 b k1 k2 s.heap l1 l2 } := qt_of (by simp (disch := with_unfolding_all
  have z1 : (zH1 k1 s.heap l1).objs.size = s.heap.objs.size + 1 := Heap.size_push ..
  have z2 : (zH2 k1 k2 s.heap l1 l2).objs.size = s.heap.objs.size + 2 := by rw [Heap.size_push, z1]
  have z3 : (zH3 k1 k2 s.heap l1 l2).objs.size = s.heap.objs.size + 3 := by rw [Heap.size_push, z2]
  have z4 : (zH4 k1 k2 s.heap l1 l2).objs.size = s.heap.objs.size + 4 := by rw [Heap.size_push, z3]
  have z5 : (zH5 b k1 k2 s.heap l1 l2).objs.size = s.heap.objs.size + 5 := by rw [Heap.size_push, z4]
  have g5 : (zH5 b k1 k2 s.heap l1 l2).get? (zH4 k1 k2 s.heap l1 l2).objs.size = some _ := Heap.get?_push_size _ rfl
  have g4 : (zH5 b k1 k2 s.heap l1 l2).get? (zH3 k1 k2 s.heap l1 l2).objs.size = some _ := Heap.get?_push_of_some _ (Heap.get?_push_size _ rfl)
  have g3 : (zH5 b k1 k2 s.heap l1 l2).get? (zH2 k1 k2 s.heap l1 l2).objs.size = some _ := Heap.get?_push_of_some _ (Heap.get?_push_of_some _ (Heap.get?_push_size _ rfl))
  have g2 : (zH5 b k1 k2 s.heap l1 l2).get? (zH1 k1 s.heap l1).objs.size = some _ := Heap.get?_push_of_some _ (Heap.get?_push_of_some _ (Heap.get?_push_of_some _ (Heap.get?_push_size _ rfl)))
  have g1 : (zH5 b k1 k2 s.heap l1 l2).get? s.heap.objs.size = some _ := Heap.get?_push_of_some _ (Heap.get?_push_of_some _ (Heap.get?_push_of_some _ (Heap.get?_push_of_some _ (Heap.get?_push_size _ rfl))))
  rw [z2, z3, z4] at g5
  rw [z1, z2] at g3
  rw [z3] at g4
  rw [z1] at g2
  rw [z4]
  have it : ∀ {k : Kd} {h : Heap} {i l : Addr}, h.get? i = some { cls := .type (itN k), data := .fields #[.ref l, .int 0 0] } → ItK k h i l 0 := fun {k h i l} e => by
    cases k with
    | L => exact ⟨_, e, rfl, rfl⟩
    | T => exact ⟨_, e, rfl, rfl⟩
  exact ⟨⟨_, g5, rfl⟩, h _ g5 g3 g4 (it g1) (it g2) z5 fun c o x =>
    Heap.get?_push_of_some _ (Heap.get?_push_of_some _ (Heap.get?_push_of_some _ (Heap.get?_push_of_some _ (Heap.get?_push_of_some _ x))))⟩
  ) only [↓qt_eq])
noncomputable def kwS : Bool → List (Str × Value)
  | true => [("strict", .bool true)]
  | false => []
theorem call_zb {b : Bool} {k1 k2 : Kd} {l1 l2 : Addr} {xs ys : Array Value} {Q : Value → Shared → Prop} (hl1 : SqK k1 s.heap l1 xs) (hl2 : SqK k2 s.heap l2 ys)
    (h : ∀ h', IsZipB h' (s.heap.objs.size + 4) (s.heap.objs.size + 2) (s.heap.objs.size + 3) .none b → IsPair h' (s.heap.objs.size + 2) (.ref s.heap.objs.size) (.ref (s.heap.objs.size + 1)) →
      IsPair h' (s.heap.objs.size + 3) .none .none → ItK k1 h' s.heap.objs.size l1 0 → ItK k2 h' (s.heap.objs.size + 1) l2 0 → h'.objs.size = s.heap.objs.size + 5 →
      (∀ c o, s.heap.get? c = some o → h'.get? c = some o) → Q (.ref (s.heap.objs.size + 4)) { s with heap := h' }) :
    wpAny (model prog w) A (call (.type "zip") [.ref l1, .ref l2] (kwS b)) Q E s := qt_of (by simp (disch := with_unfolding_all
  cases b with
  | false =>
    refine callType_new F.called_zip (by decide) (F.typeCall_zip_2 _ _) (F.newCall_zip_2 _ _) (fun obj => F.args_object_init_3 obj _ _) F.entry_zip_new (meets_zb_new k1 k2 l1 l2 xs ys) ⟨hl1, hl2, ?_⟩
    exact zb_made h
  | true =>
    refine callType_meetsK (Q₁ := fun obj s₁ => s₁.TypeIs obj "zip" ∧ Q obj s₁) F.called_zip (zs_type _ _) (zs_new _ _) F.entry_zip_new F.entry_object_init (meets_zs_new k1 k2 l1 l2 xs ys) ⟨hl1, hl2, ?_⟩ fun obj s₁ hq => ⟨hq.1, zs_init _ _ _, _, object_init_meetsK F.called_zip.init.lookup F.called_zip.made (by decide) (by simp), hq.1, rfl, hq.2⟩
    exact zb_made h
  ) only [↓qt_eq])
end
end U

end
section
namespace U
open PySem PySem.W PyProof.Rows L2 Evl
section
variable {prog : Program} {w : World} {A : Around} {E : Value → Shared → Prop} {s : Shared}
theorem letGo_zb {b : Bool} {elts : List Expr} {x1} {pos : Pos} {z TI TO T : Addr} {Q : Unit → Shared → Prop} (hz : IsZipB s.heap z TI TO (rawInt T) b)
    (hQ : ∀ h', IsZipB h' z TI TO .none b → Heap.SameBut z s.heap h' → Q () { s with heap := h' }) :
    wpAny (model prog w) A (letOwnedTupleGo (.Tuple elts x1 pos) (.ref z) (.ref T)) Q E s := qt_of (by simp (disch := with_unfolding_all
  unfold letOwnedTupleGo
  refine wpAny_bind (wpAny_load hz ?_)
  show wpAny _ _ (if (["enumerate", "zip", "dict_itemiterator", "dict_reverseitemiterator", "odict_iterator", "itertools.zip_longest", "itertools.pairwise"].contains "zip" &&
      (#[rawInt T, .bool false, .bool b, .ref TI, .ref TO] : Array Value)[0]? == some (rawInt T)) = true then _ else _) Q E s
  rw [if_pos (by simp)]
  refine wpAny_bind (wpAny_rule ?_)
  show wpAny _ _ (setField (.ref z) 0 .none) Q E s
  exact wpAny_setField_rec hz (by simp) fun h' hz' hs' => hQ h' hz' hs'
  ) only [↓qt_eq])
theorem iter_zb {b : Bool} {z TI TO : Addr} {f0 : Value} {Q : Value → Shared → Prop} (hz : IsZipB s.heap z TI TO f0 b) (h : Q (.ref z) s) : wpAny (model prog w) A (pyIter (.ref z)) Q E s := qt_of (by simp (disch := with_unfolding_all
  have hT : s.TypeIs (.ref z) "zip" := ⟨_, hz, rfl⟩
  refine wpAny_pyIter_slot hT F.slot_zip_iter (wpAny_call_entry F.slot_zip_iter hT F.entry_zip_iter ?_ (F.args_zip_iter_1 _))
  show wpAny _ _ (ret (.ref z)) _ _ s
  exact wpAny_pure ⟨_, rfl, "zip", _, hT, F.slot_zip_next.lookup, h⟩
  ) only [↓qt_eq])
end
noncomputable def SqV (K : Fg) : Kd → Hp → Addr → List V → Prop
  | .L, H, a, xs => SqL K H a xs
  | .T, H, a, xs => SqT K H a xs
theorem SqV.inv {X : Cx} {pins : List (Addr × Obj)} {σ : St} {H : Hp} {s : Shared} {k : Kd} {a : Addr} {xs : List V} (I : Inv X pins σ H s) (h : SqV X.K k H a xs) : ∃ its, Vals xs its ∧ SqK k s.heap a its.toArray ∧ a < s.heap.objs.size := qt_of (by simp (disch := with_unfolding_all
  cases k with
  | L =>
    obtain ⟨its, rv, p, _⟩ := I.list h
    exact ⟨its, rv, p.isList, p.lt⟩
  | T =>
    obtain ⟨its, rv, p, _⟩ := I.tuple h
    obtain ⟨o, ho, _⟩ := id p
    exact ⟨its, rv, p, Heap.lt_size ho⟩
  ) only [↓qt_eq])
theorem SqV.inj {X : Cx} {pins : List (Addr × Obj)} {σ : St} {H : Hp} {s : Shared} {k : Kd} {a : Addr} {xs ys : List V} (I : Inv X pins σ H s) (h : SqV X.K k H a xs) (g : SqV X.K k H a ys) : xs = ys := by
  cases k with
  | L => exact I.list_inj h g
  | T => exact I.tuple_inj h g
/-- the items of two, each a list or a tuple, in new pairs -/
noncomputable def ItzM (K : Fg) (k1 k2 : Kd) (b : Bool) (a c : Addr) : It :=
  ⟨fun i H => ∃ (xs ys : List V) (x y : V), SqV K k1 H a xs ∧ SqV K k2 H c ys ∧ xs[i]? = some x ∧ ys[i]? = some y,
    fun i H v H' => ∃ T x y, v = .ref T ∧ H T = none ∧ H' = upd H T (.tup [x, y]) ∧ (∀ xs, SqV K k1 H a xs → xs[i]? = some x) ∧ ∀ ys, SqV K k2 H c ys → ys[i]? = some y,
    fun i H => ∃ xs ys : List V, SqV K k1 H a xs ∧ SqV K k2 H c ys ∧ ((xs.length ≤ i ∧ (b = true → ys.length ≤ i)) ∨ (b = false ∧ ys.length ≤ i))⟩
theorem turn_zipM {P : Program} {w : World} {K : Fg} {elts : List Expr} {kk : Nat} {tpos : Pos} {k1 k2 : Kd} {bo : Bool} {a b z TI TO i1 i2 : Addr} (D : ZipApart z TI TO i1 i2 a b) :
    L2.Turn P w K (.Tuple elts kk tpos) (ItzM K k1 k2 bo a b) [z, TI, TO, i1, i2] z (fun i h => IsZipB h z TI TO .none bo ∧ IsPair h TI (.ref i1) (.ref i2) ∧ (∃ x y, IsPair h TO x y) ∧ ItK k1 h i1 a i ∧ ItK k2 h i2 b i) where
  mem := by simp
  obj := fun i h st c hc => by
    obtain ⟨hz, hTI, ⟨x, y, hTO⟩, h1, h2⟩ := st
    have e' : c = z ∨ c = TI ∨ c = TO ∨ c = i1 ∨ c = i2 := by simpa using hc
    rcases e' with q | q | q | q | q
    · rw [q]; exact ⟨_, hz, fun v q => nomatch q⟩
    · rw [q]; exact ⟨_, hTI, fun v q => nomatch q⟩
    · rw [q]; exact ⟨_, hTO, fun v q => nomatch q⟩
    · rw [q]; exact h1.obj
    · rw [q]; exact h2.obj
  keep := fun i h h' st k => by
    obtain ⟨hz, hTI, ⟨x, y, hTO⟩, h1, h2⟩ := st
    exact ⟨k z (by simp) _ hz, k TI (by simp) _ hTI, ⟨x, y, k TO (by simp) _ hTO⟩, h1.at_ fun o q => k i1 (by simp) o q, h2.at_ fun o q => k i2 (by simp) o q⟩
  item := by
    intro X hP hw hK hc i pins s σ H E I hf st hg
    subst hP hw hK
    obtain ⟨hz, hTI, ⟨x0, y0, hTO⟩, h1, h2⟩ := st
    obtain ⟨xs, ys, x, y, hqx, hqy, hx, hy⟩ := hg
    obtain ⟨its, rv, p, _⟩ := hqx.inv I
    obtain ⟨its2, rv2, p2, _⟩ := hqy.inv I
    obtain ⟨u, hu, ru⟩ := rv.get hx
    obtain ⟨u2, hu2, ru2⟩ := rv2.get hy
    have hzl : z < s.heap.objs.size := Heap.lt_size hz
    refine pyNext_zb_item D hz hTI hTO h1 h2 p p2 (x := u) (y := u2) (by simpa using hu) (by simpa using hu2) fun h' z' TO' h1' h2' hT hsz hk => ?_
    refine ⟨_, rfl, letGo_zb (s := { s with heap := h' }) z' fun h'' z'' sb => ?_⟩
    have hT2 : h''.get? s.heap.objs.size = some { cls := .type "tuple", data := .seq #[u, u2] } := (sb.2 _ (Nat.ne_of_gt hzl)).trans hT
    have new : ObjOk X.prog X.w (upd H s.heap.objs.size (.tup [x, y])) h'' s.heap.objs.size (.tup [x, y]) :=
      ⟨by show 2 ≤ sizeLine; decide, [u, u2], .cons ru (.cons ru2 .nil), ⟨_, hT2, rfl, _, rfl⟩⟩
    have I1 : Inv X pins σ (upd H s.heap.objs.size (.tup [x, y])) { s with heap := h'' } :=
      I.turnedNew (t' := s.toks) (ch := [z, TI, TO, i1, i2]) (fun c o hb q => (sb.2 c (fun q' => hb (by simp [q']))).trans (hk c o (fun q' => hb (by simp [q'])) (fun q' => hb (by simp [q'])) (fun q' => hb (by simp [q'])) (fun q' => hb (by simp [q'])) q)) hf (Nat.le_refl _) new
    refine ⟨.ref s.heap.objs.size, _, I1, rfl, ⟨_, x, y, rfl, I.hok.fresh (Nat.le_refl _), rfl, fun l hl => by rw [SqV.inj I hl hqx]; exact hx, fun l hl => by rw [SqV.inj I hl hqy]; exact hy⟩, ⟨z'', ?_, ⟨u, u2, ?_⟩, ?_, ?_⟩, fun c hcm => ?_⟩
    · exact (sb.2 _ D.TIz).trans (hk _ _ D.TIz D.TITO D.TIi1 D.TIi2 hTI)
    · exact (sb.2 _ D.TOz).trans TO'
    · exact h1'.at_ fun o q => (sb.2 _ D.i1z).trans q
    · exact h2'.at_ fun o q => (sb.2 _ D.i2z).trans q
    · have hlt : c < s.heap.objs.size := by
        have e' : c = z ∨ c = TI ∨ c = TO ∨ c = i1 ∨ c = i2 := by simpa using hcm
        rcases e' with q | q | q | q | q
        · rw [q]; exact hzl
        · rw [q]; exact Heap.lt_size hTI
        · rw [q]; exact Heap.lt_size hTO
        · rw [q]; obtain ⟨_, e1, _⟩ := h1.obj; exact Heap.lt_size e1
        · rw [q]; obtain ⟨_, e2, _⟩ := h2.obj; exact Heap.lt_size e2
      rw [upd_ne (Nat.ne_of_lt hlt)]
      exact (hf c hcm).1
  done := by
    intro X hP hw hK hc i pins s σ H E I hf st hg
    subst hP hw hK
    obtain ⟨hz, hTI, ⟨x0, y0, hTO⟩, h1, h2⟩ := st
    obtain ⟨xs, ys, hqx, hqy, hend⟩ := hg
    obtain ⟨its, rv, p, _⟩ := hqx.inv I
    obtain ⟨its2, rv2, p2, _⟩ := hqy.inv I
    have l1 := rv.length
    have l2 := rv2.length
    have he : (its.toArray[i]? = none ∧ (bo = true → its2.toArray[i]? = none)) ∨ (bo = false ∧ its2.toArray[i]? = none) := by
      rcases hend with ⟨q, q'⟩ | ⟨q, q'⟩
      · exact .inl ⟨by simp; omega, fun e => by have := q' e; simp; omega⟩
      · exact .inr ⟨q, by simp; omega⟩
    exact pyNext_zb_end (I.ok.hd hc) D hz hTI hTO h1 h2 p p2 he fun h' hk => ⟨rfl, I.turnedL (t' := s.toks) (ch := [z, TI, TO, i1, i2]) (fun c o hb q =>
      hk c o (fun q' => hb (by simp [q'])) (fun q' => hb (by simp [q'])) (fun q' => hb (by simp [q'])) (fun q' => hb (by simp [q'])) q) hf⟩
  self := fun A i s Q E st h => iter_zb st.1 h
/-- for .. in zip(x, y), zip(x, y, strict=True) -/
noncomputable def iZipM (K : Fg) (bo : Bool) (ta : TA) : TI := fun σ H R => ta σ H fun vs H1 => ∃ k1 k2 a b xs ys, vs = [.ref a, .ref b] ∧ SqV K k1 H1 a xs ∧ SqV K k2 H1 b ys ∧ R (ItzM K k1 k2 bo a b) H1
section
variable {M : Model} {A : Around} {E : Value → Shared → Prop} {s : Shared}
end
section
variable {X : Cx} {e e2 : Expr} {ta : TA} {p pos tpos kpos cpos : Pos} {elts : List Expr} {kk cn : Nat}
theorem zip_pi {bo : Bool} {pins : List (Addr × Obj)} {s1 : Shared} {σ : St} {H1 : Hp} {R : It → Hp → Prop} {us : List Value} {vs : List V} (I1 : Inv X pins σ H1 s1) (r1 : Vals vs us) (q1 : ∃ k1 k2 a b xs ys, vs = [.ref a, .ref b] ∧ SqV X.K k1 H1 a xs ∧ SqV X.K k2 H1 b ys ∧ R (ItzM X.K k1 k2 bo a b) H1) {tg : Expr} (htg : tg = .Tuple elts kk tpos) :
    wpAny (model X.prog X.w) X.A (call (.type "zip") us (kwS bo)) (fun v s' => wpAny (model X.prog X.w) X.A (pyIter v) (PIE X pins σ tg R) X.xe s') X.xe s1 := qt_of (by simp (disch := with_unfolding_all
  subst htg
  obtain ⟨k1, k2, a, b, xs, ys, ex, hqx, hqy, q⟩ := q1
  subst ex
  cases r1 with
  | cons r rr =>
    cases rr with
    | cons r' rr =>
      cases rr
      cases r
      cases r'
      have fresh5 : ∀ c, c ∈ [s1.heap.objs.size + 4, s1.heap.objs.size + 2, s1.heap.objs.size + 3, s1.heap.objs.size, s1.heap.objs.size + 1] → FpOk X pins H1 c := fun c hcm => by
        have e' : c = s1.heap.objs.size + 4 ∨ c = s1.heap.objs.size + 2 ∨ c = s1.heap.objs.size + 3 ∨ c = s1.heap.objs.size ∨ c = s1.heap.objs.size + 1 := by simpa using hcm
        have hle : s1.heap.objs.size ≤ c := by
          rcases e' with z | z | z | z | z
          · rw [z]; exact Nat.le_add_right _ _
          · rw [z]; exact Nat.le_add_right _ _
          · rw [z]; exact Nat.le_add_right _ _
          · rw [z]; exact Nat.le_refl _
          · rw [z]; exact Nat.le_add_right _ _
        exact I1.fpOk hle (I1.hok.fresh hle)
      obtain ⟨its, rv, p1, lt1⟩ := hqx.inv I1
      obtain ⟨its2, rv2, p2, lt2⟩ := hqy.inv I1
      refine call_zb p1 p2 fun h' hz hTI hTO h1 h2 hsz hk => iter_zb hz ?_
      have I2 : Inv X pins σ H1 { s1 with heap := h' } := I1.kept (t' := s1.toks) hk
      exact ⟨s1.heap.objs.size + 4, [s1.heap.objs.size + 4, s1.heap.objs.size + 2, s1.heap.objs.size + 3, s1.heap.objs.size, s1.heap.objs.size + 1], _, _, H1, rfl, I2, turn_zipM (PySem.W.ktu_apart s1.heap.objs.size a b lt1 lt2), ⟨hz, hTI, ⟨_, _, hTO⟩, h1, h2⟩, fresh5, q⟩
  ) only [↓qt_eq])
theorem pi_zipM (hg : Gl X "zip") (hm : X.mg "zip" = none) (ha : PA X [e, e2] ta)
    (hs : starEach [e, e2] X.env = (false, eval e X.env) :: starEach [e2] X.env := by rfl) (hpl : (backTo pos (starEach [e2] X.env)).any (·.1) = false := by rfl) :
    PI X (.Tuple elts kk tpos) (.Call (.Name "zip" p) [e, e2] [] pos) (iZipM X.K false ta) := by
  refine ⟨fun pins s σ H R I h => ?_⟩
  refine Call_ (ld_blt I hg hm PyProof.Rows.boot_zip (PyProof.Rows.callWith_type1 (thn (ha.run pos pins s σ H _ I h) fun us s1 ⟨vs, H1, I1, r1, q1⟩ => ?_) hs hpl))
  exact zip_pi I1 r1 q1 rfl
end
end U

end
section
/-! try with several clauses, each with a name -/
namespace U
open PySem PySem.Spec PyProof.Rows L2
noncomputable abbrev Hd := Value × Nat × (Addr → Value → Option Addr → TS)
section
variable {X : Cx} {body : List Stmt} {h₀ : ExceptHandler} {hds : List ExceptHandler} {l : List Hd} {pos : Pos} {tb : WX → TS} {Wout : WX}
end
end U

end
section
/-! enumerate of a list or a tuple. -/
namespace U
open PySem PySem.W PyProof.Rows L2 Evl
section
variable {prog : Program} {w : World} {A : Around} {E : Value → Shared → Prop} {s : Shared}
end
end U

end
section
/-! list comprehensions of two and three clauses. -/
namespace U
open PySem PySem.Spec PyProof.Rows L2
/-- what a clause's rest does to the list at D -/
noncomputable abbrev TCl := Addr → St → Hp → (Hp → Prop) → Prop
section
variable {X : Cx} {own : List Nat} {D : Addr}
end
section
variable {X : Cx}
end
/-! ### the clauses' own loops -/
section
variable {prog : Program} {w : World} {A : Around} {env : Env} {D : Addr} {c elt t0 i0 i1 : Expr} {i : Nat} {ifs0 : List Expr}
end
section
variable {elt t0 i0 t1 i1 t2 i2 : Expr} {ifs0 ifs1 ifs2 : List Expr} {scope : Scope} {pos : Pos}
variable {prog : Program} {w : World} {A : Around} {env : Env} {D : Addr}
end
/-! ### the rules for use -/
section
variable {X : Cx} {elt tg iter tg1 iter1 tg2 iter2 : Expr} {ifs ifs1 ifs2 : List Expr} {scope : Scope} {own : List (Str × Nat)} {pos : Pos} {wi wi1 wi2 : TI} {g g1 g2 : TG} {tt tt1 tt2 : TT} {te : TE} {vs1 vs2 : List Nat}
end
end U

end
section
/-! first, *rest = a list or a tuple. -/
namespace U
open PySem PySem.W PyProof.Rows L2 Evl
noncomputable def gStarE (K : Fg) (t : TGs) : TG := fun v σ H Q => ∃ k p x ys, v = .ref p ∧ SqV K k H p (x :: ys) ∧ ys.length ≤ 10000 ∧ ∀ l, H l = none → t [x, .ref l] σ (upd H l (.lst ys)) Q
section
variable {prog : Program} {w : World} {A : Around} {E : Value → Shared → Prop} {s : Shared}
theorem star_T {l : Addr} {items : Array Value} {Q : List Value → Shared → Prop} (hh : A.handled = none) (hl : IsTup s.heap l items) (h0 : 1 ≤ items.size) (hz : items.size ≤ 16384)
    (h : ∀ h' tk, Heap.ExtBut s.heap.objs.size s.heap h' → wpAny (model prog w) A (newList (items.toList.drop 1) >>= fun d => pure (items.toList.take 1 ++ [d])) Q E { s with heap := h', toks := tk }) : wpAny (model prog w) A (unpackItems (.ref l) 2 (some 1)) Q E s := qt_of (by simp (disch := with_unfolding_all
  have hlt : l ≠ s.heap.objs.size := by obtain ⟨o, ho, _⟩ := hl; exact Nat.ne_of_lt (Heap.lt_size ho)
  unfold unpackItems
  refine wpAny_bind ?_
  unfold notIterableAtAll
  refine wpAny_bind (wpAny_specialOf hl.typeIs slot_tuple_iter.lookup ?_)
  refine wpAny_pure ?_
  simp only [Bool.false_eq_true, if_false]
  refine wpAny_bind (wpAny_holding (iter_tuple hl ?_))
  refine wpAny_bind (wpAny_holding (draw_tuple hlt 1 0 _ _ ⟨_, Heap.get?_push_size _ rfl, rfl, rfl⟩ (hl.push _) (by omega) fun h₁ hit₁ hs₁ => ?_))
  have hl₁ : IsTup h₁ l items := (hl.push _).extBut hs₁.extBut hlt
  rw [Nat.zero_add] at hit₁
  obtain ⟨oi, hoi, _⟩ := id hit₁
  obtain ⟨ol, hol, _⟩ := id hl₁
  rw [List.drop_zero]
  have hfl : (items.toList.take 1).length = 1 := by rw [List.length_take, Array.length_toList]; omega
  rw [if_neg (show ¬ ((items.toList.take 1).length < 1) by rw [hfl]; omega)]
  refine wpAny_bind (wpAny_holding (kun_collect (s := { s with heap := h₁ }) (T := "tuple_iterator") (.inr (.inr (.inr rfl))) (Walks.tuple (A := A.in1) hh s.heap.objs.size l hlt items) (fun j u st => st.1.typeIs) (k := 1) (by omega) ⟨hit₁, hl₁⟩ (Heap.lt_size hoi) (Heap.lt_size hol) (fun h₂ tk hk => ?_) (by rw [sizeLine_eq]; omega)))
  show wpAny _ _ (if (items.toList.drop 1).length < 2 - 1 - 1 then _ else _) _ _ _
  rw [if_neg (by omega)]
  show wpAny _ _ (newList ((items.toList.drop 1).take ((items.toList.drop 1).length - 0)) >>= fun d => pure (items.toList.take 1 ++ [d] ++ (items.toList.drop 1).drop ((items.toList.drop 1).length - 0))) _ _ _
  rw [Nat.sub_zero, List.take_length, List.drop_length, ]
  have he : Heap.ExtBut s.heap.objs.size s.heap h₂ := fun b o hb e => hk b o hb (hs₁.extBut b o hb (Heap.get?_push_of_some _ e))
  have hh2 := h h₂ tk he
  have e : (fun d => (pure (items.toList.take 1 ++ [d] ++ []) : Sem (List Value))) = fun d => pure (items.toList.take 1 ++ [d]) := by funext d; rw [List.append_nil]
  rw [e]
  exact hh2
  ) only [↓qt_eq])
theorem star_L {l : Addr} {items : Array Value} {Q : List Value → Shared → Prop} (hh : A.handled = none) (hl : s.heap.IsList l items) (h0 : 1 ≤ items.size) (hz : items.size ≤ 16384)
    (h : ∀ h' tk, Heap.ExtBut s.heap.objs.size s.heap h' → wpAny (model prog w) A (newList (items.toList.drop 1) >>= fun d => pure (items.toList.take 1 ++ [d])) Q E { s with heap := h', toks := tk }) : wpAny (model prog w) A (unpackItems (.ref l) 2 (some 1)) Q E s := qt_of (by simp (disch := with_unfolding_all
  have hlt : l ≠ s.heap.objs.size := by obtain ⟨o, ho, _⟩ := hl; exact Nat.ne_of_lt (Heap.lt_size ho)
  unfold unpackItems
  refine wpAny_bind ?_
  unfold notIterableAtAll
  refine wpAny_bind (wpAny_specialOf hl.typeIs slot_list_iter.lookup ?_)
  refine wpAny_pure ?_
  simp only [Bool.false_eq_true, if_false]
  refine wpAny_bind (wpAny_holding (wpAny_pyIter_list hl ?_))
  refine wpAny_bind (wpAny_holding (kun_draw hlt 1 0 _ _ ⟨_, Heap.get?_push_size _ rfl, rfl, rfl⟩ (hl.push _) (by omega) fun h₁ hit₁ hs₁ => ?_))
  have hl₁ : h₁.IsList l items := (hl.push _).extBut hs₁.extBut hlt
  rw [Nat.zero_add] at hit₁
  obtain ⟨oi, hoi, _⟩ := id hit₁
  obtain ⟨ol, hol, _⟩ := id hl₁
  rw [List.drop_zero]
  have hfl : (items.toList.take 1).length = 1 := by rw [List.length_take, Array.length_toList]; omega
  rw [if_neg (show ¬ ((items.toList.take 1).length < 1) by rw [hfl]; omega)]
  refine wpAny_bind (wpAny_holding (kun_collect (s := { s with heap := h₁ }) (T := "list_iterator") (.inr (.inr (.inl rfl))) (Walks.list (A := A.in1) hh s.heap.objs.size l hlt items) (fun j u st => st.1.typeIs) (k := 1) (by omega) ⟨hit₁, hl₁⟩ (Heap.lt_size hoi) (Heap.lt_size hol) (fun h₂ tk hk => ?_) (by rw [sizeLine_eq]; omega)))
  show wpAny _ _ (if (items.toList.drop 1).length < 2 - 1 - 1 then _ else _) _ _ _
  rw [if_neg (by omega)]
  show wpAny _ _ (newList ((items.toList.drop 1).take ((items.toList.drop 1).length - 0)) >>= fun d => pure (items.toList.take 1 ++ [d] ++ (items.toList.drop 1).drop ((items.toList.drop 1).length - 0))) _ _ _
  rw [Nat.sub_zero, List.take_length, List.drop_length, ]
  have he : Heap.ExtBut s.heap.objs.size s.heap h₂ := fun b o hb e => hk b o hb (hs₁.extBut b o hb (Heap.get?_push_of_some _ e))
  have hh2 := h h₂ tk he
  have e : (fun d => (pure (items.toList.take 1 ++ [d] ++ []) : Sem (List Value))) = fun d => pure (items.toList.take 1 ++ [d]) := by funext d; rw [List.append_nil]
  rw [e]
  exact hh2
  ) only [↓qt_eq])
theorem star_K {k : Kd} {l : Addr} {items : Array Value} {Q : List Value → Shared → Prop} (hh : A.handled = none) (hl : SqK k s.heap l items) (h0 : 1 ≤ items.size) (hz : items.size ≤ 16384)
    (h : ∀ h' tk, Heap.ExtBut s.heap.objs.size s.heap h' → wpAny (model prog w) A (newList (items.toList.drop 1) >>= fun d => pure (items.toList.take 1 ++ [d])) Q E { s with heap := h', toks := tk }) : wpAny (model prog w) A (unpackItems (.ref l) 2 (some 1)) Q E s := by
  cases k with
  | L => exact star_L hh hl h0 hz h
  | T => exact star_T hh hl h0 hz h
end
theorem pg_starE {X : Cx} {a b : Expr} {p pos : Pos} {k : Nat} {t : TGs} (hc : X.calm = true) (h : PGs X [a, b] t)
    (hn : (assignEach [a, .Starred b p] X.env).length = 2 := by rfl) (hst : (assignEach [a, .Starred b p] X.env).findIdx? (·.1) = some 1 := by rfl)
    (hm : (assignEach [a, .Starred b p] X.env).map (·.2) = (assignEach [a, b] X.env).map (·.2) := by rfl) : PG X (.Tuple [a, .Starred b p] k pos) (gStarE X.K t) := by
  refine ⟨fun pins s σ H v u Q I r hw => ?_⟩
  obtain ⟨kd, q, x, ys, e1, hq, hl, hw⟩ := hw
  subst e1
  cases r
  obtain ⟨its, rv, ht, hz⟩ := hq.inv I
  cases rv with
  | @cons _ w _ us rw' ru =>
    have hus : us.length = ys.length := ru.length.symm
    rw [assign_Tuple]
    refine wpAny_bind (wpAny_standAt ?_)
    unfold unpack
    rw [hn, hst, hm]
    refine wpAny_bind (wpAny_holding (star_K (I.ok.hd hc) ht (by simp) (by simp; omega) fun h' tk he => ?_))
    have e1 : (w :: us).toArray.toList.drop 1 = us := by simp
    have e2 : (w :: us).toArray.toList.take 1 = [w] := by simp
    rw [e1, e2]
    have I1 : Inv X pins σ H { s with heap := h', toks := tk } := I.kept (t' := tk) fun b o e => he b o (Nat.ne_of_lt (Heap.lt_size e)) e
    refine wpAny_bind (wpAny_newList ?_ (by rw [sizeLine_eq]; omega))
    refine wpAny_pure ?_
    have I2 := I1.lnew (t' := tk) ru (Nat.le_trans hl (by decide))
    exact h.run pins _ σ _ [x, .ref _] _ Q I2 (.cons rw' (.cons rfl .nil)) (hw _ I1.fresh)
/-! ### a call with keywords that may raise -/
section
variable {X : Cx} {CX : CXT} {k n : Nat} {f : Addr} {fd : FuncData} {ps ks : List Str} {sp : Sp} {E : St → XK} {x : Str} {p pos : Pos} {e : Expr} {es : List Expr} {kws : List Keyword} {t tk : TA} {g : List Value → List Value → List Value} {gV : List V → List V → List V}
end
end U

end
section
namespace U
open PySem PyProof.Rows L2 Evl
section
variable {X : Cx}
end
end U

end
section
namespace U
open PySem PyProof.Rows L2 Evl
section
variable {X : Cx}
end
end U

end
section
namespace U
open PySem PyProof.Rows L2 Evl
section
variable {X : Cx} {pos : Pos}
end
end U

end
section
/-! A lambda with parameters, handed to a def as its last argument: g(e, lambda y: body), what it captures stays while g runs. -/
namespace U
open PySem PySem.Spec PyProof.Rows L2 Evl LamX
section
variable {X : Cx} {pins : List (Addr × Obj)} {σ : L2.St} {H : Hp} {s : Shared}
end
/-! ### the body's names -/
section
variable {X : Cx} {pins : List (Addr × Obj)} {σ : L2.St} {H HZ : Hp} {s s1 : Shared} {ps : List Str} {sc : Scope}
end
section
variable {X : Cx} {pins : List (Addr × Obj)} {σ : L2.St} {H : Hp} {s : Shared} {ps : List Str} {sc : Scope}
end
section
variable {X : Cx}
end
end U

end
section
/-! The second data layer: what is wanted of a reading, and what suffices for it. Slots hold data, things of one's own, or the bag. -/
namespace U.N
open PySem L2 Evl
/-- what a frame may change beside its own: the bag, and tables of code objects (each with the name that these bear) -/
structure Bt where
  bag : Option (Addr × Addr)
  T : List (Addr × Str)
noncomputable abbrev noB : Bt := ⟨none, []⟩
noncomputable abbrev bgB (b c : Addr) : Bt := ⟨some (b, c), []⟩
noncomputable def InB (B : Bt) (a : Addr) : Prop := U.InB B.bag a ∨ ∃ p ∈ B.T, a = p.1
/-- all but that stays -/
noncomputable def Xb (B : Bt) (H H2 : Hp) : Prop := ∀ a o, H a = some o → ¬ InB B a → H2 a = some o
theorem Xb.refl {B : Bt} {H : Hp} : Xb B H H := fun _ _ h _ => h
theorem Xb.trans {B : Bt} {H H1 H2 : Hp} (a : Xb B H H1) (b : Xb B H1 H2) : Xb B H H2 := fun p o h n => b p o (a p o h n) n
theorem Xb.of {B : Bt} {H H2 : Hp} (e : Ex H H2) : Xb B H H2 := fun p o h _ => e p o h
/-- a thing of one's own: what it holds, and how it stands in the heap -/
structure Own where
  flat : List PyData
  obj : Addr → List V → HO
/-- a list of one's own -/
noncomputable def ol (xs : List PyData) : Own := ⟨xs, fun _ vs => .lst vs⟩
inductive En where
  | un
  | d (x : PyData)
  | ow (c : Own)
  | bag
  /-- a caught exception: itself, its dict, its fields -/
  | xc (a d : Addr) (fs : List (Str × V))
  /-- a thing that stays as it is -/
  | fz (c : Own)
  /-- any value, known as it is -/
  | vl (v : V)
  /-- a lambda, its code object and that one's name; what it captured -/
  | fn (f d : Addr) (q : Str) (us : List V) (ds : List PyData)
  /-- a mark: these tables may grow -/
  | tb (T : List (Addr × Str))
  /-- a value of which something is known, and stays so -/
  | rv (ρ : V → Hp → Prop)
noncomputable abbrev Gam := List En
noncomputable def Zs (W : Addr → Prop) (B : Bt) (ad : Nat → Addr) (G : Gam) : Addr → Prop := fun a => W a ∨ (∃ i c, G[i]? = some (.ow c) ∧ a = ad i) ∨ InB B a
noncomputable def Slot (K : Fg) (B : Bt) (ad : Nat → Addr) (H : Hp) (Z : Addr → Prop) (i : Nat) (o : Option V) : En → Prop
  | .un => True
  | .d x => ∃ v, o = some v ∧ Dp K (less H Z) v x
  | .ow c => o = some (.ref (ad i)) ∧ ∃ vs, H (ad i) = some (c.obj (ad i) vs) ∧ DpAll K (less H Z) vs c.flat
  | .bag => ∃ b c, B.bag = some (b, c) ∧ o = some (.ref b)
  | .xc a d fs => o = some (.ref a) ∧ less H Z d = some (.xd fs)
  | .fz c => ∃ a vs, o = some (.ref a) ∧ less H Z a = some (c.obj a vs) ∧ DpAll K (less H Z) vs c.flat
  | .vl v => o = some v
  | .fn f d q us ds => o = some (.ref f) ∧ less H Z d = some (LamX.CodeO d q) ∧ DpAll K (less H Z) us ds
  | .tb T => B.T = T
  | .rv ρ => ∃ v, o = some v ∧ ∀ M, Ex (less H Z) M → ρ v M
noncomputable def BagOk (H : Hp) (B : Bt) : Prop := (∃ s : Bag, s.ok ∧ BagAt H B.bag s) ∧ ∀ p ∈ B.T, ∃ o, H p.1 = some o
theorem BagOk.xb {H H2 : Hp} {B : Bt} (h : BagOk H B) (e : ∀ a, InB B a → H2 a = H a) : BagOk H2 B := qt_of (by simp (disch := with_unfolding_all
  obtain ⟨⟨s, ok, h⟩, t⟩ := h
  refine ⟨⟨s, ok, ?_⟩, fun p hp => by rw [e _ (.inr ⟨p, hp, rfl⟩)]; exact t p hp⟩
  obtain ⟨bg, T⟩ := B
  rcases bg with _ | ⟨b, c⟩
  · trivial
  · have h : H b = _ ∧ _ := h
    exact ⟨(e b (.inl ⟨b, c, rfl, .inl rfl⟩)).trans h.1, (e c (.inl ⟨b, c, rfl, .inr rfl⟩)).trans h.2.1, h.2.2⟩
  ) only [↓qt_eq])
theorem BagOk.there {H : Hp} {B : Bt} (h : BagOk H B) {a : Addr} (z : InB B a) : ∃ o, H a = some o := by
  obtain ⟨⟨s, ok, h⟩, t⟩ := h
  rcases z with z | ⟨p, hp, rfl⟩
  · exact bag_there h z
  · exact t p hp
theorem BagOk.ext {H H2 : Hp} {B : Bt} (h : BagOk H B) (e : Ex H H2) : BagOk H2 B := h.xb fun a z => by
  obtain ⟨o, q⟩ := h.there z
  rw [q, e _ _ q]
theorem BagOk.upd {H : Hp} {B : Bt} (h : BagOk H B) {p : Addr} {o : HO} (n : ¬ InB B p) : BagOk (upd H p o) B := h.xb fun a z => upd_ne fun e => n (e ▸ z)
/-- a table of code objects: those that it tells bear the name -/
noncomputable def TabZ (H : Hp) (Z : Addr → Prop) (p : Addr × Str) : Prop := ∃ ps : Array Value, H p.1 = some (.tbl ps) ∧ TriplesOk ps.toList ∧ ∀ (l : Pos) (cv : Value), codeAmong l ps.toList = some cv → ∃ c, cv = .ref c ∧ less H Z c = some (LamX.CodeO c p.2)
theorem TabZ.mono {H H2 : Hp} {Z Z' : Addr → Prop} {p : Addr × Str} (h : TabZ H Z p) (x : Ex (less H Z) (less H2 Z')) (y : H2 p.1 = H p.1) : TabZ H2 Z' p := by
  obtain ⟨ps, h1, h2, h3⟩ := h
  exact ⟨ps, y.trans h1, h2, fun l cv hc => by
    obtain ⟨c, e, g⟩ := h3 l cv hc
    exact ⟨c, e, x _ _ g⟩⟩
theorem TabZ.there {H : Hp} {Z : Addr → Prop} {p : Addr × Str} (h : TabZ H Z p) : ∃ o, H p.1 = some o := let ⟨_, h1, _⟩ := h; ⟨_, h1⟩
/-- the state of a def's frame: slots, heap, bag, against the heap H0 at its entry -/
structure Sta (K : Fg) (W : Addr → Prop) (B : Bt) (ad : Nat → Addr) (H0 H : Hp) (σ : St) (G : Gam) : Prop where
  len : σ.length = G.length
  at_ : ∀ i e, G[i]? = some e → ∃ o, σ[i]? = some o ∧ Slot K B ad H (Zs W B ad G) i o e
  inj : ∀ i j c c', G[i]? = some (.ow c) → G[j]? = some (.ow c') → ad i = ad j → i = j
  sep : ∀ i c, G[i]? = some (.ow c) → H0 (ad i) = none ∧ ¬ InB B (ad i) ∧ ¬ W (ad i)
  base : ∀ a o, H0 a = some o → ¬ InB B a → H a = some o
  bag : BagOk H B
  wd : ∀ a, W a → ∃ o, H a = some o
  tab : ∀ p ∈ B.T, TabZ H (Zs W B ad G) p
section
variable {K : Fg} {W : Addr → Prop} {B : Bt} {ad : Nat → Addr} {H0 H H2 : Hp} {σ : St} {G G' : Gam}
theorem Slot.mono {Z Z' : Addr → Prop} {i : Nat} {o : Option V} {e : En} (h : Slot K B ad H Z i o e) (x : Ex (less H Z) (less H2 Z')) (y : ∀ c u, e = .ow c → H (ad i) = some u → H2 (ad i) = some u) : Slot K B ad H2 Z' i o e := qt_of (by simp (disch := with_unfolding_all
  cases e with
  | un => trivial
  | d d => obtain ⟨v, e, h⟩ := h; exact ⟨v, e, dp_mono x h⟩
  | ow c => obtain ⟨e, vs, h1, h2⟩ := h; exact ⟨e, vs, y c _ rfl h1, dpa_mono x h2⟩
  | bag => exact h
  | xc a d fs => exact ⟨h.1, x _ _ h.2⟩
  | fz c => obtain ⟨a, vs, e, h1, h2⟩ := h; exact ⟨a, vs, e, x _ _ h1, dpa_mono x h2⟩
  | vl v => exact h
  | fn f d q us ds => exact ⟨h.1, x _ _ h.2.1, dpa_mono x h.2.2⟩
  | tb T => exact h
  | rv ρ => obtain ⟨v, e, h⟩ := h; exact ⟨v, e, fun M m => h M fun a o q => m a o (x a o q)⟩
  ) only [↓qt_eq])
theorem InB.tab {p : Addr × Str} (hp : p ∈ B.T) : InB B p.1 := .inr ⟨p, hp, rfl⟩
theorem Sta.there (S : Sta K W B ad H0 H σ G) (a : Addr) (z : Zs W B ad G a) : ∃ o, H a = some o := by
  rcases z with z | ⟨i, c, g, rfl⟩ | z
  · exact S.wd _ z
  · obtain ⟨_, _, _, vs, h1, _⟩ := S.at_ i _ g
    exact ⟨_, h1⟩
  · exact S.bag.there z
/-- everything stays -/
theorem Sta.ext (S : Sta K W B ad H0 H σ G) (e : Ex H H2) : Sta K W B ad H0 H2 σ G where
  len := S.len
  at_ := fun i en h => by
    obtain ⟨o, h1, h2⟩ := S.at_ i en h
    exact ⟨o, h1, h2.mono (less_mono e) fun _ _ _ q => e _ _ q⟩
  inj := S.inj
  sep := S.sep
  base := fun a o h n => e _ _ (S.base a o h n)
  bag := S.bag.ext e
  wd := fun a z => by
    obtain ⟨o, h⟩ := S.wd a z
    exact ⟨o, e _ _ h⟩
  tab := fun p hp => (S.tab p hp).mono (less_mono e) (by
    obtain ⟨ps, h, _⟩ := S.tab p hp
    rw [h]; exact e _ _ h)
/-- all but the bag stays -/
theorem Sta.drawn (S : Sta K W B ad H0 H σ G) (e : Xb B H H2) (b : BagOk H2 B) (t : ∀ p ∈ B.T, TabZ H2 (Zs W B ad G) p) : Sta K W B ad H0 H2 σ G where
  len := S.len
  at_ := fun i en h => by
    obtain ⟨o, h1, h2⟩ := S.at_ i en h
    refine ⟨o, h1, h2.mono (less_but fun a o q z => e a o q fun y => z (.inr (.inr y))) fun c vs q q2 => ?_⟩
    subst q
    exact e _ _ q2 (S.sep i c h).2.1
  inj := S.inj
  sep := S.sep
  base := fun a o h n => e a o (S.base a o h n) n
  bag := b
  wd := fun a z => by
    by_cases hb : InB B a
    · exact b.there hb
    · obtain ⟨o, h⟩ := S.wd a z
      exact ⟨o, e _ _ h hb⟩
  tab := t
theorem Xb.lz {H H2 : Hp} (a : Xb B H H2) : Ex (less H (Zs W B ad G)) (less H2 (Zs W B ad G)) := less_but fun p o h n => a p o h fun z => n (.inr (.inr z))
/-- a bag's call leaves the tables -/
theorem Sta.tabB {b c : Addr} (S : Sta K W B ad H0 H σ G) (hb : B.bag = some (b, c)) (e : Xb (bgB b c) H H2) (k : BagOk H2 (bgB b c)) : Xb B H H2 ∧ BagOk H2 B ∧ ∀ p ∈ B.T, TabZ H2 (Zs W B ad G) p := qt_of (by simp (disch := with_unfolding_all
  have x : Xb B H H2 := fun a o h n => e a o h fun z => n (by
    rcases z with z | ⟨p, hp, _⟩
    · exact .inl (by rw [hb]; exact z)
    · cases hp)
  have st : ∀ p ∈ B.T, H2 p.1 = H p.1 := fun p hp => by
    obtain ⟨ps, h, _⟩ := S.tab p hp
    rw [h]
    refine e _ _ h fun z => ?_
    rcases z with ⟨b', c', z, y⟩ | ⟨p, hp, _⟩
    · cases z
      obtain ⟨⟨s, _, k⟩, _⟩ := S.bag
      rw [hb] at k
      rcases y with y | y
      · rw [y, k.1] at h; cases h
      · rw [y, k.2.1] at h; cases h
    · cases hp
  refine ⟨x, ⟨by rw [hb]; exact k.1, fun p hp => ?_⟩, fun p hp => (S.tab p hp).mono (less_but fun a o q z => x a o q fun y => z (.inr (.inr y))) (st p hp)⟩
  rw [st p hp]
  exact (S.tab p hp).there
  ) only [↓qt_eq])
/-- .. and so does a call that keeps all, its answer at a new place -/
theorem Sta.tabN {a : Addr} (S : Sta K W B ad H0 H σ G) (hn : H a = none) : ∀ p ∈ B.T, TabZ H (fun b => Zs W B ad G b ∨ b = a) p := fun p hp =>
  (S.tab p hp).mono (fun c o q => by
    obtain ⟨q1, q2⟩ := less_some q
    exact less_of (fun z => z.elim q1 fun z => by rw [z, hn] at q2; cases q2) q2) rfl
theorem TabZ.ex {H H2 : Hp} {Z : Addr → Prop} {p : Addr × Str} (h : TabZ H Z p) (e : Ex H H2) : TabZ H2 Z p := h.mono (less_mono e) (by
  obtain ⟨ps, h, _⟩ := h
  rw [h]; exact e _ _ h)
theorem Zs.set_of {i : Nat} {e : En} (he : ∀ c, e ≠ .ow c) {a : Addr} (h : Zs W B ad (G.set i e) a) : Zs W B ad G a := by
  rcases h with h | ⟨j, c, h, r⟩ | h
  · exact .inl h
  · rcases get_set h with ⟨rfl, _, e'⟩ | ⟨_, h⟩
    · exact absurd e' (he c)
    · exact .inr (.inl ⟨j, c, h, r⟩)
  · exact .inr (.inr h)
/-- a slot gets a thing that is not of one's own -/
theorem Sta.set (S : Sta K W B ad H0 H σ G) {i : Nat} {e : En} {o : Option V} (he : ∀ c, e ≠ .ow c) (h : Slot K B ad H (Zs W B ad G) i o e) : Sta K W B ad H0 H (σ.set i o) (G.set i e) where
  len := by rw [List.length_set, List.length_set]; exact S.len
  at_ := fun j en g => by
    rcases get_set g with ⟨rfl, l, rfl⟩ | ⟨z, g⟩
    · refine ⟨o, List.getElem?_set_self (by rw [S.len]; exact l), h.mono (less_sub fun a q => Zs.set_of he q) fun _ _ _ q => q⟩
    · obtain ⟨o', h1, h2⟩ := S.at_ j en g
      exact ⟨o', by rw [List.getElem?_set_ne z]; exact h1, h2.mono (less_sub fun a q => Zs.set_of he q) fun _ _ _ q => q⟩
  inj := fun j k c c' g g' q => by
    rcases get_set g with ⟨rfl, l, e⟩ | ⟨z, g⟩
    · exact absurd e (he c)
    · rcases get_set g' with ⟨rfl, l, e⟩ | ⟨z', g'⟩
      · exact absurd e (he c')
      · exact S.inj j k c c' g g' q
  sep := fun j c g => by
    rcases get_set g with ⟨rfl, l, e⟩ | ⟨z, g⟩
    · exact absurd e (he c)
    · exact S.sep j c g
  base := S.base
  bag := S.bag
  wd := S.wd
  tab := fun p hp => (S.tab p hp).mono (less_sub fun a q => Zs.set_of he q) rfl
theorem Sta.setD (S : Sta K W B ad H0 H σ G) {i : Nat} {v : V} {x : PyData} (h : Dp K (less H (Zs W B ad G)) v x) : Sta K W B ad H0 H (σ.set i (some v)) (G.set i (.d x)) :=
  S.set (fun _ z => by cases z) ⟨v, rfl, h⟩
theorem Sta.setU (S : Sta K W B ad H0 H σ G) {i : Nat} {o : Option V} : Sta K W B ad H0 H (σ.set i o) (G.set i .un) :=
  S.set (fun _ z => by cases z) trivial
theorem Sta.fresh (S : Sta K W B ad H0 H σ G) {p : Addr} (h : H p = none) : H0 p = none ∧ ¬ InB B p ∧ ¬ Zs W B ad G p := qt_of (by simp (disch := with_unfolding_all
  have hZ : ¬ Zs W B ad G p := fun z => by
    obtain ⟨o, q⟩ := S.there p z
    rw [h] at q; cases q
  have hB : ¬ InB B p := fun z => hZ (.inr (.inr z))
  refine ⟨?_, hB, hZ⟩
  cases e : H0 p with
  | none => rfl
  | some o => rw [S.base p o e hB] at h; cases h
  ) only [↓qt_eq])
theorem own_ex {i : Nat} {p : Addr} {u : HO} {c : Own} (hp : H p = none) : Ex (less H (Zs W B ad G)) (less (upd H p u) (Zs W B (swp ad i p) (G.set i (.ow c)))) := fun a o q => by
  obtain ⟨q1, q2⟩ := less_some q
  have na : a ≠ p := ne_of_none q2 hp
  refine less_of (fun z => ?_) (by rw [upd_ne na]; exact q2)
  rcases z with z | ⟨j, c, g, r⟩ | z
  · exact q1 (.inl z)
  · rcases get_set g with ⟨rfl, l, e⟩ | ⟨z, g⟩
    · rw [swp_same] at r; exact na r
    · rw [swp_ne z] at r
      exact q1 (.inr (.inl ⟨j, c, g, r⟩))
  · exact q1 (.inr (.inr z))
/-- a new thing of one's own -/
theorem Sta.setOwn (S : Sta K W B ad H0 H σ G) {i : Nat} {p : Addr} {vs : List V} {c : Own} (hp : H p = none) (h : DpAll K (less H (Zs W B ad G)) vs c.flat) :
    Sta K W B (swp ad i p) H0 (upd H p (c.obj p vs)) (σ.set i (some (.ref p))) (G.set i (.ow c)) := qt_of (by simp (disch := with_unfolding_all
  obtain ⟨h0, hB, hZ⟩ := S.fresh hp
  have ex : Ex (less H (Zs W B ad G)) (less (upd H p (c.obj p vs)) (Zs W B (swp ad i p) (G.set i (.ow c)))) := own_ex hp
  have hne : ∀ j c', G[j]? = some (.ow c') → ad j ≠ p := fun j c' g z => hZ (.inr (.inl ⟨j, c', g, z.symm⟩))
  refine ⟨by rw [List.length_set, List.length_set]; exact S.len, fun j en g => ?_, fun j k ys zs g g' q => ?_, fun j ys g => ?_, fun a o q n => ?_, S.bag.upd hB, fun a z => (S.wd a z).elim fun o q => upd_there q, fun p' hp' => (S.tab p' hp').mono ex (upd_ne fun z => hB (z ▸ InB.tab hp'))⟩
  · rcases get_set g with ⟨rfl, l, rfl⟩ | ⟨z, g⟩
    · exact ⟨_, List.getElem?_set_self (by rw [S.len]; exact l), by rw [swp_same], vs, by rw [swp_same]; exact upd_same, dpa_mono ex h⟩
    · obtain ⟨o', h1, h2⟩ := S.at_ j en g
      refine ⟨o', by rw [List.getElem?_set_ne z]; exact h1, ?_⟩
      cases en with
      | un => trivial
      | d d => obtain ⟨v, e, h⟩ := h2; exact ⟨v, e, dp_mono ex h⟩
      | ow ys =>
        obtain ⟨e, us, h3, h4⟩ := h2
        have hj : swp ad i p j = ad j := swp_ne z
        exact ⟨by rw [hj]; exact e, us, by rw [hj, upd_ne (hne j ys g)]; exact h3, dpa_mono ex h4⟩
      | bag => exact h2
      | xc a d fs => exact ⟨h2.1, ex _ _ h2.2⟩
      | fz c => obtain ⟨a, vs, e, h1, h2⟩ := h2; exact ⟨a, vs, e, ex _ _ h1, dpa_mono ex h2⟩
      | vl v => exact h2
      | fn f d q us ds => exact ⟨h2.1, ex _ _ h2.2.1, dpa_mono ex h2.2.2⟩
      | tb T => exact h2
      | rv ρ => obtain ⟨v, e, h⟩ := h2; exact ⟨v, e, fun M m => h M fun a o q => m a o (ex a o q)⟩
  · rcases get_set g with ⟨rfl, l, e⟩ | ⟨z, g⟩
    · rcases get_set g' with ⟨rfl, l', e'⟩ | ⟨z', g'⟩
      · rfl
      · rw [swp_same, swp_ne z'] at q
        exact absurd q.symm (hne k zs g')
    · rcases get_set g' with ⟨rfl, l', e'⟩ | ⟨z', g'⟩
      · rw [swp_same, swp_ne z] at q
        exact absurd q (hne j ys g)
      · rw [swp_ne z, swp_ne z'] at q
        exact S.inj j k ys zs g g' q
  · rcases get_set g with ⟨rfl, l, e⟩ | ⟨z, g⟩
    · rw [swp_same]
      refine ⟨h0, hB, fun z => hZ (.inl z)⟩
    · rw [swp_ne z]; exact S.sep j ys g
  · rw [upd_ne (fun z => by rw [z, h0] at q; cases q)]
    exact S.base a o q n
  ) only [↓qt_eq])
theorem chg_zz {i : Nat} {c c' : Own} (hi : G[i]? = some (.ow c)) (a : Addr) : Zs W B ad (G.set i (.ow c')) a ↔ Zs W B ad G a := qt_of (by simp (disch := with_unfolding_all
  have il : i < G.length := (List.getElem?_eq_some_iff.mp hi).1
  constructor
  · rintro (h | ⟨j, zs, g, r⟩ | h)
    · exact .inl h
    · rcases get_set g with ⟨rfl, l, e⟩ | ⟨z, g⟩
      · exact .inr (.inl ⟨i, c, hi, r⟩)
      · exact .inr (.inl ⟨j, zs, g, r⟩)
    · exact .inr (.inr h)
  · rintro (h | ⟨j, zs, g, r⟩ | h)
    · exact .inl h
    · by_cases z : i = j
      · subst z
        exact .inr (.inl ⟨i, c', List.getElem?_set_self il, r⟩)
      · exact .inr (.inl ⟨j, zs, by rw [List.getElem?_set_ne z]; exact g, r⟩)
    · exact .inr (.inr h)
  ) only [↓qt_eq])
theorem chg_ex {i : Nat} {c c' : Own} {u : HO} (hi : G[i]? = some (.ow c)) : Ex (less H (Zs W B ad G)) (less (upd H (ad i) u) (Zs W B ad (G.set i (.ow c')))) := fun a o q => by
  obtain ⟨q1, q2⟩ := less_some q
  refine less_of (fun z => q1 ((chg_zz hi a).mp z)) ?_
  rw [upd_ne (fun z => q1 (.inr (.inl ⟨i, c, hi, z⟩)))]; exact q2
/-- a thing of one's own is changed -/
theorem Sta.chg (S : Sta K W B ad H0 H σ G) {i : Nat} {c c' : Own} {vs : List V} (hi : G[i]? = some (.ow c)) (h : DpAll K (less H (Zs W B ad G)) vs c'.flat) : Sta K W B ad H0 (upd H (ad i) (c'.obj (ad i) vs)) σ (G.set i (.ow c')) := qt_of (by simp (disch := with_unfolding_all
  have ex : Ex (less H (Zs W B ad G)) (less (upd H (ad i) (c'.obj (ad i) vs)) (Zs W B ad (G.set i (.ow c')))) := chg_ex hi
  obtain ⟨s0, sB, sW⟩ := S.sep i c hi
  refine ⟨by rw [List.length_set]; exact S.len, fun j en g => ?_, fun j k ys' zs g g' q => ?_, fun j zs g => ?_, fun a o q n => ?_, S.bag.upd sB, fun a z => (S.wd a z).elim fun o q => upd_there q, fun p hp => (S.tab p hp).mono ex (upd_ne fun z => sB (z ▸ InB.tab hp))⟩
  · rcases get_set g with ⟨rfl, l, rfl⟩ | ⟨z, g⟩
    · obtain ⟨o', h1, h2, _⟩ := S.at_ i _ hi
      exact ⟨o', h1, h2, vs, upd_same, dpa_mono ex h⟩
    · obtain ⟨o', h1, h2⟩ := S.at_ j en g
      refine ⟨o', h1, ?_⟩
      cases en with
      | un => trivial
      | d d => obtain ⟨v, e, h⟩ := h2; exact ⟨v, e, dp_mono ex h⟩
      | ow zs =>
        obtain ⟨e, us, h3, h4⟩ := h2
        exact ⟨e, us, by rw [upd_ne (fun w => z (S.inj i j c zs hi g w.symm))]; exact h3, dpa_mono ex h4⟩
      | bag => exact h2
      | xc a d fs => exact ⟨h2.1, ex _ _ h2.2⟩
      | fz c => obtain ⟨a, vs, e, h1, h2⟩ := h2; exact ⟨a, vs, e, ex _ _ h1, dpa_mono ex h2⟩
      | vl v => exact h2
      | fn f d q us ds => exact ⟨h2.1, ex _ _ h2.2.1, dpa_mono ex h2.2.2⟩
      | tb T => exact h2
      | rv ρ => obtain ⟨v, e, h⟩ := h2; exact ⟨v, e, fun M m => h M fun a o q => m a o (ex a o q)⟩
  · rcases get_set g with ⟨rfl, l, e⟩ | ⟨z, g⟩
    · rcases get_set g' with ⟨rfl, l', e'⟩ | ⟨z', g'⟩
      · rfl
      · exact S.inj i k c zs hi g' q
    · rcases get_set g' with ⟨rfl, l', e'⟩ | ⟨z', g'⟩
      · exact S.inj j i ys' c g hi q
      · exact S.inj j k ys' zs g g' q
  · rcases get_set g with ⟨rfl, l, e⟩ | ⟨z, g⟩
    · exact S.sep i c hi
    · exact S.sep j zs g
  · rw [upd_ne (fun z => by rw [z, s0] at q; cases q)]
    exact S.base a o q n
  ) only [↓qt_eq])
/-- a list of one's own is from now on data -/
theorem Sta.freeze (S : Sta K W B ad H0 H σ G) {i : Nat} {xs : List PyData} (hi : G[i]? = some (.ow (ol xs))) : Sta K W B ad H0 H σ (G.set i (.d (.list xs))) := qt_of (by simp (disch := with_unfolding_all
  have ex : Ex (less H (Zs W B ad G)) (less H (Zs W B ad (G.set i (.d (.list xs))))) := less_sub fun a q => Zs.set_of (fun _ z => by cases z) q
  refine ⟨by rw [List.length_set]; exact S.len, fun j en g => ?_, fun j k ys' zs g g' q => ?_, fun j zs g => ?_, S.base, S.bag, S.wd, fun p hp => (S.tab p hp).mono ex rfl⟩
  · rcases get_set g with ⟨rfl, l, rfl⟩ | ⟨z, g⟩
    · obtain ⟨o', h1, h2, vs, h3, h4⟩ := S.at_ i _ hi
      refine ⟨o', h1, _, h2, .lst (sq_of (less_of ?_ h3)) (dpa_mono ex h4)⟩
      rintro (z | ⟨j, zs, g, r⟩ | z)
      · exact (S.sep i _ hi).2.2 z
      · rcases get_set g with ⟨rfl, _, e⟩ | ⟨z, g⟩
        · cases e
        · exact z (S.inj i j _ zs hi g r)
      · exact (S.sep i _ hi).2.1 z
    · obtain ⟨o', h1, h2⟩ := S.at_ j en g
      exact ⟨o', h1, h2.mono ex fun _ _ _ q => q⟩
  · rcases get_set g with ⟨rfl, l, e⟩ | ⟨z, g⟩
    · cases e
    · rcases get_set g' with ⟨rfl, l', e'⟩ | ⟨z', g'⟩
      · cases e'
      · exact S.inj j k ys' zs g g' q
  · rcases get_set g with ⟨rfl, l, e⟩ | ⟨z, g⟩
    · cases e
    · exact S.sep j zs g
  ) only [↓qt_eq])
/-- a thing of another's, which is new to this def, is changed -/
theorem Sta.foreign (S : Sta K W B ad H0 H σ G) {p : Addr} {o : HO} (hw : W p) (h0 : H0 p = none) (hB : ¬ InB B p) : Sta K W B ad H0 (upd H p o) σ G ∧ less (upd H p o) (Zs W B ad G) = less H (Zs W B ad G) := qt_of (by simp (disch := with_unfolding_all
  have el : less (upd H p o) (Zs W B ad G) = less H (Zs W B ad G) := by
    funext a
    by_cases z : Zs W B ad G a
    · rw [less_yes z, less_yes z]
    · rw [less_no z, less_no z, upd_ne (fun e => z (.inl (by rw [e]; exact hw)))]
  refine ⟨⟨S.len, fun i e h => ?_, S.inj, S.sep, fun a u q n => ?_, S.bag.upd hB, fun a z => (S.wd a z).elim fun o q => upd_there q, fun p' hp' => (S.tab p' hp').mono (by rw [el]; exact Ex.refl _) (upd_ne fun z => hB (z ▸ InB.tab hp'))⟩, el⟩
  · obtain ⟨u, g1, g2⟩ := S.at_ i e h
    refine ⟨u, g1, g2.mono (by rw [el]; exact Ex.refl _) fun c vs q q2 => ?_⟩
    subst q
    rw [upd_ne (fun z => (S.sep i c h).2.2 (by rw [z]; exact hw))]; exact q2
  · rw [upd_ne (fun z => by rw [z, h0] at q; cases q)]; exact S.base a u q n
  ) only [↓qt_eq])
/-- a new thing is for a while another's -/
theorem Sta.lend (S : Sta K W B ad H0 H σ G) {p : Addr} {o : HO} (hp : H p = none) : Sta K (fun a => W a ∨ a = p) B ad H0 (upd H p o) σ G ∧ less (upd H p o) (Zs (fun a => W a ∨ a = p) B ad G) = less H (Zs W B ad G) := qt_of (by simp (disch := with_unfolding_all
  obtain ⟨_, _, np⟩ := S.fresh hp
  have zz : ∀ a, Zs (fun a => W a ∨ a = p) B ad G a ↔ Zs W B ad G a ∨ a = p := fun a => by
    constructor
    · rintro ((z | z) | z | z)
      · exact .inl (.inl z)
      · exact .inr z
      · exact .inl (.inr (.inl z))
      · exact .inl (.inr (.inr z))
    · rintro ((z | z | z) | z)
      · exact .inl (.inl z)
      · exact .inr (.inl z)
      · exact .inr (.inr z)
      · exact .inl (.inr z)
  have el : less (upd H p o) (Zs (fun a => W a ∨ a = p) B ad G) = less H (Zs W B ad G) := by
    funext a
    by_cases e : a = p
    · rw [less_yes ((zz a).mpr (.inr e)), e, less_no np, hp]
    · by_cases z : Zs W B ad G a
      · rw [less_yes z, less_yes ((zz a).mpr (.inl z))]
      · rw [less_no z, less_no (fun y => ((zz a).mp y).elim z e), upd_ne e]
  have ex : Ex H (upd H p o) := Ex.new hp
  have S' := S.ext ex
  refine ⟨⟨S.len, fun i e h => ?_, S.inj, fun i c h => ⟨(S.sep i c h).1, (S.sep i c h).2.1, fun z => z.elim (S.sep i c h).2.2 fun z => np (by rw [← z]; exact .inr (.inl ⟨i, c, h, rfl⟩))⟩, S'.base, S'.bag, fun a z => z.elim (fun z => S'.wd a z) fun z => ⟨o, by rw [z]; exact upd_same⟩, fun p' hp' => (S.tab p' hp').mono (by rw [el]; exact Ex.refl _) (upd_ne fun z => np (z ▸ .inr (.inr (InB.tab hp'))))⟩, el⟩
  obtain ⟨u, g1, g2⟩ := S.at_ i e h
  exact ⟨u, g1, g2.mono (by rw [el]; exact Ex.refl _) fun c vs q q2 => ex _ _ q2⟩
  ) only [↓qt_eq])
/-- .. and is given back -/
theorem Sta.back {p : Addr} (S : Sta K (fun a => W a ∨ a = p) B ad H0 H σ G) : Sta K W B ad H0 H σ G ∧ Ex (less H (Zs (fun a => W a ∨ a = p) B ad G)) (less H (Zs W B ad G)) := qt_of (by simp (disch := with_unfolding_all
  have ex : Ex (less H (Zs (fun a => W a ∨ a = p) B ad G)) (less H (Zs W B ad G)) := less_sub fun a z => z.elim (fun z => .inl (.inl z)) .inr
  refine ⟨⟨S.len, fun i e h => ?_, S.inj, fun i c h => ⟨(S.sep i c h).1, (S.sep i c h).2.1, fun z => (S.sep i c h).2.2 (.inl z)⟩, S.base, S.bag, fun a z => S.wd a (.inl z), fun p hp => (S.tab p hp).mono ex rfl⟩, ex⟩
  obtain ⟨u, g1, g2⟩ := S.at_ i e h
  exact ⟨u, g1, g2.mono ex fun _ _ _ q => q⟩
  ) only [↓qt_eq])
theorem new_ex (S : Sta K W B ad H0 H σ G) {p : Addr} {o : HO} (h : H p = none) :
    Sta K W B ad H0 (upd H p o) σ G ∧ Xb B H (upd H p o) ∧ less (upd H p o) (Zs W B ad G) p = some o := by
  have e : Ex H (upd H p o) := Ex.new h
  exact ⟨S.ext e, .of e, less_of (S.fresh h).2.2 upd_same⟩
end
end U.N

end
section
namespace U.N
open PySem PyProof.Rows L2 Evl
/-! ### relations by name -/
@[irreducible] def rAddI : R2 := rI0 fun i j => .int (i + j)
@[irreducible] def rSubI : R2 := rI0 fun i j => .int (i - j)
@[irreducible] def rMulI : R2 := rI CMulW fun i j => .int (i * j)
@[irreducible] def rLtI : R2 := rI0 fun i j => .bl (decide (i < j))
@[irreducible] def rGtI : R2 := rI0 fun i j => .bl (decide (j < i))
@[irreducible] def rNegI : V → Hp → VK → Prop := rU fun i => .int (-i)
section
variable {X : Cx}
theorem op_addI : OpR X (binaryOp .Add) rAddI := by unfold rAddI; exact op_add
theorem op_subI : OpR X (binaryOp .Sub) rSubI := by unfold rSubI; exact op_sub
theorem op_mulI : OpR X (binaryOp .Mult) rMulI := by unfold rMulI; exact op_mulW
theorem op_ltI : OpR X (compareOp .Lt) rLtI := by unfold rLtI; exact op_lt
theorem op_gtI : OpR X (compareOp .Gt) rGtI := by unfold rGtI; exact op_gt
theorem un_negI : UnR X (unaryOp .USub) rNegI := by unfold rNegI; exact un_neg
end
/-! ### what is wanted -/
section
variable (K : Fg) (cs : Cs) (W : WX)
/-- what may leave by raising -/
noncomputable def XP (Wd : Addr → Prop) (B : Bt) (ad : Nat → Addr) (H0 H : Hp) (σ : St) (G : Gam) (ε : Xw → Prop) : Prop :=
  ∀ e, ε e → ∀ d H2, Sta K Wd B ad H0 H2 σ G → Xb B H H2 → H0 d = none → less H2 (Zs Wd B ad G) d = some (.xd e.fs) → W (.ref (cs e.cls)) (some d) σ H2
noncomputable def EW (te : TE) (G : Gam) (φ : PyData → Prop) (ε : Xw → Prop) : Prop :=
  ∀ Wd B ad H0 H σ, Sta K Wd B ad H0 H σ G → ∀ Q : VK, (∀ x, φ x → ∀ v H2, Sta K Wd B ad H0 H2 σ G → Xb B H H2 → Dp K (less H2 (Zs Wd B ad G)) v x → Q v H2) → XP K cs W Wd B ad H0 H σ G ε → te σ H Q
/-- a new thing of one's own -/
noncomputable def EF (te : TE) (G : Gam) (ψ : Own → Prop) (ε : Xw → Prop) : Prop :=
  ∀ Wd B ad H0 H σ, Sta K Wd B ad H0 H σ G → ∀ Q : VK, (∀ c, ψ c → ∀ a vs H2, Sta K Wd B ad H0 H2 σ G → Xb B H H2 → H2 a = none → DpAll K (less H2 (Zs Wd B ad G)) vs c.flat → Q (.ref a) (upd H2 a (c.obj a vs))) → XP K cs W Wd B ad H0 H σ G ε → te σ H Q
noncomputable def TW (tt : TT) (G : Gam) (ψ : Bool → Prop) (ε : Xw → Prop) : Prop :=
  ∀ Wd B ad H0 H σ, Sta K Wd B ad H0 H σ G → ∀ Q : Bool → Hp → Prop, (∀ b, ψ b → ∀ H2, Sta K Wd B ad H0 H2 σ G → Xb B H H2 → Q b H2) → XP K cs W Wd B ad H0 H σ G ε → tt σ H Q
noncomputable def AW (ta : TA) (G : Gam) (α : List PyData → Prop) (ε : Xw → Prop) : Prop :=
  ∀ Wd B ad H0 H σ, Sta K Wd B ad H0 H σ G → ∀ Q : List V → Hp → Prop, (∀ xs, α xs → ∀ vs H2, Sta K Wd B ad H0 H2 σ G → Xb B H H2 → DpAll K (less H2 (Zs Wd B ad G)) vs xs → Q vs H2) → XP K cs W Wd B ad H0 H σ G ε → ta σ H Q
noncomputable def IW (wi : TI) (G : Gam) (ι : List PyData → Prop) (ε : Xw → Prop) : Prop :=
  ∀ Wd B ad H0 H σ, Sta K Wd B ad H0 H σ G → ∀ R : It → Hp → Prop, (∀ ds, ι ds → ∀ J H1, Sta K Wd B ad H0 H1 σ G → Xb B H H1 → ItOk K J ds (less H1 (Zs Wd B ad G)) → R J H1) → XP K cs W Wd B ad H0 H σ G ε → wi σ H R
noncomputable def OW (to : TO) (G : Gam) (ψ : Option Int → Prop) (ε : Xw → Prop) : Prop :=
  ∀ Wd B ad H0 H σ, Sta K Wd B ad H0 H σ G → ∀ Q : Option Int → Hp → Prop, (∀ o, ψ o → ∀ H2, Sta K Wd B ad H0 H2 σ G → Xb B H H2 → Q o H2) → XP K cs W Wd B ad H0 H σ G ε → to σ H Q
inductive Out where
  | nx (G : Gam)
  | rt (x : PyData)
  | rl (c : Own)
  | bk (G : Gam)
  | ct (G : Gam)
  | ex (e : Xw) (G : Gam)
noncomputable def PostO (Wd : Addr → Prop) (B : Bt) (H0 M : Hp) (D : Ends) : Out → Prop
  | .nx G => ∀ ad H σ, Sta K Wd B ad H0 H σ G → Ex M (less H (Zs Wd B ad G)) → D.nx σ H
  | .rt x => ∀ v H, Xb B H0 H → BagOk H B → (∀ p ∈ B.T, TabZ H (fun a => Wd a ∨ InB B a) p) → Dp K (less H fun a => Wd a ∨ InB B a) v x → D.rt v H
  | .rl c => ∀ a vs H, Xb B H0 H → BagOk H B → (∀ p ∈ B.T, TabZ H (fun b => (Wd b ∨ InB B b) ∨ b = a) p) → H0 a = none → H a = some (c.obj a vs) → DpAll K (less H fun b => (Wd b ∨ InB B b) ∨ b = a) vs c.flat → D.rt (.ref a) H
  | .bk G => ∀ ad H σ, Sta K Wd B ad H0 H σ G → Ex M (less H (Zs Wd B ad G)) → D.bk σ H
  | .ct G => ∀ ad H σ, Sta K Wd B ad H0 H σ G → Ex M (less H (Zs Wd B ad G)) → D.ct σ H
  | .ex e G => ∀ d ad H σ, Sta K Wd B ad H0 H σ G → Ex M (less H (Zs Wd B ad G)) → H0 d = none → less H (Zs Wd B ad G) d = some (.xd e.fs) → W (.ref (cs e.cls)) (some d) σ H
noncomputable def SW (ts : TS) (G : Gam) (Φ : Out → Prop) : Prop :=
  ∀ Wd B ad H0 H σ (D : Ends), Sta K Wd B ad H0 H σ G → (∀ o, Φ o → PostO K cs W Wd B H0 (less H (Zs Wd B ad G)) D o) → ts D σ H
end
noncomputable def Cnd (b : Bool) (P Q : Prop) : Prop := (b = true → P) ∧ (b = false → Q)
section
variable {P Q : Prop} {b : Bool}
theorem cnd_t (p : P) : Cnd true P Q := ⟨fun _ => p, (nomatch ·)⟩
theorem cnd_f (q : Q) : Cnd false P Q := ⟨(nomatch ·), fun _ => q⟩
theorem cnd_nt (q : Q) : Cnd (!true) P Q := cnd_f q
theorem cnd_T (h : b = true) (p : P) : Cnd b P Q := ⟨fun _ => p, fun h' => by rw [h] at h'; cases h'⟩
theorem cnd_F (h : b = false) (q : Q) : Cnd b P Q := ⟨fun h' => (by rw [h] at h'; cases h'), fun _ => q⟩
theorem cnd_b (p : b = true → P) (q : b = false → Q) : Cnd b P Q := ⟨p, q⟩
theorem cnd_yes {p : Prop} [Decidable p] (h : p) (x : P) : Cnd (decide p) P Q := cnd_T (decide_eq_true h) x
theorem cnd_no {p : Prop} [Decidable p] (h : ¬ p) (x : Q) : Cnd (decide p) P Q := cnd_F (decide_eq_false h) x
theorem cnd_d {p : Prop} [Decidable p] (x : p → P) (y : ¬ p → Q) : Cnd (decide p) P Q := ⟨fun h => x (of_decide_eq_true h), fun h => y (of_decide_eq_false h)⟩
theorem cnd_nd {p : Prop} [Decidable p] (x : ¬ p → P) (y : p → Q) : Cnd (!decide p) P Q := ⟨fun h => x (fun z => by rw [decide_eq_true z] at h; cases h), fun h => y (Classical.byContradiction fun z => by rw [decide_eq_false z] at h; cases h)⟩
end
section
variable {K : Fg} {cs : Cs} {W : WX} {G G' G1 G2 : Gam} {ta tb tc te : TE} {t u : TT} {φ : PyData → Prop} {ε : Xw → Prop} {ψ : Bool → Prop} {α : List PyData → Prop} {ι : List PyData → Prop} {χ : Own → Prop} {ω : Option Int → Prop}
variable {Wd : Addr → Prop} {B : Bt} {ad : Nat → Addr} {H0 H H1 H2 : Hp} {σ : St}
theorem XP.go (h : XP K cs W Wd B ad H0 H σ G ε) (x : Xb B H H1) : XP K cs W Wd B ad H0 H1 σ G ε := fun e he d H2 S y hd hx => h e he d H2 S (x.trans y) hd hx
theorem ew_mono {φ' : PyData → Prop} (h : EW K cs W te G φ ε) (m : ∀ x, φ x → φ' x) : EW K cs W te G φ' ε := fun Wd B ad H0 H σ S Q q x => h Wd B ad H0 H σ S Q (fun y hy => q y (m y hy)) x
theorem aw_mono {α' : List PyData → Prop} {ta : TA} (h : AW K cs W ta G α ε) (m : ∀ x, α x → α' x) : AW K cs W ta G α' ε := fun Wd B ad H0 H σ S Q q x => h Wd B ad H0 H σ S Q (fun y hy => q y (m y hy)) x
theorem tw_mono {ψ' : Bool → Prop} (h : TW K cs W t G ψ ε) (m : ∀ x, ψ x → ψ' x) : TW K cs W t G ψ' ε := fun Wd B ad H0 H σ S Q q x => h Wd B ad H0 H σ S Q (fun y hy => q y (m y hy)) x
/-! ### values -/
theorem ew_var {i : Nat} {x : PyData} (h : G[i]? = some (.d x)) (p : φ x) : EW K cs W (tVar i) G φ ε := fun Wd B ad H0 H σ S Q q _ => by
  obtain ⟨o, h1, v, rfl, h2⟩ := S.at_ i _ h
  exact ⟨v, h1, q x p v H S Xb.refl h2⟩
theorem ew_glob {v : V} {x : PyData} (h : ∀ H, Dp K H v x) (p : φ x) : EW K cs W (tC v) G φ ε := fun Wd B ad H0 H σ S Q q _ => q x p _ H S Xb.refl (h _)
theorem ew_int {i : Int} (p : φ (.int i)) : EW K cs W (tC (.int i)) G φ ε := ew_glob (fun _ => .int i) p
theorem ew_str {b : Str} (p : φ (.str b)) : EW K cs W (tC (.str b)) G φ ε := ew_glob (fun _ => .str b) p
theorem ew_non (p : φ .none) : EW K cs W (tC .non) G φ ε := ew_glob (fun _ => .non) p
/-! ### arguments, displays -/
theorem aw_nil (p : α []) : AW K cs W tNil G α ε := fun Wd B ad H0 H σ S Q q _ => q _ p _ H S Xb.refl .nil
theorem aw_cons {tr : TA} (h : EW K cs W ta G (fun x => AW K cs W tr G (fun xs => α (x :: xs)) ε) ε) : AW K cs W (tCons ta tr) G α ε := fun Wd B ad H0 H σ S Q q x =>
  h Wd B ad H0 H σ S _ (fun x1 p1 v H1 S1 e1 d1 => p1 Wd B ad H0 H1 σ S1 _ (fun xs p2 vs H2 S2 e2 d2 => q _ p2 _ H2 S2 (e1.trans e2) (.cons (dp_mono (Xb.lz e2) d1) d2)) (x.go e1)) x
theorem ew_ef (h : EF K cs W te G (fun c => ∃ xs, c = ol xs ∧ φ (.list xs)) ε) : EW K cs W te G φ ε := fun Wd B ad H0 H σ S Q q x =>
  h Wd B ad H0 H σ S _ (fun c p a vs H2 S2 e2 hn d => by
    obtain ⟨xs, rfl, p⟩ := p
    obtain ⟨S3, e3, g⟩ := new_ex (o := .lst vs) S2 hn
    exact q _ p _ _ S3 (e2.trans e3) (.lst (sq_of g) (dpa_mono (Xb.lz e3) d))) x
theorem ew_tup {ta : TA} (h : AW K cs W ta G (fun xs => xs.length ≤ 16000000 ∧ φ (.tuple xs)) ε) : EW K cs W (tTup ta) G φ ε := fun Wd B ad H0 H σ S Q q x =>
  h Wd B ad H0 H σ S _ (fun xs p vs H1 S1 e1 d1 => ⟨by rw [dpa_len d1]; exact sz_line p.1, fun a ha => by
    obtain ⟨S2, e2, g⟩ := new_ex (o := .tup vs) S1 ha
    exact q _ p.2 _ _ S2 (e1.trans e2) (.tup (st_of g) (dpa_mono (Xb.lz e2) d1))⟩) x
theorem ef_lst {ta : TA} (h : AW K cs W ta G (fun xs => xs.length ≤ 16000000 ∧ χ (ol xs)) ε) : EF K cs W (tLst ta) G χ ε := fun Wd B ad H0 H σ S Q q x =>
  h Wd B ad H0 H σ S _ (fun xs p vs H1 S1 e1 d1 => ⟨by rw [dpa_len d1]; exact sz_line p.1, fun a ha => q _ p.2 a vs H1 S1 e1 ha d1⟩) x
theorem ew_lst {ta : TA} (h : AW K cs W ta G (fun xs => xs.length ≤ 16000000 ∧ φ (.list xs)) ε) : EW K cs W (tLst ta) G φ ε := ew_ef (ef_lst (aw_mono h fun xs p => ⟨p.1, xs, rfl, p.2⟩))
/-! ### operators -/
theorem ew_op {r : R2} (h : EW K cs W ta G (fun x => EW K cs W tb G (fun y => ∀ Wd B ad H0 H σ v w, Sta K Wd B ad H0 H σ G → Dp K (less H (Zs Wd B ad G)) v x → Dp K (less H (Zs Wd B ad G)) w y → ∀ Q : VK, (∀ z, φ z → ∀ v H2, Sta K Wd B ad H0 H2 σ G → Xb B H H2 → Dp K (less H2 (Zs Wd B ad G)) v z → Q v H2) → r v w H Q) ε) ε) : EW K cs W (tOp r ta tb) G φ ε := fun Wd B ad H0 H σ S Q q x =>
  h Wd B ad H0 H σ S _ (fun x1 p1 v H1 S1 e1 d1 => p1 Wd B ad H0 H1 σ S1 _ (fun y p2 w H2 S2 e2 d2 => p2 Wd B ad H0 H2 σ v w S2 (dp_mono (Xb.lz e2) d1) d2 Q fun z p v H3 S3 e3 d3 => q z p v H3 S3 ((e1.trans e2).trans e3) d3) (x.go e1)) x
theorem ew_I0 {g : Int → Int → V} {f : Int → Int → PyData} (hg : ∀ i j H, Dp K H (g i j) (f i j)) (h : EW K cs W ta G (fun x => ∃ i, x = .int i ∧ EW K cs W tb G (fun y => ∃ j, y = .int j ∧ φ (f i j)) ε) ε) : EW K cs W (tOp (rI0 g) ta tb) G φ ε :=
  ew_op (ew_mono h fun x ⟨i, e, h⟩ => ew_mono h fun y ⟨j, e2, p⟩ => fun Wd B ad H0 H σ v w S d1 d2 Q q => by
    subst e; subst e2
    cases d1; cases d2
    exact ⟨i, j, rfl, rfl, q _ p _ H S Xb.refl (hg i j _)⟩)
theorem ew_I {C : Int → Int → Prop} {g : Int → Int → V} {f : Int → Int → PyData} (hg : ∀ i j H, Dp K H (g i j) (f i j)) (h : EW K cs W ta G (fun x => ∃ i, x = .int i ∧ EW K cs W tb G (fun y => ∃ j, y = .int j ∧ C i j ∧ φ (f i j)) ε) ε) : EW K cs W (tOp (rI C g) ta tb) G φ ε :=
  ew_op (ew_mono h fun x ⟨i, e, h⟩ => ew_mono h fun y ⟨j, e2, c, p⟩ => fun Wd B ad H0 H σ v w S d1 d2 Q q => by
    subst e; subst e2
    cases d1; cases d2
    exact ⟨i, j, rfl, rfl, c, q _ p _ H S Xb.refl (hg i j _)⟩)
theorem ew_add (h : EW K cs W ta G (fun x => ∃ i, x = .int i ∧ EW K cs W tb G (fun y => ∃ j, y = .int j ∧ φ (.int (i + j))) ε) ε) : EW K cs W (tOp rAddI ta tb) G φ ε := by unfold rAddI; exact ew_I0 (f := fun i j => .int (i + j)) (fun _ _ _ => .int _) h
theorem ew_sub (h : EW K cs W ta G (fun x => ∃ i, x = .int i ∧ EW K cs W tb G (fun y => ∃ j, y = .int j ∧ φ (.int (i - j))) ε) ε) : EW K cs W (tOp rSubI ta tb) G φ ε := by unfold rSubI; exact ew_I0 (f := fun i j => .int (i - j)) (fun _ _ _ => .int _) h
theorem ew_mul (h : EW K cs W ta G (fun x => ∃ i, x = .int i ∧ EW K cs W tb G (fun y => ∃ j, y = .int j ∧ CMulW i j ∧ φ (.int (i * j))) ε) ε) : EW K cs W (tOp rMulI ta tb) G φ ε := by unfold rMulI; exact ew_I (f := fun i j => .int (i * j)) (fun _ _ _ => .int _) h
theorem ew_lt (h : EW K cs W ta G (fun x => ∃ i, x = .int i ∧ EW K cs W tb G (fun y => ∃ j, y = .int j ∧ φ (.bool (decide (i < j)))) ε) ε) : EW K cs W (tOp rLtI ta tb) G φ ε := by unfold rLtI; exact ew_I0 (f := fun i j => .bool (decide (i < j))) (fun _ _ _ => .bl _) h
theorem ew_gt (h : EW K cs W ta G (fun x => ∃ i, x = .int i ∧ EW K cs W tb G (fun y => ∃ j, y = .int j ∧ φ (.bool (decide (j < i)))) ε) ε) : EW K cs W (tOp rGtI ta tb) G φ ε := by unfold rGtI; exact ew_I0 (f := fun i j => .bool (decide (j < i))) (fun _ _ _ => .bl _) h
theorem ew_neg (h : EW K cs W ta G (fun x => ∃ i, x = .int i ∧ φ (.int (-i))) ε) : EW K cs W (tUn rNegI ta) G φ ε := by
 unfold rNegI
 exact fun Wd B ad H0 H σ S Q q x => h Wd B ad H0 H σ S _ (fun y ⟨i, e, p⟩ v H1 S1 e1 d1 => by
    subst e
    cases d1
    exact ⟨i, rfl, q _ p _ H1 S1 e1 (.int _)⟩) x
/-- == of scalars -/
noncomputable def scEq : PyData → PyData → Option Bool
  | .int i, .int j => some (decide (i = j))
  | .str i, .str j => some (decide (i = j))
  | .bool i, .bool j => some (decide (i = j))
  | .none, .none => some true
  | _, _ => none
theorem sc_eq {H : Hp} {v w : V} {x y : PyData} {b : Bool} (d1 : Dp K H v x) (d2 : Dp K H w y) (h : scEq x y = some b) : scal v w = true ∧ decide (v = w) = b := by
  cases d1 <;> cases d2 <;> first | (cases h; done) | skip
  · cases h; exact ⟨rfl, rfl⟩
  · cases h; exact ⟨rfl, by simp⟩
  · cases h; exact ⟨rfl, by simp⟩
  · cases h; exact ⟨rfl, by simp⟩
theorem ew_eq (h : EW K cs W ta G (fun x => EW K cs W tb G (fun y => ∃ b, scEq x y = some b ∧ φ (.bool b)) ε) ε) : EW K cs W (tOp rEq ta tb) G φ ε :=
  ew_op (ew_mono h fun x h => ew_mono h fun y ⟨b, e, p⟩ => fun Wd B ad H0 H σ v w S d1 d2 Q q => by
    obtain ⟨h1, h2⟩ := sc_eq d1 d2 e
    exact ⟨h1, by rw [h2]; exact q _ p _ H S Xb.refl (.bl _)⟩)
theorem ew_ne (h : EW K cs W ta G (fun x => EW K cs W tb G (fun y => ∃ b, scEq x y = some b ∧ φ (.bool (!b))) ε) ε) : EW K cs W (tOp rNe ta tb) G φ ε :=
  ew_op (ew_mono h fun x h => ew_mono h fun y ⟨b, e, p⟩ => fun Wd B ad H0 H σ v w S d1 d2 Q q => by
    obtain ⟨h1, h2⟩ := sc_eq d1 d2 e
    exact ⟨h1, by rw [h2]; exact q _ p _ H S Xb.refl (.bl _)⟩)
theorem ew_eqD (h : EW K cs W ta G (fun x => EW K cs W tb G (fun y => SeqAt.shaped x = true ∧ SeqAt.shaped y = true ∧ φ (.bool (PyData.eqv x y))) ε) ε) : EW K cs W (tOp (rEqD K) ta tb) G φ ε :=
  ew_op (ew_mono h fun x h => ew_mono h fun y ⟨h1, h2, p⟩ => fun Wd B ad H0 H σ v w S d1 d2 Q q => ⟨x, y, dp_mono less_ex d1, dp_mono less_ex d2, h1, h2, q _ p _ H S Xb.refl (.bl _)⟩)
theorem ew_isNo (h : EW K cs W ta G (fun x => φ (.bool (isNoneD x))) ε) : EW K cs W (tOp rIsNo ta (tC .non)) G φ ε :=
  ew_op (ew_mono h fun x p => ew_non fun Wd B ad H0 H σ v w S d1 d2 Q q => by
    cases d2
    exact ⟨rfl, by rw [dp_none d1]; exact q _ p _ H S Xb.refl (.bl _)⟩)
theorem ew_noNo (h : EW K cs W ta G (fun x => φ (.bool (!isNoneD x))) ε) : EW K cs W (tOp rNoNo ta (tC .non)) G φ ε :=
  ew_op (ew_mono h fun x p => ew_non fun Wd B ad H0 H σ v w S d1 d2 Q q => by
    cases d2
    exact ⟨rfl, by rw [dp_none d1]; exact q _ p _ H S Xb.refl (.bl _)⟩)
end
end U.N

end
section
/-! Dicts whose keys are tuples, nested ones too: by what they hold. -/
namespace U
open PySem PySem.Spec PyProof.Rows L2 Evl
noncomputable abbrev NK := NestedKey
mutual
/-- data as keys -/
noncomputable def toK : PyData → Option NK
  | .none => some .none
  | .int i => some (.num i)
  | .str x => some (.text x)
  | .tuple xs => (toKs xs).map .tup
  | _ => none
noncomputable def toKs : List PyData → Option (List NK)
  | [] => some []
  | x :: xs => (toK x).bind fun k => (toKs xs).map (k :: ·)
end
section
variable {X : Cx} {pins : List (Addr × Obj)} {σ : L2.St} {H : Hp} {s : Shared}
mutual
theorem nk_is (I : Inv X pins σ H s) : ∀ {x : PyData} {v : V} {u : Value} {k : NK}, Dp X.K H v x → RelV v u → toK x = some k → NestedIs s.heap k u
  | _, _, _, _, .non, r, e => by cases e; cases r; exact .none
  | _, _, _, _, .bl b, r, e => by cases e
  | _, _, _, _, .int i, r, e => by
    cases e
    obtain ⟨t, rfl⟩ := r
    exact .int i t
  | _, _, _, _, .str x, r, e => by
    cases e
    obtain ⟨t, rfl⟩ := r
    exact .text x t
  | _, _, _, _, .lst h t, r, e => by cases e
  | .tuple xs, _, _, _, .tup h t, r, e => by
    have e : (toKs xs).map NestedKey.tup = some _ := e
    obtain ⟨ks, hks, rfl⟩ := Option.map_eq_some_iff.mp e
    cases r
    obtain ⟨its, rv, ⟨o, h1, h2, n, h3⟩, _⟩ := I.tuple h
    exact .tup h1 h2 h3 (by rw [List.toList_toArray]; exact nk_all I t rv hks)
theorem nk_all (I : Inv X pins σ H s) : ∀ {xs : List PyData} {vs : List V} {us : List Value} {ks : List NK}, DpAll X.K H vs xs → Vals vs us → toKs xs = some ks → NestedAll s.heap ks us
  | _, _, _, _, .nil, r, e => by cases e; cases r; exact .nil
  | x :: xs, _, _, _, .cons h t, r, e => by
    have e : ((toK x).bind fun k => (toKs xs).map (k :: ·)) = some _ := e
    obtain ⟨k, hk, e⟩ := Option.bind_eq_some_iff.mp e
    obtain ⟨ks, hks, rfl⟩ := Option.map_eq_some_iff.mp e
    cases r with
    | cons a b => exact .cons (nk_is I h a hk) (nk_all I t b hks)
end
end
noncomputable abbrev Ent := NK × Addr × V
section
variable {X : Cx} {pins : List (Addr × Obj)} {σ : L2.St} {H : Hp} {s : Shared} {a b : Addr} {ep : Nat} {es : List Ent} {k : NK}
/-! ### {}, d[k], d[k] = v, d.get(k, x) -/
end
end U

end
section
/-! Dicts with tuple keys: walked, and made by a comprehension. -/
namespace U
open PySem PySem.Spec PyProof.Rows L2 Evl
section
variable {P : Program} {w : World} {K : Fg} {tg : Expr} {d : Addr} {ep : Nat} {es : List Ent}
end
section
variable {X : Cx} {tg e : Expr} {td : TE}
end
section
variable {X : Cx} {pins : List (Addr × Obj)} {σ : L2.St} {H : Hp} {s : Shared}
end
section
variable {X : Cx}
end
end U

end
section
/-! sorted(xs) of data that compare, sorted(d) of a dict with such keys. -/
namespace U
open PySem PySem.Spec PyProof.Rows L2 Evl
section
variable {X : Cx} {pins : List (Addr × Obj)} {σ : L2.St} {H : Hp} {s : Shared}
end
end U

end
section
/-! x in a list or a tuple of data of any depth. -/
namespace U
open PySem PySem.Spec PyProof.Rows L2 Evl
theorem u65 {k : Nat} {A : Around} (r : L2.Room k A) : A.units + 65 < cLine := by have := r.un; omega
section
variable {X : Cx}
noncomputable def rInS (K : Fg) (neg : Bool) : R2 := fun x y H Q => ∃ d c ds, Dp K H x d ∧ Dp K H y c ∧ (c = .list ds ∨ c = .tuple ds) ∧ SeqAt.shaped d = true ∧ SeqAt.shaped (.list ds) = true ∧ Q (.bl (if neg then !ds.any (fun z => PyData.eqv z d) else ds.any fun z => PyData.eqv z d)) H
theorem op_inS (hu : X.A.units + 65 < cLine) : OpR X (compareOp .In) (rInS X.K false) := by
  intro pins s σ H x y v u Q I rx ry h
  obtain ⟨d, c, ds, hd, he, ec, sd, se, q⟩ := h
  obtain ⟨as, r1⟩ := Dp.reads I d x v hd rx
  obtain ⟨bs, r2⟩ := Dp.reads I c y u he ry
  rcases ec with rfl | rfl
  · exact SeqAt.in_list_reads r2 r1 (SeqAt.canLay_of_shaped se) (SeqAt.canLay_of_shaped sd) (room_in_shaped sd hu) ⟨.bl _, H, I, rfl, q⟩
  · exact SeqAt.in_tuple_reads r2 r1 (SeqAt.canLay_of_shaped se) (SeqAt.canLay_of_shaped sd) (room_in_shaped sd hu) ⟨.bl _, H, I, rfl, q⟩
end
end U

end
section
/-! isinstance of a caught exception of an own class that has a dict. -/
namespace U
open PySem PyProof.Rows L2 Evl
end U

end
section
/-! Own exceptions as values: C(..) where it is not raised. -/
namespace U
open PySem PySem.W PyProof.Rows L2 Evl
section
variable {X : Cx} {e : Expr} {es : List Expr} {ta : TA} {p pos : Pos}
end
section
variable {X : Cx} {e : Expr} {te : TE} {pos : Pos} {n : Str} {pins : List (Addr × Obj)} {σ : St} {H : Hp} {s : Shared}
end
end U

end
section
/-! list comprehensions whose item may raise. -/
namespace U
open PySem PySem.Spec PyProof.Rows L2
section
variable {M : Model} {A : Around} {E : Value → Shared → Prop} {s : Shared} {env : Env}
end
section
variable {X : Cx} {pins : List (Addr × Obj)} {σ : St} {H : Hp} {sI s s' : Shared} {B : Heap} {W : WX} {E : XK}
end
section
variable {X : Cx} {pins : List (Addr × Obj)} {σ : St} {H3 : Hp} {s3 s' : Shared} {W : WX}
end
section
variable {X : Cx}
end
end U

end
section
namespace U
open PySem PyProof.Rows L2 Evl
local macro_rules | `(tactic| walk_at "ev1") => `(tactic| first
  | exact ev_int | exact ev_bl | exact ev_str | exact ev_non | exact ev_var rfl | exact ea_nil | exact eo_none
  | with_reducible apply ev_ixDisp | with_reducible apply ev_fst | with_reducible apply ev_snd
  | with_reducible apply ev_add | with_reducible apply ev_sub | with_reducible apply ev_mul | with_reducible apply ev_fdiv | with_reducible apply ev_mod | with_reducible apply ev_pow
  | with_reducible apply ev_lt | with_reducible apply ev_le | with_reducible apply ev_gt | with_reducible apply ev_ge
  | with_reducible apply ev_eqI | with_reducible apply ev_neI
  | with_reducible apply ev_neg | with_reducible apply ev_subB | with_reducible apply ev_isNo | with_reducible apply ev_noNo
  | with_reducible apply ev_not | with_reducible apply et_test | with_reducible apply et_B | with_reducible apply et_not
  | with_reducible apply ev_abs | with_reducible apply ev_max | with_reducible apply ev_min | with_reducible apply ev_intB
  | with_reducible apply ev_gcd | with_reducible apply ev_frac | with_reducible apply ev_fadd | with_reducible apply ev_sign | with_reducible apply ev_cmpF
  | with_reducible apply ev_pull rfl
  | with_reducible apply ev_like
  | with_reducible apply ev_tup | with_reducible apply ev_lst | with_reducible apply ea_cons | with_reducible apply eo_some
  | with_reducible apply ev_order | exact ev_part rfl | exact ev_far rfl | exact ev_farPart rfl
  | (with_reducible show List.length _ ≤ 16000000; (simp; done)) | (with_reducible show (0 : Int) < _; decide) | (with_reducible show (_ : Int) < 1000000000000; decide) | (with_reducible show CPow _ _; (unfold CPow; decide)) | (with_reducible show CNz _ _; (unfold CNz; decide))
  | with_reducible apply sg_ret | with_reducible apply sg_asg | with_reducible apply sg_next)
local macro_rules | `(tactic| walk_at "ln") => `(tactic| first | walk_at "ev1" | with_reducible apply sg_seq)
section

/-! ### part -/
theorem fdiv_neg2 (a g : Int) : a.fdiv (-g) = (-a).fdiv g := by
  have h := Int.neg_fdiv_neg (-a) g
  rw [Int.neg_neg] at h
  exact h
theorem gI_neg (a b : Int) : gI (-a) (-b) = gI a b := by unfold gI gN; rw [Int.natAbs_neg, Int.natAbs_neg]
theorem gI_one (a : Int) : gI a 1 = 1 := by
  unfold gI gN
  show ((max (Nat.gcd a.natAbs 1) 1 : Nat) : Int) = 1
  rw [Nat.gcd_one_right]
  rfl
noncomputable def partR (a b : Int) : Except Xw PyData := if b = 0 then .error xFlat else .ok (fr (fracF a b))
noncomputable def P_partX : List PyData → Except Xw PyData → Prop := fun ds r => ∃ a b : Int, ds = [.int a, .int b] ∧ Bd 8000 a ∧ Bd 8000 b ∧ r = partR a b
theorem partR_ok {a b : Int} (h : b ≠ 0) : partR a b = .ok (fr (fracF a b)) := if_neg h
section
variable {K : Fg} {cs : Cs} {W : WX} {G : Gam} {s s1 s2 s' : Bag} {ta tb te : TE} {x y : PyData} {E : St → XK}
theorem ev_partX {a b : Int} (h1 : EvG K ta G s (.int a) s1) (h2 : EvG K tb G s1 (.int b) s2) (ha : Bd 8000 a) (hb : Bd 8000 b) (h0 : b ≠ 0) : EvG K (tCallSD (spX K cs P_partX) [] E (tCons ta (tCons tb tNil))) G s (fr (fracF a b)) s2 :=
  ev_callX (ea_cons h1 (ea_cons h2 ea_nil)) (fun _ => .nil) ⟨a, b, rfl, ha, hb, (partR_ok h0).symm⟩
end
section
variable {K : Fg} {cs : Cs}
noncomputable def t_part (K : Fg) (cs : Cs) (W : WX) : TS := (tSeq (tIfS (tTest (tOp rEq (tVar 1) (tC (V.int 0)))) (tRaiseX (cs "Flat") (spIn K ["word"] gFlat) [] tNil W) tNext)
  (tSeq (tIfS (tTest (tOp (rI0 fun i j => V.bl (decide (i < j))) (tVar 1) (tC (V.int 0)))) (tPar 0 1 (tCons (tUn (rU fun i => V.int (-i)) (tVar 0)) (tCons (tUn (rU fun i => V.int (-i)) (tVar 1)) tNil))) tNext)
  (tSeq (tAsg (tCall (spP K P_gcd) [] E0 (tCons (tVar 0) (tCons (tVar 1) tNil))) (gName 2))
  (tRet (tTup (tCons (tOp (rI CDvX fun i j => V.int (i.fdiv j)) (tVar 0) (tVar 2)) (tCons (tOp (rI CDvX fun i j => V.int (i.fdiv j)) (tVar 1) (tVar 2)) tNil)))))))
-- slots of part: 0 above, 1 below, 2 divisor
theorem ln_part : ∀ ds r, P_partX ds r → ds.length = 2 := fun ds r h => by obtain ⟨p, q, rfl, _⟩ := h; rfl
theorem rd_part {ds r} (cf : ClsF K cs "Flat" ["word"]) (h : P_partX ds r) (W : WX) (b : Bag) : RdX K cs W (t_part K cs W) (frame 3 ds) b r := qt_of (by simp (disch := with_unfolding_all
  obtain ⟨x, y, rfl, hx, hy, rfl⟩ := h
  by_cases h0 : y = 0
  · subst h0
    refine ⟨_, sx_whenT (et_is (et_test (ev_eqI (ev_var rfl) ev_int)) rfl) (sx_raise0 cf.ox cf.no rfl)⟩
  · rw [partR_ok h0]
    show SG K (t_part K cs W) _ _ _
    unfold t_part
    refine sg_when (et_is (et_test (ev_eqI (ev_var rfl) ev_int)) (decide_eq_false h0)) (fun h => by cases h) fun _ => ?_
    have hg := gI_pos x y
    have hb : Bd 8001 (gI x y) := Bd.g hx hy
    have dv : ∀ z : Int, CDvX z (gI x y) := fun z => by
      refine ⟨by omega, ?_⟩
      have h2 : (gI x y).natAbs < 2 ^ 8002 := hb.mono (by decide)
      have := PySem.Flt.log2_lt_of (by decide) h2
      omega
    by_cases hn : y < 0
    · refine sg_is (sg_seq (sg_ifT (et_is (et_test (ev_lt (ev_var rfl) ev_int)) (decide_eq_true hn)) (sg_par (ea_cons (ev_neg (ev_var rfl)) (ea_cons (ev_neg (ev_var rfl)) ea_nil)))) (sg_seq (sg_asg (ev_is (ev_gcd (ev_var rfl) (ev_var rfl)) (congrArg PyData.int (gI_neg x y)))) (sg_ret (ev_tup (ea_cons (ev_fdiv (ev_var rfl) (ev_var rfl) (dv _)) (ea_cons (ev_fdiv (ev_var rfl) (ev_var rfl) (dv _)) ea_nil)) (by show 2 ≤ 16000000; decide))))) ?_
      show Out.rt (fr ((-x).fdiv (gI x y), (-y).fdiv (gI x y))) b = Out.rt (fr (fracF x y)) b
      unfold fracF
      rw [if_pos hn, fdiv_neg2, fdiv_neg2]
    · refine sg_is (sg_seq (sg_ifF (et_is (et_test (ev_lt (ev_var rfl) ev_int)) (decide_eq_false hn)) sg_next) (sg_seq (sg_asg (ev_gcd (ev_var rfl) (ev_var rfl))) (sg_ret (ev_tup (ea_cons (ev_fdiv (ev_var rfl) (ev_var rfl) (dv _)) (ea_cons (ev_fdiv (ev_var rfl) (ev_var rfl) (dv _)) ea_nil)) (by show 2 ≤ 16000000; decide))))) ?_
      show Out.rt (fr (x.fdiv (gI x y), y.fdiv (gI x y))) b = Out.rt (fr (fracF x y)) b
      unfold fracF
      rw [if_neg hn]
  ) only [↓qt_eq])
-- slots of told01: 0 _law_above, 1 _law_below, 2 why
end

end
section

noncomputable def subF (p q : Fr) : Fr := fracF (p.1 * q.2 - q.1 * p.2) (p.2 * q.2)
noncomputable def mulF (p q : Fr) : Fr := fracF (p.1 * q.1) (p.2 * q.2)
theorem Sz.subF {n m : Nat} {p q : Fr} (hp : Sz n p) (hq : Sz m q) : Sz (n + m + 1) (U.subF p q) :=
  Sz.frac (Bd.sub (hp.1.mul hq.2) (by rw [Nat.add_comm n m]; exact hq.1.mul hp.2)) ((hp.2.mul hq.2).mono (Nat.le_succ _))
theorem Sz.mulF {n m : Nat} {p q : Fr} (hp : Sz n p) (hq : Sz m q) : Sz (n + m) (U.mulF p q) := Sz.frac (hp.1.mul hq.1) (hp.2.mul hq.2)
theorem fdiv_pos {c g : Int} (hg : 0 < g) (h : g ≤ c) : 0 < c.fdiv g := by
  rw [Int.fdiv_eq_ediv_of_nonneg _ (Int.le_of_lt hg)]
  have : 1 ≤ c / g := Int.le_ediv_of_mul_le hg (by omega)
  omega
theorem gI_le_right {a b : Int} (hb : b ≠ 0) : gI a b ≤ (b.natAbs : Int) := qt_of (by simp (disch := with_unfolding_all
  unfold gI gN
  have h1 : 0 < b.natAbs := Int.natAbs_pos.mpr hb
  have h2 := Nat.gcd_le_right (m := a.natAbs) (n := b.natAbs) h1
  have : max (Nat.gcd a.natAbs b.natAbs) 1 ≤ b.natAbs := Nat.max_le.mpr ⟨h2, h1⟩
  omega
  ) only [↓qt_eq])
theorem fracF_pos {a b : Int} (hb : b ≠ 0) : 0 < (fracF a b).2 := qt_of (by simp (disch := with_unfolding_all
  have hg := gI_pos a b
  have hl := gI_le_right (a := a) hb
  unfold fracF
  by_cases h : b < 0
  · show 0 < b.fdiv (if b < 0 then -gI a b else gI a b)
    rw [if_pos h, fdiv_neg2]
    exact fdiv_pos hg (by omega)
  · rw [if_neg h]
    exact fdiv_pos hg (by omega)
  ) only [↓qt_eq])
theorem addF_pos {p q : Fr} (hp : p.2 ≠ 0) (hq : q.2 ≠ 0) : 0 < (addF p q).2 := fracF_pos (Int.mul_ne_zero hp hq)
theorem subF_pos {p q : Fr} (hp : p.2 ≠ 0) (hq : q.2 ≠ 0) : 0 < (subF p q).2 := fracF_pos (Int.mul_ne_zero hp hq)
theorem mulF_pos {p q : Fr} (hp : p.2 ≠ 0) (hq : q.2 ≠ 0) : 0 < (mulF p q).2 := fracF_pos (Int.mul_ne_zero hp hq)
theorem partOf_pos (s : Bag) : 0 < (partOf s).2 := qt_of (by simp (disch := with_unfolding_all
  obtain ⟨y1, y2⟩ := pullV_range (pullS s 13) (n := 4) (by decide)
  have hm := menu_mem (l := [1, 1, 2, 3]) y1 y2
  refine fracF_pos ?_
  generalize menu _ _ = m at hm
  simp only [List.mem_cons, List.not_mem_nil, or_false] at hm
  omega
  ) only [↓qt_eq])
/-- .. their sizes together -/
noncomputable def P_fg (N : Nat) (C : Fr → Fr → Prop) (f : Fr → Fr → PyData) : List PyData → PyData → Prop := fun ds r => ∃ (n m : Nat) (p q : Fr), ds = [fr p, fr q] ∧ Sz n p ∧ Sz m q ∧ n + m ≤ N ∧ C p q ∧ r = f p q
theorem ln_fg {N : Nat} {C : Fr → Fr → Prop} {f : Fr → Fr → PyData} : ∀ ds r, P_fg N C f ds r → ds.length = 2 := fun ds r h => by obtain ⟨_, _, p, q, rfl, _⟩ := h; rfl
noncomputable abbrev Nz2 (p q : Fr) : Prop := p.2 ≠ 0 ∧ q.2 ≠ 0
noncomputable def P_plus := P_fg 7800 Nz2 fun p q => fr (addF p q)
noncomputable def P_times := P_fg 7800 Nz2 fun p q => fr (mulF p q)
noncomputable def P_lsub := P_fg 7800 (fun _ _ => True) fun p q => fr (subF p q)
noncomputable def P_lmul := P_fg 7800 (fun _ _ => True) fun p q => fr (mulF p q)
section
variable {K : Fg} {cs : Cs} {W : WX} {G : Gam} {s s1 s2 s' : Bag} {ta tb te : TE} {x y : PyData} {E : St → XK} {E' : XK} {p q : Fr}
noncomputable def t_plus (K : Fg) (cs : Cs) : TS := (tRet (tCallSD (spX K cs P_partX) [] (WE W0) (tCons (tOp (rI0 fun i j => V.int (i + j)) (tOp (rI CMulW fun i j => V.int (i * j)) (tOp (rIx K) (tVar 0) (tC (V.int 0))) (tOp (rIx K) (tVar 1) (tC (V.int 1)))) (tOp (rI CMulW fun i j => V.int (i * j)) (tOp (rIx K) (tVar 1) (tC (V.int 0))) (tOp (rIx K) (tVar 0) (tC (V.int 1))))) (tCons (tOp (rI CMulW fun i j => V.int (i * j)) (tOp (rIx K) (tVar 0) (tC (V.int 1))) (tOp (rIx K) (tVar 1) (tC (V.int 1)))) tNil))))
-- slots of plus: 0 one, 1 other
theorem ln_plus : ∀ ds r, P_plus ds r → ds.length = 2 := ln_fg
theorem rd_plus {ds r} (h : P_plus ds r) (b : Bag) : SG K (t_plus K cs) (frame 2 ds) b (.rt r b) := qt_of (by simp (disch := with_unfolding_all
  obtain ⟨n, m, p, q, rfl, hp, hq, hl, hc, rfl⟩ := h
  exact sg_ret (ev_partX (ev_add (ev_mul (ev_fst (ev_var rfl)) (ev_snd (ev_var rfl)) (hp.1.cm hq.2 (by omega))) (ev_mul (ev_fst (ev_var rfl)) (ev_snd (ev_var rfl)) (hq.1.cm hp.2 (by omega)))) (ev_mul (ev_snd (ev_var rfl)) (ev_snd (ev_var rfl)) (hp.2.cm hq.2 (by omega)))
    ((Bd.add (hp.1.mul hq.2) (by rw [Nat.add_comm n m]; exact hq.1.mul hp.2)).mono (by omega)) ((hp.2.mul hq.2).mono (by omega)) (Int.mul_ne_zero hc.1 hc.2))
  ) only [↓qt_eq])
-- slots of minus: 0 one, 1 other
noncomputable def t_times (K : Fg) (cs : Cs) : TS := (tRet (tCallSD (spX K cs P_partX) [] (WE W0) (tCons (tOp (rI CMulW fun i j => V.int (i * j)) (tOp (rIx K) (tVar 0) (tC (V.int 0))) (tOp (rIx K) (tVar 1) (tC (V.int 0)))) (tCons (tOp (rI CMulW fun i j => V.int (i * j)) (tOp (rIx K) (tVar 0) (tC (V.int 1))) (tOp (rIx K) (tVar 1) (tC (V.int 1)))) tNil))))
-- slots of times: 0 one, 1 other
theorem ln_times : ∀ ds r, P_times ds r → ds.length = 2 := ln_fg
theorem rd_times {ds r} (h : P_times ds r) (b : Bag) : SG K (t_times K cs) (frame 2 ds) b (.rt r b) := qt_of (by simp (disch := with_unfolding_all
  obtain ⟨n, m, p, q, rfl, hp, hq, hl, hc, rfl⟩ := h
  exact sg_ret (ev_partX (ev_mul (ev_fst (ev_var rfl)) (ev_fst (ev_var rfl)) (hp.1.cm hq.1 (by omega))) (ev_mul (ev_snd (ev_var rfl)) (ev_snd (ev_var rfl)) (hp.2.cm hq.2 (by omega)))
    ((hp.1.mul hq.1).mono (by omega)) ((hp.2.mul hq.2).mono (by omega)) (Int.mul_ne_zero hc.1 hc.2))
  ) only [↓qt_eq])
-- slots of over: 0 one, 1 other
-- slots of middle: 0 one, 1 other
noncomputable def t__law_sub (K : Fg) : TS := (tRet (tCall (spP K P_frac) [] E0 (tCons (tOp (rI0 fun i j => V.int (i - j)) (tOp (rI CMulW fun i j => V.int (i * j)) (tOp (rIx K) (tVar 0) (tC (V.int 0))) (tOp (rIx K) (tVar 1) (tC (V.int 1)))) (tOp (rI CMulW fun i j => V.int (i * j)) (tOp (rIx K) (tVar 1) (tC (V.int 0))) (tOp (rIx K) (tVar 0) (tC (V.int 1))))) (tCons (tOp (rI CMulW fun i j => V.int (i * j)) (tOp (rIx K) (tVar 0) (tC (V.int 1))) (tOp (rIx K) (tVar 1) (tC (V.int 1)))) tNil))))
-- slots of _law_sub: 0 _law_one, 1 _law_other
theorem ln__law_sub : ∀ ds r, P_lsub ds r → ds.length = 2 := ln_fg
theorem rd__law_sub {ds r} (h : P_lsub ds r) (b : Bag) : SG K (t__law_sub K) (frame 2 ds) b (.rt r b) := qt_of (by simp (disch := with_unfolding_all
  obtain ⟨n, m, p, q, rfl, hp, hq, hl, hc, rfl⟩ := h
  exact sg_ret (ev_fracN (ev_sub (ev_mul (ev_fst (ev_var rfl)) (ev_snd (ev_var rfl)) (hp.1.cm hq.2 (by omega))) (ev_mul (ev_fst (ev_var rfl)) (ev_snd (ev_var rfl)) (hq.1.cm hp.2 (by omega)))) (ev_mul (ev_snd (ev_var rfl)) (ev_snd (ev_var rfl)) (hp.2.cm hq.2 (by omega)))
    ((Bd.sub (hp.1.mul hq.2) (by rw [Nat.add_comm n m]; exact hq.1.mul hp.2)).mono (by omega)) ((hp.2.mul hq.2).mono (by omega)))
  ) only [↓qt_eq])
noncomputable def t__law_mul (K : Fg) : TS := (tRet (tCall (spP K P_frac) [] E0 (tCons (tOp (rI CMulW fun i j => V.int (i * j)) (tOp (rIx K) (tVar 0) (tC (V.int 0))) (tOp (rIx K) (tVar 1) (tC (V.int 0)))) (tCons (tOp (rI CMulW fun i j => V.int (i * j)) (tOp (rIx K) (tVar 0) (tC (V.int 1))) (tOp (rIx K) (tVar 1) (tC (V.int 1)))) tNil))))
-- slots of _law_mul: 0 _law_one, 1 _law_other
theorem ln__law_mul : ∀ ds r, P_lmul ds r → ds.length = 2 := ln_fg
theorem rd__law_mul {ds r} (h : P_lmul ds r) (b : Bag) : SG K (t__law_mul K) (frame 2 ds) b (.rt r b) := qt_of (by simp (disch := with_unfolding_all
  obtain ⟨n, m, p, q, rfl, hp, hq, hl, hc, rfl⟩ := h
  exact sg_ret (ev_fracN (ev_mul (ev_fst (ev_var rfl)) (ev_fst (ev_var rfl)) (hp.1.cm hq.1 (by omega))) (ev_mul (ev_snd (ev_var rfl)) (ev_snd (ev_var rfl)) (hp.2.cm hq.2 (by omega)))
    ((hp.1.mul hq.1).mono (by omega)) ((hp.2.mul hq.2).mono (by omega)))
  ) only [↓qt_eq])
-- slots of _law_div: 0 _law_one, 1 _law_other
-- slots of told03: 0 _law_one, 1 _law_other, 2 why
end

end
section

/-! ### fractions in lowest terms -/
theorem gI_dvd_left {a b : Int} (hb : b ≠ 0) : ∃ c, a = gI a b * c := qt_of (by simp (disch := with_unfolding_all
  have e : gI a b = (Nat.gcd a.natAbs b.natAbs : Nat) := by
    unfold gI gN
    have : 0 < Nat.gcd a.natAbs b.natAbs := Nat.gcd_pos_of_pos_right _ (Int.natAbs_pos.mpr hb)
    have : max (Nat.gcd a.natAbs b.natAbs) 1 = Nat.gcd a.natAbs b.natAbs := Nat.max_eq_left this
    omega
  rw [e]
  exact Int.ofNat_dvd_left.mpr (Nat.gcd_dvd_left _ _)
  ) only [↓qt_eq])
theorem gI_dvd_right {a b : Int} (hb : b ≠ 0) : ∃ c, b = gI a b * c := qt_of (by simp (disch := with_unfolding_all
  have e : gI a b = (Nat.gcd a.natAbs b.natAbs : Nat) := by
    unfold gI gN
    have : 0 < Nat.gcd a.natAbs b.natAbs := Nat.gcd_pos_of_pos_right _ (Int.natAbs_pos.mpr hb)
    have : max (Nat.gcd a.natAbs b.natAbs) 1 = Nat.gcd a.natAbs b.natAbs := Nat.max_eq_left this
    omega
  rw [e]
  exact Int.ofNat_dvd_left.mpr (Nat.gcd_dvd_right _ _)
  ) only [↓qt_eq])
/-- fracF by its factor -/
theorem fracF_spec {a b : Int} (hb : b ≠ 0) : ∃ k : Int, k ≠ 0 ∧ a = k * (fracF a b).1 ∧ b = k * (fracF a b).2 ∧ k.natAbs = Nat.gcd a.natAbs b.natAbs := qt_of (by simp (disch := with_unfolding_all
  have hg := gI_pos a b
  have hn : gI a b = (Nat.gcd a.natAbs b.natAbs : Nat) := by
    unfold gI gN
    have : 0 < Nat.gcd a.natAbs b.natAbs := Nat.gcd_pos_of_pos_right _ (Int.natAbs_pos.mpr hb)
    have : max (Nat.gcd a.natAbs b.natAbs) 1 = Nat.gcd a.natAbs b.natAbs := Nat.max_eq_left this
    omega
  obtain ⟨c, hc⟩ := gI_dvd_left (a := a) hb
  obtain ⟨d, hd⟩ := gI_dvd_right (a := a) hb
  have fd : ∀ (g x : Int), g ≠ 0 → (g * x).fdiv g = x := fun g x h => Int.mul_fdiv_cancel_left x h
  unfold fracF
  by_cases h : b < 0
  · rw [if_pos h]
    refine ⟨-gI a b, by omega, ?_, ?_, by rw [Int.natAbs_neg, hn, Int.natAbs_natCast]⟩
    · have : a = -gI a b * -c := by rw [Int.neg_mul_neg]; exact hc
      show a = -gI a b * a.fdiv (-gI a b)
      have e := fd (-gI a b) (-c) (by omega)
      rw [← this] at e
      rw [e]; exact this
    · have : b = -gI a b * -d := by rw [Int.neg_mul_neg]; exact hd
      show b = -gI a b * b.fdiv (-gI a b)
      have e := fd (-gI a b) (-d) (by omega)
      rw [← this] at e
      rw [e]; exact this
  · rw [if_neg h]
    refine ⟨gI a b, by omega, ?_, ?_, by rw [hn, Int.natAbs_natCast]⟩
    · show a = gI a b * a.fdiv (gI a b)
      have e := fd (gI a b) c (by omega)
      rw [← hc] at e
      rw [e]; exact hc
    · show b = gI a b * b.fdiv (gI a b)
      have e := fd (gI a b) d (by omega)
      rw [← hd] at e
      rw [e]; exact hd
  ) only [↓qt_eq])
theorem fracF_low {a b : Int} (hb : b ≠ 0) : gI (fracF a b).1 (fracF a b).2 = 1 := qt_of (by simp (disch := with_unfolding_all
  obtain ⟨k, hk, h1, h2, h3⟩ := fracF_spec (a := a) hb
  have hpos : 0 < k.natAbs := Int.natAbs_pos.mpr hk
  generalize (fracF a b).1 = x at *
  generalize (fracF a b).2 = y at *
  have : Nat.gcd (k * x).natAbs (k * y).natAbs = k.natAbs * Nat.gcd x.natAbs y.natAbs := by
    rw [Int.natAbs_mul, Int.natAbs_mul, Nat.gcd_mul_left]
  rw [← h1, ← h2, ← h3] at this
  have g1 : Nat.gcd x.natAbs y.natAbs = 1 := Nat.eq_of_mul_eq_mul_left hpos (by rw [← this, Nat.mul_one])
  unfold gI gN
  rw [g1]
  rfl
  ) only [↓qt_eq])
theorem fracF_isPart {a b : Int} (hb : b ≠ 0) : isPart (fr (fracF a b)) = true := by
  show (decide (0 < (fracF a b).2) && decide (gI (fracF a b).1 (fracF a b).2 = 1)) = true
  rw [decide_eq_true (fracF_pos hb), decide_eq_true (fracF_low hb)]
  rfl
theorem partOf_isPart (s : Bag) : isPart (fr (partOf s)) = true := qt_of (by simp (disch := with_unfolding_all
  obtain ⟨y1, y2⟩ := pullV_range (pullS s 13) (n := 4) (by decide)
  have hm := menu_mem (l := [1, 1, 2, 3]) y1 y2
  refine fracF_isPart ?_
  generalize menu _ _ = m at hm
  simp only [List.mem_cons, List.not_mem_nil, or_false] at hm
  omega
  ) only [↓qt_eq])
/-! ### spots -/
section
variable {K : Fg} {cs : Cs} {W : WX} {G : Gam} {s s1 s2 s' : Bag} {ta tb te : TE} {x y : PyData} {E : XK}
-- slots of is_spot: 0 thing, 1 room, 2 one
-- slots of _law_spot: 0 _law_bag_here, 1 _law_rank, 2 _law_at
end

end
end U
end
section
namespace U
open PySem PyProof.Rows L2 Evl
/-! ### fractions as rational numbers -/
noncomputable def val (p : Fr) : Rat := (p.1 : Rat) / (p.2 : Rat)
structure Gd (n : Nat) (p : Fr) : Prop where
  sz : Sz n p
  pos : 0 < p.2
  low : gI p.1 p.2 = 1
theorem Gd.mono {n m : Nat} {p : Fr} (h : Gd n p) (l : n ≤ m) : Gd m p := ⟨h.sz.mono l, h.pos, h.low⟩
theorem Gd.ne {n : Nat} {p : Fr} (h : Gd n p) : p.2 ≠ 0 := Int.ne_of_gt h.pos
theorem qne {a : Int} (h : a ≠ 0) : (a : Rat) ≠ 0 := fun e => h (by exact_mod_cast e)
theorem Gd.qne {n : Nat} {p : Fr} (h : Gd n p) : (p.2 : Rat) ≠ 0 := U.qne h.ne
theorem Gd.add {n m : Nat} {p q : Fr} (hp : Gd n p) (hq : Gd m q) : Gd (n + m + 1) (addF p q) := ⟨Sz.add hp.sz hq.sz, addF_pos hp.ne hq.ne, fracF_low (Int.mul_ne_zero hp.ne hq.ne)⟩
theorem Gd.sub {n m : Nat} {p q : Fr} (hp : Gd n p) (hq : Gd m q) : Gd (n + m + 1) (subF p q) := ⟨Sz.subF hp.sz hq.sz, subF_pos hp.ne hq.ne, fracF_low (Int.mul_ne_zero hp.ne hq.ne)⟩
theorem Gd.mul {n m : Nat} {p q : Fr} (hp : Gd n p) (hq : Gd m q) : Gd (n + m) (mulF p q) := ⟨Sz.mulF hp.sz hq.sz, mulF_pos hp.ne hq.ne, fracF_low (Int.mul_ne_zero hp.ne hq.ne)⟩
theorem partOf_gd (s : Bag) : Gd 10 (partOf s) := qt_of (by simp (disch := with_unfolding_all
  refine ⟨partOf_sz s, partOf_pos s, ?_⟩
  have h := partOf_isPart s
  have h : (decide (0 < (partOf s).2) && decide (gI (partOf s).1 (partOf s).2 = 1)) = true := h
  exact of_decide_eq_true (Bool.and_eq_true_iff.mp h).2
  ) only [↓qt_eq])
theorem val_frac {a b : Int} (hb : b ≠ 0) : val (fracF a b) = (a : Rat) / (b : Rat) := qt_of (by simp (disch := with_unfolding_all
  obtain ⟨k, hk, h1, h2, _⟩ := fracF_spec (a := a) hb
  have hy := Int.ne_of_gt (fracF_pos (a := a) hb)
  unfold val
  generalize (fracF a b).1 = x at *
  generalize (fracF a b).2 = y at *
  have k0 := qne hk
  have y0 := qne hy
  rw [h1, h2, Rat.intCast_mul, Rat.intCast_mul]
  grind
  ) only [↓qt_eq])
theorem val_add {n m : Nat} {p q : Fr} (hp : Gd n p) (hq : Gd m q) : val (addF p q) = val p + val q := by
  unfold addF
  rw [val_frac (Int.mul_ne_zero hp.ne hq.ne), Rat.intCast_add, Rat.intCast_mul, Rat.intCast_mul, Rat.intCast_mul]
  have := hp.qne
  have := hq.qne
  unfold val
  grind
theorem val_sub {n m : Nat} {p q : Fr} (hp : Gd n p) (hq : Gd m q) : val (subF p q) = val p - val q := by
  unfold subF
  rw [val_frac (Int.mul_ne_zero hp.ne hq.ne), Rat.intCast_sub, Rat.intCast_mul, Rat.intCast_mul, Rat.intCast_mul]
  have := hp.qne
  have := hq.qne
  unfold val
  grind
theorem val_mul {n m : Nat} {p q : Fr} (hp : Gd n p) (hq : Gd m q) : val (mulF p q) = val p * val q := by
  unfold mulF
  rw [val_frac (Int.mul_ne_zero hp.ne hq.ne), Rat.intCast_mul, Rat.intCast_mul]
  have := hp.qne
  have := hq.qne
  unfold val
  grind
/-! ### signs -/
end U

end
section
namespace U
open PySem PyProof.Rows L2 Evl
local macro_rules | `(tactic| walk_at "ev1") => `(tactic| first
  | exact ev_int | exact ev_bl | exact ev_str | exact ev_non | exact ev_var rfl | exact ea_nil | exact eo_none
  | with_reducible apply ev_ixDisp | with_reducible apply ev_fst | with_reducible apply ev_snd
  | with_reducible apply ev_add | with_reducible apply ev_sub | with_reducible apply ev_mul | with_reducible apply ev_fdiv | with_reducible apply ev_mod | with_reducible apply ev_pow
  | with_reducible apply ev_lt | with_reducible apply ev_le | with_reducible apply ev_gt | with_reducible apply ev_ge
  | with_reducible apply ev_eqI | with_reducible apply ev_neI
  | with_reducible apply ev_neg | with_reducible apply ev_subB | with_reducible apply ev_isNo | with_reducible apply ev_noNo
  | with_reducible apply ev_not | with_reducible apply et_test | with_reducible apply et_B | with_reducible apply et_not
  | with_reducible apply ev_abs | with_reducible apply ev_max | with_reducible apply ev_min | with_reducible apply ev_intB
  | with_reducible apply ev_gcd | with_reducible apply ev_frac | with_reducible apply ev_fadd | with_reducible apply ev_sign | with_reducible apply ev_cmpF
  | with_reducible apply ev_pull rfl
  | with_reducible apply ev_like
  | with_reducible apply ev_tup | with_reducible apply ev_lst | with_reducible apply ea_cons | with_reducible apply eo_some
  | with_reducible apply ev_order | exact ev_part rfl | exact ev_far rfl | exact ev_farPart rfl
  | (with_reducible show List.length _ ≤ 16000000; (simp; done)) | (with_reducible show (0 : Int) < _; decide) | (with_reducible show (_ : Int) < 1000000000000; decide) | (with_reducible show CPow _ _; (unfold CPow; decide)) | (with_reducible show CNz _ _; (unfold CNz; decide))
  | with_reducible apply sg_ret | with_reducible apply sg_asg | with_reducible apply sg_next)
local macro_rules | `(tactic| walk_at "ln") => `(tactic| first | walk_at "ev1" | with_reducible apply sg_seq)
section

/-! ### rows of fractions -/
noncomputable abbrev frs (ps : List Fr) : PyData := .tuple (ps.map fr)
noncomputable def Gds (n : Nat) (ps : List Fr) : Prop := ∀ p ∈ ps, Gd n p
section
variable {K : Fg} {cs : Cs} {W : WX} {G : Gam} {s s1 s2 s3 s' : Bag} {ta tb tc te : TE} {x y : PyData} {E : XK}
/-- [elt for target in ..], nothing drawn, by what each turn gives -/
theorem ev_lcI {wi : TI} {g : TG} {vs : List Nat} {ds es : List PyData} (h : Src K wi G s ds s1) (hl : es.length = ds.length) (hu : ∀ i e, i ∈ vs → G[i]? = some e → e = .un) (hz : ds.length ≤ 16000000)
    (hs : ∀ (i : Nat) x y, ds[i]? = some x → es[i]? = some y → ∃ Gt, Tgt K g vs G x Gt ∧ EvG K te Gt s1 y s1) : EvG K (tLc wi g tYes te vs) G s (.list es) s1 := by
  have k := ev_lc (K := K) (te := te) (tt := tYes) h (fun i => es[i]?) (fun _ => s1) rfl hu hz fun i x hx => by
    have il := (List.getElem?_eq_some_iff.mp hx).1
    have hy : es[i]? = some (es[i]'(by omega)) := List.getElem?_eq_getElem _
    obtain ⟨Gt, a, b⟩ := hs i x _ hx hy
    refine ⟨Gt, s1, a, ?_, fun y e => ?_, fun hn => rfl⟩
    · rw [hy]; exact et_yes
    · rw [hy] at e
      cases e
      exact b
  have e := range_fm_map (ds := es) id
  rw [List.map_id, hl] at e
  have e2 : (fun i : Nat => (es[i]?).map id) = fun i : Nat => es[i]? := by funext i; simp
  rw [e2] at e
  rw [e] at k
  exact k
theorem ev_pair {p q : Fr} (h1 : EvG K ta G s (fr p) s1) (h2 : EvG K tb G s1 (fr q) s2) : EvG K (tTup (tCons ta (tCons tb tNil))) G s (frs [p, q]) s2 := ev_tup (ea_cons h1 (ea_cons h2 ea_nil)) (by show 2 ≤ 16000000; decide)
/-! step_from, across, side_of -/
-- slots of step_from: 0 one, 1 other, 2 first, 3 second
-- slots of across: 0 one, 1 other
-- slots of side_of: 0 start, 1 end, 2 spot
/-! ### the law's own -/
-- slots of _law_hom: 0 _law_spot_here
-- slots of _law_det: 0 _law_one, 1 _law_two, 2 _law_three, 3 _law_first, 4 _law_second
-- slots of _law_turn: 0 _law_one, 1 _law_two, 2 _law_three
-- slots of _law_along: 0 _law_one, 1 _law_two, 2 _law_share, 3 _law_steps, 4 _law_at
end

end
section

theorem eqv_fr (p q : Fr) : PyData.eqv (fr p) (fr q) = decide (p = q) := qt_of (by simp (disch := with_unfolding_all
  show (p.1 == q.1 && (p.2 == q.2 && true)) = _
  rw [Bool.and_true]
  by_cases h : p = q
  · subst h; simp
  · rw [decide_eq_false h]
    cases h1 : (p.1 == q.1) with
    | false => rfl
    | true =>
      cases h2 : (p.2 == q.2) with
      | false => rfl
      | true => exact absurd (Prod.ext (eq_of_beq h1) (eq_of_beq h2)) h
  ) only [↓qt_eq])
theorem eqv_frs : ∀ ps qs : List Fr, PyData.eqvAll (ps.map fr) (qs.map fr) = decide (ps = qs)
  | [], [] => by simp [PyData.eqvAll]
  | [], q :: qs => by simp [PyData.eqvAll]
  | p :: ps, [] => by simp [PyData.eqvAll]
  | p :: ps, q :: qs => by
    show (PyData.eqv (fr p) (fr q) && PyData.eqvAll (ps.map fr) (qs.map fr)) = _
    rw [eqv_fr, eqv_frs ps qs]
    by_cases h1 : p = q <;> by_cases h2 : ps = qs <;> simp [h1, h2]
section
variable {K : Fg} {cs : Cs} {W : WX} {G : Gam} {s s1 s2 s3 s4 s' : Bag} {ta tb tc td te : TE} {x y : PyData} {E : XK} {E2 : St → XK}
-- slots of gone: 0 spot, 1 step, 2 many, 3 first, 4 second
/-! crossing -/
structure Sp2 where
  x : Fr
  y : Fr
  deriving DecidableEq
noncomputable abbrev Sp2.l (p : Sp2) : List Fr := [p.x, p.y]
noncomputable abbrev Sp2.g (n : Nat) (p : Sp2) : Prop := Gds n p.l
-- slots of crossing: 0 start, 1 end, 2 other_start, 3 other_end, 4 step, 5 other_step, 6 span, 7 many
-- slots of told09: 0 _law_one, 1 _law_two, 2 _law_three, 3 _law_four, 4 why
/-! the law's own -/
-- slots of _law_mid: 0 _law_one, 1 _law_two, 2 _law_at
-- slots of _law_lowest: 0 _law_one, 1 _law_number
-- slots of _law_right: 0 _law_found, 1 _law_one, 2 _law_two, 3 _law_three, 4 _law_four, 5 _law_first, 6 _law_second
end

end
section

/-! ### lists or tuples -/
noncomputable def itemsOf : PyData → Option (List PyData)
  | .list xs => some xs
  | .tuple xs => some xs
  | _ => none
theorem items_cases {x : PyData} {xs : List PyData} (h : itemsOf x = some xs) : x = .list xs ∨ x = .tuple xs := by
  cases x <;> first | cases h | skip
  · exact .inl rfl
  · exact .inr rfl
section
variable {K : Fg} {cs : Cs} {gs : Gs} {W : WX} {G : Gam} {s s1 s2 s3 s' : Bag} {ta tb tc te : TE} {x y : PyData} {E : XK} {xs : List PyData}
/-! ### maps -/
noncomputable abbrev mp (m : List (List Fr)) : PyData := .tuple (m.map frs)
-- slots of map_of: 0 rows, 1 row, 2 one
end

end
section

theorem cutD_from (xs : List PyData) (k : Nat) : cutD xs (some (k : Int)) none = xs.drop k := qt_of (by simp (disch := with_unfolding_all
  unfold cutD
  rw [HT.sIx_none, HT.sIx_nat]
  by_cases h : k ≤ xs.length
  · rw [Nat.min_eq_left h, List.take_of_length_le (by rw [List.length_drop]; omega)]
  · rw [Nat.min_eq_right (by omega), Nat.sub_self, List.take_zero, List.drop_of_length_le (by omega)]
  ) only [↓qt_eq])
theorem cutD_init (xs : List PyData) : cutD xs none (some (-1)) = xs.dropLast := qt_of (by simp (disch := with_unfolding_all
  unfold cutD
  rw [HT.sIx_none, List.drop_zero, Nat.sub_zero, List.dropLast_eq_take]
  congr 1
  have e : HT.sIx xs.length xs.length (some (-1)) = ((-1 : Int) + (xs.length : Int)).toNat := by
    show (if (-1 : Int) < 0 then ((-1 : Int) + (xs.length : Int)).toNat else min (-1 : Int).toNat xs.length) = _
    rw [if_pos (by decide)]
  rw [e]
  omega
  ) only [↓qt_eq])
section
variable {K : Fg} {cs : Cs} {gs : Gs} {W : WX} {G : Gam} {s s1 s2 s3 s' : Bag} {ta tb tc te : TE} {x y : PyData} {E : XK} {xs : List PyData}
noncomputable def stillM (n : Int) : List (List Fr) := if n = 1 then [[(1, 1), (0, 1)]] else [[(1, 1), (0, 1), (0, 1)], [(0, 1), (1, 1), (0, 1)]]
noncomputable def P_still : List PyData → PyData → Prop := fun ds r => ∃ n : Int, ds = [.int n] ∧ r = mp (stillM n)
noncomputable def t_still (K : Fg) (gs : Gs) : TS := (tRet (tIf (tTest (tOp rEq (tVar 0) (tC (V.int 1)))) (tTup (tCons (tTup (tCons (tC (gs "ONE")) (tCons (tC (gs "NONE")) tNil))) tNil)) (tTup (tCons (tTup (tCons (tC (gs "ONE")) (tCons (tC (gs "NONE")) (tCons (tC (gs "NONE")) tNil)))) (tCons (tTup (tCons (tC (gs "NONE")) (tCons (tC (gs "ONE")) (tCons (tC (gs "NONE")) tNil)))) tNil)))))
-- slots of still: 0 room
theorem ln_still : ∀ ds r, P_still ds r → ds.length = 1 := fun ds r h => by obtain ⟨_, rfl, _⟩ := h; rfl
theorem rd_still {ds r} (hN : ∀ H, Dp K H (gs "NONE") (fr (0, 1))) (hO : ∀ H, Dp K H (gs "ONE") (fr (1, 1))) (h : P_still ds r) (b : Bag) : SG K (t_still K gs) (frame 1 ds) b (.rt r b) := qt_of (by simp (disch := with_unfolding_all
  obtain ⟨n, rfl, rfl⟩ := h
  have eN : ∀ {G : Gam} {b : Bag}, EvG K (tC (gs "NONE")) G b (fr (0, 1)) b := ev_glob hN
  have eO : ∀ {G : Gam} {b : Bag}, EvG K (tC (gs "ONE")) G b (fr (1, 1)) b := ev_glob hO
  unfold stillM
  by_cases hn : n = 1
  · rw [if_pos hn]
    exact sg_ret (ev_ifT (et_is (et_test (ev_eqI (ev_var rfl) ev_int)) (decide_eq_true hn)) (ev_tup (ea_cons (ev_pair eO eN) ea_nil) (by show 1 ≤ 16000000; decide)))
  · rw [if_neg hn]
    exact sg_ret (ev_ifF (et_is (et_test (ev_eqI (ev_var rfl) ev_int)) (decide_eq_false hn)) (ev_tup (ea_cons (ev_tup (ea_cons eO (ea_cons eN (ea_cons eN ea_nil))) (by show 3 ≤ 16000000; decide)) (ea_cons (ev_tup (ea_cons eN (ea_cons eO (ea_cons eN ea_nil))) (by show 3 ≤ 16000000; decide)) ea_nil)) (by show 2 ≤ 16000000; decide)))
  ) only [↓qt_eq])
noncomputable def straightM (m : List (List Fr)) : List (List Fr) := m.map fun row => row.dropLast ++ [(0, 1)]
noncomputable def P_straight : List PyData → PyData → Prop := fun ds r => ∃ m : List (List Fr), ds = [mp m] ∧ m.length ≤ 1000 ∧ (∀ row ∈ m, row.length ≤ 1000) ∧ r = mp (straightM m)
theorem cut_init_fr (row : List Fr) : cutD (row.map fr) none (some (-1)) ++ [fr (0, 1)] = (row.dropLast ++ [(0, 1)]).map fr := by
  rw [cutD_init, List.map_append, List.map_dropLast]
  rfl
noncomputable def t_straightened (K : Fg) (gs : Gs) : TS := (tRet (tCB (rTupQ K) (tCons (tLc (iTup K (tVar 0)) (gName 1) tYes (tOp (rCatA K) (tSl (rSlA K) (tVar 1) tNoPart (tPart (tUn (rU fun i => V.int (-i)) (tC (V.int 1))))) (tTup (tCons (tC (gs "NONE")) tNil))) [1]) tNil)))
-- slots of straightened: 0 way, 1 row
theorem ln_straightened : ∀ ds r, P_straight ds r → ds.length = 1 := fun ds r h => by obtain ⟨_, rfl, _⟩ := h; rfl
theorem rd_straightened {ds r} (hN : ∀ H, Dp K H (gs "NONE") (fr (0, 1))) (h : P_straight ds r) (b : Bag) : SG K (t_straightened K gs) (frame 2 ds) b (.rt r b) := qt_of (by simp (disch := with_unfolding_all
  obtain ⟨m, rfl, hm, hr, rfl⟩ := h
  refine sg_ret (ev_tupL (ev_lcI (es := (straightM m).map frs) (src_tup (ev_var rfl)) ?_ (un_at rfl) ?_ fun i x y hx hy => ?_))
  · simp [straightM]
  · rw [List.length_map]; omega
  · rw [List.getElem?_map] at hx
    cases hi : m[i]? with
    | none => rw [hi] at hx; cases hx
    | some row =>
      rw [hi] at hx
      cases hx
      have hl := hr row (List.mem_of_getElem? hi)
      refine ⟨_, tgt_name, ev_is (ev_catA (ev_slA (ev_var rfl) eo_none (eo_some (ev_neg ev_int))) (ev_tup (ea_cons (ev_glob hN) ea_nil) (by show 1 ≤ 16000000; decide)) ?_) ?_⟩
      · show (cutD (row.map fr) none (some (-1))).length + 1 ≤ 16000000
        rw [cutD_init, List.length_dropLast, List.length_map]; omega
      · show PyData.tuple (cutD (row.map fr) none (some (-1)) ++ [fr (0, 1)]) = y
        unfold straightM at hy
        rw [List.getElem?_map, List.getElem?_map, hi] at hy
        rw [cut_init_fr]
        exact Option.some.inj hy
  ) only [↓qt_eq])
/-! ### drawn maps -/
noncomputable def wholePartOf (s : Bag) : Fr := (pullV s 9 - 4, 1)
noncomputable def P_wholePart : Bag → List PyData → PyData → Bag → Prop := fun s ds r s' => ds = [] ∧ r = fr (wholePartOf s) ∧ s' = pullS s 9
noncomputable def t__law_whole_part (K : Fg) : TS := (tRet (tTup (tCons (tOp (rI0 fun i j => V.int (i - j)) (tCall (spB K P_pull) [] E0 (tCons (tVar 0) (tCons (tC (V.int 9)) tNil))) (tC (V.int 4))) (tCons (tC (V.int 1)) tNil))))
-- slots of _law_whole_part: 0 _law_bag_here
theorem ln__law_whole_part : ∀ s ds r s', P_wholePart s ds r s' → ds.length + 1 = 1 := fun s ds r s' h => by obtain ⟨rfl, _⟩ := h; rfl
theorem rd__law_whole_part {s ds r s'} (h : P_wholePart s ds r s') (ok : s.ok) : SG K (t__law_whole_part K) (.bag :: frame 0 ds) s (.rt r s') := by
  obtain ⟨rfl, rfl, rfl⟩ := h
  exact sg_ret (ev_tup (ea_cons (ev_sub (ev_pull rfl ev_int (by decide) (by decide)) ev_int) (ea_cons ev_int ea_nil)) (by show 2 ≤ 16000000; decide))
theorem wholePartOf_gd (s : Bag) : Gd 10 (wholePartOf s) := by
  have h := pullV_range s (n := 9) (by decide)
  refine ⟨⟨?_, ?_⟩, by show (0 : Int) < 1; decide, gI_one _⟩
  · show Bd 10 (pullV s 9 - 4)
    unfold Bd; omega
  · show Bd 10 1
    unfold Bd; decide
noncomputable def entryOf (s : Bag) : Fr := if pullV s 2 = 0 then partOf (pullS s 2) else wholePartOf (pullS s 2)
noncomputable def entryS (s : Bag) : Bag := if pullV s 2 = 0 then partS (pullS s 2) else pullS (pullS s 2) 9
noncomputable def P_entry : Bag → List PyData → PyData → Bag → Prop := fun s ds r s' => ds = [] ∧ r = fr (entryOf s) ∧ s' = entryS s
theorem entryOf_gd (s : Bag) : Gd 10 (entryOf s) := by
  unfold entryOf
  split
  · exact partOf_gd _
  · exact wholePartOf_gd _
theorem entryS_ok {s : Bag} (h : s.ok) : (entryS s).ok := by
  unfold entryS
  split
  · exact partS_ok (pullS_ok _ h)
  · exact pullS_ok _ (pullS_ok _ h)
noncomputable def t__law_entry (K : Fg) : TS := (tRet (tIf (tTest (tOp rEq (tCall (spB K P_pull) [] E0 (tCons (tVar 0) (tCons (tC (V.int 2)) tNil))) (tC (V.int 0)))) (tCall (spB K P_part) [] E0 (tCons (tVar 0) tNil)) (tCall (spB K P_wholePart) [] E0 (tCons (tVar 0) tNil))))
-- slots of _law_entry: 0 _law_bag_here
theorem ln__law_entry : ∀ s ds r s', P_entry s ds r s' → ds.length + 1 = 1 := fun s ds r s' h => by obtain ⟨rfl, _⟩ := h; rfl
theorem rd__law_entry {s ds r s'} (h : P_entry s ds r s') (ok : s.ok) : SG K (t__law_entry K) (.bag :: frame 0 ds) s (.rt r s') := qt_of (by simp (disch := with_unfolding_all
  obtain ⟨rfl, rfl, rfl⟩ := h
  unfold entryOf entryS
  by_cases h : pullV s 2 = 0
  · rw [if_pos h, if_pos h]
    exact sg_ret (ev_ifT (et_is (et_test (ev_eqI (ev_pull rfl ev_int (by decide) (by decide)) ev_int)) (decide_eq_true h)) (ev_part rfl))
  · rw [if_neg h, if_neg h]
    exact sg_ret (ev_ifF (et_is (et_test (ev_eqI (ev_pull rfl ev_int (by decide) (by decide)) ev_int)) (decide_eq_false h)) (ev_b0 rfl ⟨rfl, rfl, rfl⟩))
  ) only [↓qt_eq])
noncomputable def drawFr (F : Bag → Fr) (N : Bag → Bag) (n : Nat) (s : Bag) : List Fr := (List.range n).map fun i => F (itB N i s)
theorem drawn_fr (F : Bag → Fr) (N : Bag → Bag) (n : Nat) (s : Bag) : drawn (fun s => fr (F s)) N n s = (drawFr F N n s).map fr := by
  unfold drawn drawFr
  rw [List.map_map]
  rfl
theorem drawFr_gd {k : Nat} {F : Bag → Fr} {N : Bag → Bag} (h : ∀ s, Gd k (F s)) (n : Nat) (s : Bag) : Gds k (drawFr F N n s) := fun p hp => by
  unfold drawFr at hp
  obtain ⟨i, _, rfl⟩ := List.mem_map.mp hp
  exact h _
theorem drawFr_len (F : Bag → Fr) (N : Bag → Bag) (n : Nat) (s : Bag) : (drawFr F N n s).length = n := by simp [drawFr]
theorem itB_ok {N : Bag → Bag} (h : ∀ {s : Bag}, s.ok → (N s).ok) {s : Bag} (hs : s.ok) : ∀ n, (itB N n s).ok
  | 0 => hs
  | n + 1 => h (itB_ok h hs n)
noncomputable def rowOf (n : Nat) (s : Bag) : List Fr := drawFr entryOf entryS n s
noncomputable def rowS (n : Nat) (s : Bag) : Bag := itB entryS n s
noncomputable def mapOf (st gl : Nat) (s : Bag) : List (List Fr) := (List.range gl).map fun i => rowOf (st + 1) (itB (rowS (st + 1)) i s)
noncomputable def mapS (st gl : Nat) (s : Bag) : Bag := itB (rowS (st + 1)) gl s
/-- a map of n rows of m + 1 fractions -/
structure Mp (k n m : Nat) (a : List (List Fr)) : Prop where
  len : a.length = n
  row : ∀ r ∈ a, r.length = m + 1 ∧ Gds k r
theorem mapOf_mp (st gl : Nat) (s : Bag) : Mp 10 gl st (mapOf st gl s) := by
  refine ⟨by simp [mapOf], fun r hr => ?_⟩
  unfold mapOf at hr
  obtain ⟨i, _, rfl⟩ := List.mem_map.mp hr
  exact ⟨drawFr_len _ _ _ _, drawFr_gd entryOf_gd _ _⟩
theorem mapS_ok {s : Bag} (h : s.ok) (st gl : Nat) : (mapS st gl s).ok := itB_ok (fun h => itB_ok entryS_ok h _) h _
noncomputable def P_map : Bag → List PyData → PyData → Bag → Prop := fun s ds r s' => ∃ st gl : Nat, ds = [.int st, .int gl] ∧ st ≤ 1000 ∧ gl ≤ 1000 ∧ r = mp (mapOf st gl s) ∧ s' = mapS st gl s
noncomputable def t__law_map (K : Fg) : TS := (tRet (tCB (rTupQ K) (tCons (tLc (iRng1 (tCons (tVar 2) tNil)) (gName 3) tYes (tCB (rTupQ K) (tCons (tLc (iRng1 (tCons (tOp (rI0 fun i j => V.int (i + j)) (tVar 1) (tC (V.int 1))) tNil)) (gName 4) tYes (tCall (spB K P_entry) [] E0 (tCons (tVar 0) tNil)) [4]) tNil)) [3]) tNil)))
-- slots of _law_map: 0 _law_bag_here, 1 _law_start, 2 _law_goal, 3 _law_row, 4 _law_at
theorem ln__law_map : ∀ s ds r s', P_map s ds r s' → ds.length + 1 = 3 := fun s ds r s' h => by obtain ⟨_, _, rfl, _⟩ := h; rfl
theorem rd__law_map {s ds r s'} (h : P_map s ds r s') (ok : s.ok) : SG K (t__law_map K) (.bag :: frame 4 ds) s (.rt r s') := qt_of (by simp (disch := with_unfolding_all
  obtain ⟨st, gl, rfl, h1, h2, rfl, rfl⟩ := h
  have inner : ∀ (x : PyData) (s : Bag), EvG K (tCB (rTupQ K) (tCons (tLc (iRng1 (tCons (tOp (rI0 fun i j => V.int (i + j)) (tVar 1) (tC (V.int 1))) tNil)) (gName 4) tYes (tCall (spB K P_entry) [] E0 (tCons (tVar 0) tNil)) [4]) tNil)) [.bag, .d (.int st), .d (.int gl), .d x, .un] s (frs (rowOf (st + 1) s)) (rowS (st + 1) s) := fun x s => by
    have e := ev_lcDraw (K := K) (te := tCall (spB K P_entry) [] E0 (tCons (tVar 0) tNil)) (G := [.bag, .d (.int st), .d (.int gl), .d x, .un]) (src_rng1 (ta := tCons (tOp (rI0 fun i j => V.int (i + j)) (tVar 1) (tC (V.int 1))) tNil) (s := s) (ea_cons (ev_add (ev_var rfl) ev_int) ea_nil) ⟨by omega, by omega⟩) (g := gName 4) (vs := [4]) (fun s => fr (entryOf s)) entryS (un_at rfl) (by rw [rngD_len]; omega)
      (fun x s hx => ⟨_, tgt_name, ev_b0 rfl ⟨rfl, rfl, rfl⟩⟩)
    rw [rngD_len, show ((st : Int) + 1).toNat = st + 1 by omega, drawn_fr] at e
    exact ev_tupL e
  have e := ev_lcDraw (K := K) (G := .bag :: frame 4 [.int st, .int gl]) (src_rng1 (ta := tCons (tVar 2) tNil) (s := s) (ea_cons (ev_var rfl) ea_nil) ⟨by omega, by omega⟩) (g := gName 3) (vs := [3]) (fun s => frs (rowOf (st + 1) s)) (rowS (st + 1)) (un_at rfl) (by rw [rngD_len]; omega)
    (fun x s hx => ⟨_, tgt_name, inner x s⟩)
  rw [rngD_len, Int.toNat_natCast] at e
  refine sg_ret (ev_is (ev_tupL e) ?_)
  unfold mapOf drawn mp
  rw [List.map_map]
  rfl
  ) only [↓qt_eq])
-- slots of told15: 0 _law_rows, 1 why
end

end
end U
end
section
namespace U
open PySem PyProof.Rows L2 Evl
section
variable {K : Fg} {cs : Cs} {gs : Gs} {W : WX} {G GI G1 : Gam} {s s1 s2 s3 s' : Bag} {ta tb tc te : TE} {x y : PyData} {E : XK} {xs : List PyData}
end
end U


end
section
namespace U.N
open PySem PyProof.Rows L2 Evl
section
variable {K : Fg} {cs : Cs} {W : WX} {G G' G1 G2 : Gam} {ta tb tc te : TE} {t u : TT} {φ : PyData → Prop} {ε : Xw → Prop} {ψ : Bool → Prop} {α : List PyData → Prop} {ι : List PyData → Prop} {χ : Own → Prop} {ω : Option Int → Prop}
variable {Wd : Addr → Prop} {B : Bt} {ad : Nat → Addr} {H0 H H1 H2 : Hp} {σ : St}
/-! ### items -/
/-- an item of a list or a tuple -/
theorem ew_ix (h : EW K cs W ta G (fun x => ∃ xs, itemsOf x = some xs ∧ EW K cs W tb G (fun y => ∃ j, y = .int j ∧ ∃ z, atI xs j = some z ∧ φ z) ε) ε) : EW K cs W (tOp (rIx K) ta tb) G φ ε :=
  ew_op (ew_mono h fun x ⟨xs, e, h⟩ => ew_mono h fun y ⟨j, e2, z, hz, p⟩ => fun Wd B ad H0 H σ v w S d1 d2 Q q => by
    subst e2
    cases d2
    rcases items_cases e with rfl | rfl
    · cases d1 with
      | lst g t =>
        obtain ⟨v, g1, g2⟩ := dpa_atI t hz
        exact .inl ⟨_, _, j, v, rfl, rfl, ex_l less_ex g, g1, q _ p _ H S Xb.refl g2⟩
    · cases d1 with
      | tup g t =>
        obtain ⟨v, g1, g2⟩ := dpa_atI t hz
        exact .inr (.inl ⟨_, _, j, v, rfl, rfl, ex_t less_ex g, g1, q _ p _ H S Xb.refl g2⟩))
/-- an item of a list of one's own -/
theorem ew_ixO {xs : List PyData} {i : Nat} (hi : G[i]? = some (.ow (ol xs))) (h : EW K cs W tb G (fun y => ∃ j, y = .int j ∧ ∃ z, atI xs j = some z ∧ φ z) ε) : EW K cs W (tOp (rIx K) (tVar i) tb) G φ ε := fun Wd B ad H0 H σ S Q q x => by
  obtain ⟨o, g1, rfl, _⟩ := S.at_ i _ hi
  refine ⟨_, g1, h Wd B ad H0 H σ S _ (fun y ⟨j, e, z, hz, p⟩ w H2 S2 e2 d2 => ?_) x⟩
  subst e
  cases d2
  obtain ⟨_, _, _, vs, g3, g4⟩ := S2.at_ i _ hi
  have g3 : H2 (ad i) = some (.lst vs) := g3
  have g4 : DpAll K _ vs xs := g4
  obtain ⟨v, g5, g6⟩ := dpa_atI g4 hz
  exact .inl ⟨_, _, j, v, rfl, rfl, sq_of g3, g5, q _ p _ H2 S2 e2 g6⟩
/-! ### tests -/
theorem tw_test (h : EW K cs W te G (fun x => ∃ b, x = .bool b ∧ ψ b) ε) : TW K cs W (tTest te) G ψ ε := fun Wd B ad H0 H σ S Q q x => h Wd B ad H0 H σ S _ (fun y ⟨b, e, p⟩ v H1 S1 e1 d1 => by
  subst e
  cases d1
  exact ⟨b, rfl, q b p H1 S1 e1⟩) x
theorem tw_B (h : EW K cs W te G (fun x => ∃ b, x = .bool b ∧ ψ b) ε) : TW K cs W (tB te) G ψ ε := tw_test h
theorem tw_yes (h : ψ true) : TW K cs W tYes G ψ ε := fun Wd B ad H0 H σ S Q q x => q true h H S Xb.refl
theorem tw_not (h : TW K cs W t G (fun b => ψ (!b)) ε) : TW K cs W (tNot t) G ψ ε := fun Wd B ad H0 H σ S Q q x => h Wd B ad H0 H σ S _ (fun b p => q (!b) p) x
theorem tw_and (h : TW K cs W t G (fun b => Cnd b (TW K cs W u G ψ ε) (ψ false)) ε) : TW K cs W (tAnd t u) G ψ ε := fun Wd B ad H0 H σ S Q q x => h Wd B ad H0 H σ S _ (fun b p H1 S1 e1 => by
  cases b with
  | true => exact iteT (p.1 rfl Wd B ad H0 H1 σ S1 _ (fun b p H2 S2 e2 => q b p H2 S2 (e1.trans e2)) (x.go e1))
  | false => exact iteF (q _ (p.2 rfl) H1 S1 e1)) x
theorem tw_or (h : TW K cs W t G (fun b => Cnd b (ψ true) (TW K cs W u G ψ ε)) ε) : TW K cs W (tOr t u) G ψ ε := fun Wd B ad H0 H σ S Q q x => h Wd B ad H0 H σ S _ (fun b p H1 S1 e1 => by
  cases b with
  | false => exact iteF (p.2 rfl Wd B ad H0 H1 σ S1 _ (fun b p H2 S2 e2 => q b p H2 S2 (e1.trans e2)) (x.go e1))
  | true => exact iteT (q _ (p.1 rfl) H1 S1 e1)) x
theorem ew_if (h : TW K cs W t G (fun b => Cnd b (EW K cs W ta G φ ε) (EW K cs W tb G φ ε)) ε) : EW K cs W (tIf t ta tb) G φ ε := fun Wd B ad H0 H σ S Q q x => h Wd B ad H0 H σ S _ (fun b p H1 S1 e1 => by
  cases b with
  | true => exact iteT (p.1 rfl Wd B ad H0 H1 σ S1 _ (fun b p v H2 S2 e2 d2 => q b p v H2 S2 (e1.trans e2) d2) (x.go e1))
  | false => exact iteF (p.2 rfl Wd B ad H0 H1 σ S1 _ (fun b p v H2 S2 e2 d2 => q b p v H2 S2 (e1.trans e2) d2) (x.go e1))) x
/-! ### promises -/
inductive Rs where
  | ok (x : PyData)
  | fl (c : Own)
  | er (e : Xw)
noncomputable abbrev Pr := List PyData → (Rs → Prop) → Prop
noncomputable def okRs (H : Hp) (K : Fg) (Wd : Addr → Prop) (Q : VK) (A : Rs → Prop) : Prop :=
  (∀ x, A (.ok x) → ∀ v H', Ex H H' → Dp K (less H' Wd) v x → Q v H') ∧
  (∀ c, A (.fl c) → ∀ a vs H', Ex H H' → H a = none → H' a = some (c.obj a vs) → DpAll K (less H' fun b => Wd b ∨ b = a) vs c.flat → Q (.ref a) H')
/-- a def that never raises -/
noncomputable def spW0 (K : Fg) (P : Pr) : Sp := fun vs H Q _ => ∃ (Wd : Addr → Prop) (ds : List PyData) (A : Rs → Prop), (∀ a, Wd a → ∃ o, H a = some o) ∧ DpAll K (less H Wd) vs ds ∧ P ds A ∧ okRs H K Wd Q A
/-- a def that may raise -/
noncomputable def spW (K : Fg) (cs : Cs) (P : Pr) : Sp := fun vs H Q E => ∃ (Wd : Addr → Prop) (ds : List PyData) (A : Rs → Prop), (∀ a, Wd a → ∃ o, H a = some o) ∧ DpAll K (less H Wd) vs ds ∧ P ds A ∧ okRs H K Wd Q A ∧
  ∀ e, A (.er e) → ∀ d H', Ex H H' → H d = none → H' d = some (.xd e.fs) → E (.ref (cs e.cls)) (some d) H'
/-- a def that draws, the bag its first argument -/
noncomputable def spWB (K : Fg) (P : Pr) : Sp := fun vs H Q _ => ∃ (Wd : Addr → Prop) (b c : Addr) (us : List V) (ds : List PyData) (A : Rs → Prop), (∀ a, Wd a → ∃ o, H a = some o) ∧ vs = .ref b :: us ∧ BagOk H (bgB b c) ∧
  DpAll K (less H fun a => Wd a ∨ InB (bgB b c) a) us ds ∧ P ds A ∧
  (∀ x, A (.ok x) → ∀ v H', Xb (bgB b c) H H' → BagOk H' (bgB b c) → Dp K (less H' fun a => Wd a ∨ InB (bgB b c) a) v x → Q v H') ∧
  (∀ l, A (.fl l) → ∀ a vs H', Xb (bgB b c) H H' → BagOk H' (bgB b c) → H a = none → H' a = some (l.obj a vs) → DpAll K (less H' fun b' => (Wd b' ∨ InB (bgB b c) b') ∨ b' = a) vs l.flat → Q (.ref a) H')
/-- what is wanted of a call's answer -/
noncomputable def rE (φ : PyData → Prop) (ε : Xw → Prop) : Rs → Prop
  | .ok x => φ x
  | .fl c => ∃ xs, c = ol xs ∧ φ (.list xs)
  | .er e => ε e
theorem fl_upd {a : Addr} {o : HO} (h : H a = some o) : upd (less H fun b => b = a) a o = H := by
  funext b
  by_cases e : b = a
  · rw [e, upd_same, h]
  · rw [upd_ne e]; exact less_no (Z := fun b => b = a) e
theorem less_less {Z Z' : Addr → Prop} : less (less H Z) Z' = less H fun b => Z b ∨ Z' b := qt_of (by simp (disch := with_unfolding_all
  funext b
  by_cases z' : Z' b
  · rw [less_yes z', less_yes (.inr z')]
  · rw [less_no z']
    by_cases z : Z b
    · rw [less_yes z, less_yes (.inl z)]
    · rw [less_no z, less_no (fun h => h.elim z z')]
  ) only [↓qt_eq])
/-- the answer of a call, a new thing: what stood before stands without it -/
theorem fl_go {a : Addr} {o : HO} (S : Sta K Wd B ad H0 H σ G) (e : Xb B H H2) (b : BagOk H2 B) (t : ∀ p ∈ B.T, TabZ H2 (fun b => Zs Wd B ad G b ∨ b = a) p) (hn : H a = none) (ho : H2 a = some o) : Sta K Wd B ad H0 (less H2 fun b => b = a) σ G ∧ Xb B H (less H2 fun b => b = a) ∧ (less H2 fun b => b = a) a = none ∧ (less (less H2 fun b => b = a) (Zs Wd B ad G)) = less H2 (fun b => Zs Wd B ad G b ∨ b = a) := qt_of (by simp (disch := with_unfolding_all
  have x : Xb B H (less H2 fun b => b = a) := fun p u h n => less_of (fun z => by rw [z, hn] at h; cases h) (e p u h n)
  have nb : ¬ InB B a := (S.fresh hn).2.1
  refine ⟨S.drawn x (b.xb fun p z => less_no fun e => nb (e ▸ z)) fun p hp => (t p hp).mono (by
    rw [less_less]
    exact less_sub fun b z => z.elim .inr .inl) (less_no fun z => nb (z ▸ InB.tab hp)), x, less_yes rfl, ?_⟩
  rw [less_less]
  exact congrArg (less H2) (funext fun b => propext Or.comm)
  ) only [↓qt_eq])
theorem ew_callP {P : List PyData → PyData → Prop} {ta : TA} {dvs : List V} {des : List PyData} {E : XK} (hd : ∀ H, DpAll K H dvs des) (h : AW K cs W ta G (fun ds => ∃ r, P (ds ++ des) r ∧ φ r) ε) : EW K cs W (tCall (spP K P) dvs E ta) G φ ε := fun Wd B ad H0 H σ S Q q x =>
  h Wd B ad H0 H σ S _ (fun ds ⟨r, hp, p⟩ vs H1 S1 e1 d1 => ⟨Zs Wd B ad G, ds ++ des, r, S1.there, dpa_app d1 (hd _), hp, fun v H' e d => q r p v H' (S1.ext e) (e1.trans (.of e)) d⟩) x
theorem bag_zl {b c : Addr} (hb : B.bag = some (b, c)) (H : Hp) : (less H fun a => (Wd a ∨ (∃ i c, G[i]? = some (En.ow c) ∧ a = ad i) ∨ ∃ p ∈ B.T, a = p.1) ∨ InB (bgB b c) a) = less H (Zs Wd B ad G) := congrArg (less H) (funext fun a => propext (by
  have e : InB B a ↔ (U.InB (some (b, c)) a ∨ ∃ p ∈ B.T, a = p.1) := by rw [← hb]; exact Iff.rfl
  have e2 : InB (bgB b c) a ↔ U.InB (some (b, c)) a := ⟨fun z => z.elim id fun ⟨p, hp, _⟩ => (by cases hp), .inl⟩
  show _ ↔ Wd a ∨ _ ∨ InB B a
  rw [e, e2]
  constructor
  · rintro ((z | z | z) | z)
    · exact .inl z
    · exact .inr (.inl z)
    · exact .inr (.inr (.inr z))
    · exact .inr (.inr (.inl z))
  · rintro (z | z | z | z)
    · exact .inl (.inl z)
    · exact .inl (.inr (.inl z))
    · exact .inr z
    · exact .inl (.inr (.inr z))))
theorem wd_bag {b c : Addr} (S : Sta K Wd B ad H0 H σ G) (a : Addr) (z : Wd a ∨ (∃ i c, G[i]? = some (En.ow c) ∧ a = ad i) ∨ ∃ p ∈ B.T, a = p.1) : ∃ o, H a = some o := S.there a (by
  rcases z with z | z | z
  · exact .inl z
  · exact .inr (.inl z)
  · exact .inr (.inr (.inr z)))
theorem bagok_cut {b c : Addr} (hb : B.bag = some (b, c)) (k : BagOk H B) : BagOk H (bgB b c) := ⟨by show ∃ s : Bag, s.ok ∧ BagAt H (some (b, c)) s; rw [← hb]; exact k.1, fun p hp => by cases hp⟩
theorem ew_callB {P : Bag → List PyData → PyData → Bag → Prop} {tr : TA} {i : Nat} {E : XK} (hi : G[i]? = some .bag) (h : AW K cs W tr G (fun ds => ∀ s : Bag, s.ok → ∃ r s', P s ds r s' ∧ s'.ok ∧ φ r) ε) : EW K cs W (tCall (spB K P) [] E (tCons (tVar i) tr)) G φ ε := fun Wd B ad H0 H σ S Q q x => by
  obtain ⟨o, g1, b, c, eb, rfl⟩ := S.at_ i _ hi
  refine ⟨_, g1, h Wd _ ad H0 H σ S _ (fun ds hp vs H1 S1 e1 d1 => ?_) x⟩
  obtain ⟨⟨s, ok, hb⟩, _⟩ := S1.bag
  obtain ⟨r, s', hp, ok', p⟩ := hp s ok
  have zl : ∀ H : Hp, (less H fun a => (Wd a ∨ (∃ i c, G[i]? = some (En.ow c) ∧ a = ad i) ∨ ∃ p ∈ B.T, a = p.1) ∨ U.InB (some (b, c)) a) = less H (Zs Wd B ad G) := fun H => by
    rw [← bag_zl eb]
    exact congrArg (less H) (funext fun a => propext ⟨fun z => z.elim .inl fun z => .inr (.inl z), fun z => z.elim .inl fun z => .inr (z.elim id fun ⟨p, hp, _⟩ => (by cases hp))⟩)
  refine ⟨fun a => Wd a ∨ (∃ i c, G[i]? = some (En.ow c) ∧ a = ad i) ∨ ∃ p ∈ B.T, a = p.1, b, c, vs, s, ds, r, s', fun a z => wd_bag (b := b) (c := c) S1 a z, ?_, by rw [← eb]; exact hb, ?_, hp, fun v H' e hb d => ?_⟩
  · rw [List.append_nil]
  · rw [zl]; exact d1
  · rw [zl] at d
    obtain ⟨t1, t2, t3⟩ := S1.tabB eb (fun a o h n => e a o h fun z => n (.inl z)) ⟨⟨s', ok', hb⟩, fun p hp => by cases hp⟩
    exact q r p v H' (S1.drawn t1 t2 t3) (e1.trans t1) d
section
variable {P : Pr} {ta : TA} {dvs : List V} {des : List PyData} {E : XK}
theorem ew_call0 (hd : ∀ H, DpAll K H dvs des) (h : AW K cs W ta G (fun ds => P (ds ++ des) (rE φ fun _ => False)) ε) : EW K cs W (tCall (spW0 K P) dvs E ta) G φ ε := fun Wd B ad H0 H σ S Q q x =>
  h Wd B ad H0 H σ S _ (fun ds hp vs H1 S1 e1 d1 => ⟨Zs Wd B ad G, ds ++ des, _, S1.there, dpa_app d1 (hd _), hp, fun y p v H' e d => q y p v H' (S1.ext e) (e1.trans (.of e)) d, fun c p a us H' e hn ho d => by
    obtain ⟨xs, rfl, p⟩ := p
    have S2 := S1.ext e
    refine q _ p _ H' S2 (e1.trans (.of e)) (.lst (sq_of (less_of (S1.fresh hn).2.2 ho)) (dpa_mono (less_sub fun b z => .inl z) d))⟩) x
theorem ew_callW (hd : ∀ H, DpAll K H dvs des) (h : AW K cs W ta G (fun ds => P (ds ++ des) (rE φ ε)) ε) : EW K cs W (tCallSD (spW K cs P) dvs (WE W) ta) G φ ε := fun Wd B ad H0 H σ S Q q x =>
  h Wd B ad H0 H σ S _ (fun ds hp vs H1 S1 e1 d1 => ⟨Zs Wd B ad G, ds ++ des, _, S1.there, dpa_app d1 (hd _), hp, ⟨fun y p v H' e d => q y p v H' (S1.ext e) (e1.trans (.of e)) d, fun c p a us H' e hn ho d => by
    obtain ⟨xs, rfl, p⟩ := p
    have S2 := S1.ext e
    refine q _ p _ H' S2 (e1.trans (.of e)) (.lst (sq_of (less_of (S1.fresh hn).2.2 ho)) (dpa_mono (less_sub fun b z => .inl z) d))⟩, fun e p d H' e2 hn hx => x e p d H' (S1.ext e2) (e1.trans (.of e2)) (S1.fresh hn).1 (less_of (S1.fresh hn).2.2 hx)⟩) x
theorem ew_callWB {i : Nat} {tr : TA} (hi : G[i]? = some .bag) (h : AW K cs W tr G (fun ds => P ds (rE φ fun _ => False)) ε) : EW K cs W (tCall (spWB K P) [] E (tCons (tVar i) tr)) G φ ε := fun Wd B ad H0 H σ S Q q x => by
  obtain ⟨o, g1, b, c, eb, rfl⟩ := S.at_ i _ hi
  refine ⟨_, g1, h Wd _ ad H0 H σ S _ (fun ds hp vs H1 S1 e1 d1 => ?_) x⟩
  refine ⟨fun a => Wd a ∨ (∃ i c, G[i]? = some (En.ow c) ∧ a = ad i) ∨ ∃ p ∈ B.T, a = p.1, b, c, vs, ds, _, fun a z => wd_bag (b := b) (c := c) S1 a z, by rw [List.append_nil], bagok_cut eb S1.bag, by rw [bag_zl eb]; exact d1, hp, fun y p v H' e hb d => ?_, fun l p a us H' e hb hn ho d => ?_⟩
  · rw [bag_zl eb] at d
    obtain ⟨t1, t2, t3⟩ := S1.tabB eb e hb
    exact q y p v H' (S1.drawn t1 t2 t3) (e1.trans t1) d
  · obtain ⟨xs, rfl, p⟩ := p
    obtain ⟨t1, t2, t3⟩ := S1.tabB eb e hb
    refine q _ p _ H' (S1.drawn t1 t2 t3) (e1.trans t1) (.lst (sq_of (less_of (S1.fresh hn).2.2 ho)) (dpa_mono ?_ d))
    rw [← bag_zl eb]
    exact less_sub fun b z => .inl z
end
/-! ### built-ins -/
theorem ew_cb {r : List V → Hp → VK → Prop} {ta : TA} (h : AW K cs W ta G (fun xs => ∀ Wd B ad H0 H σ vs, Sta K Wd B ad H0 H σ G → DpAll K (less H (Zs Wd B ad G)) vs xs → ∀ Q : VK, (∀ z, φ z → ∀ v H2, Sta K Wd B ad H0 H2 σ G → Xb B H H2 → Dp K (less H2 (Zs Wd B ad G)) v z → Q v H2) → r vs H Q) ε) : EW K cs W (tCB r ta) G φ ε := fun Wd B ad H0 H σ S Q q x =>
  h Wd B ad H0 H σ S _ (fun xs p vs H1 S1 e1 d1 => p Wd B ad H0 H1 σ vs S1 d1 Q fun z p v H2 S2 e2 d2 => q z p v H2 S2 (e1.trans e2) d2) x
theorem ef_cb {r : List V → Hp → VK → Prop} {ta : TA} (h : AW K cs W ta G (fun xs => ∀ Wd B ad H0 H σ vs, Sta K Wd B ad H0 H σ G → DpAll K (less H (Zs Wd B ad G)) vs xs → ∀ Q : VK, (∀ c, χ c → ∀ a vs H2, Sta K Wd B ad H0 H2 σ G → Xb B H H2 → H2 a = none → DpAll K (less H2 (Zs Wd B ad G)) vs c.flat → Q (.ref a) (upd H2 a (c.obj a vs))) → r vs H Q) ε) : EF K cs W (tCB r ta) G χ ε := fun Wd B ad H0 H σ S Q q x =>
  h Wd B ad H0 H σ S _ (fun xs p vs H1 S1 e1 d1 => p Wd B ad H0 H1 σ vs S1 d1 Q fun c p a us H2 S2 e2 hn d2 => q c p a us H2 S2 (e1.trans e2) hn d2) x
theorem ew_len {ta : TA} (h : AW K cs W ta G (fun xs => ∃ x ys, xs = [x] ∧ itemsOf x = some ys ∧ φ (.int ys.length)) ε) : EW K cs W (tCB (rLenQ K) ta) G φ ε := ew_cb (aw_mono h fun xs ⟨x, ys, e, hx, p⟩ Wd B ad H0 H σ vs S d Q q => by
  subst e
  obtain ⟨v, rfl, d1⟩ := dp1 d
  rcases items_cases hx with rfl | rfl
  · cases d1 with
    | lst g t => exact ⟨_, _, rfl, .inl (ex_l less_ex g), by rw [dpa_len t]; exact q _ p _ H S Xb.refl (.int _)⟩
  · cases d1 with
    | tup g t => exact ⟨_, _, rfl, .inr (ex_t less_ex g), by rw [dpa_len t]; exact q _ p _ H S Xb.refl (.int _)⟩)
theorem ef_list {ta : TA} (h : AW K cs W ta G (fun xs => ∃ x ys, xs = [x] ∧ itemsOf x = some ys ∧ χ (ol ys)) ε) : EF K cs W (tCB (rListQ K) ta) G χ ε := ef_cb (aw_mono h fun xs ⟨x, ys, e, hx, p⟩ Wd B ad H0 H σ vs S d Q q => by
  subst e
  obtain ⟨v, rfl, d1⟩ := dp1 d
  rcases items_cases hx with rfl | rfl
  · cases d1 with
    | lst g t => exact ⟨_, _, rfl, .inl (ex_l less_ex g), fun l hl => q _ p l _ H S Xb.refl hl t⟩
  · cases d1 with
    | tup g t => exact ⟨_, _, rfl, .inr (ex_t less_ex g), fun l hl => q _ p l _ H S Xb.refl hl t⟩)
theorem ew_list {ta : TA} (h : AW K cs W ta G (fun xs => ∃ x ys, xs = [x] ∧ itemsOf x = some ys ∧ φ (.list ys)) ε) : EW K cs W (tCB (rListQ K) ta) G φ ε := ew_ef (ef_list (aw_mono h fun xs ⟨x, ys, e, hx, p⟩ => ⟨x, ys, e, hx, ys, rfl, p⟩))
theorem new_tupW {vs : List V} {xs : List PyData} (S : Sta K Wd B ad H0 H σ G) (d : DpAll K (less H (Zs Wd B ad G)) vs xs) {l : Addr} (hl : H l = none) {Q : VK} (p : φ (.tuple xs))
    (q : ∀ z, φ z → ∀ v H2, Sta K Wd B ad H0 H2 σ G → Xb B H H2 → Dp K (less H2 (Zs Wd B ad G)) v z → Q v H2) : Q (.ref l) (upd H l (.tup vs)) := by
  obtain ⟨S2, e2, g⟩ := new_ex (o := .tup vs) S hl
  exact q _ p _ _ S2 e2 (.tup (st_of g) (dpa_mono (Xb.lz e2) d))
theorem ew_tuple {ta : TA} (h : AW K cs W ta G (fun xs => ∃ x ys, xs = [x] ∧ itemsOf x = some ys ∧ φ (.tuple ys)) ε) : EW K cs W (tCB (rTupQ K) ta) G φ ε := ew_cb (aw_mono h fun xs ⟨x, ys, e, hx, p⟩ Wd B ad H0 H σ vs S d Q q => by
  subst e
  obtain ⟨v, rfl, d1⟩ := dp1 d
  rcases items_cases hx with rfl | rfl
  · cases d1 with
    | lst g t => exact ⟨_, _, rfl, .inl ⟨ex_l less_ex g, fun l hl => new_tupW S t hl p q⟩⟩
  · cases d1 with
    | tup g t => exact ⟨_, _, rfl, .inr ⟨ex_t less_ex g, q _ p _ H S Xb.refl (.tup g t)⟩⟩)
theorem ew_tupO {xs : List PyData} {i : Nat} (hi : G[i]? = some (.ow (ol xs))) (p : φ (.tuple xs)) : EW K cs W (tCB (rTupQ K) (tCons (tVar i) tNil)) G φ ε := fun Wd B ad H0 H σ S Q q x => by
  obtain ⟨o, g1, rfl, vs, g3, g4⟩ := S.at_ i _ hi
  have g3 : H (ad i) = some (.lst vs) := g3
  exact ⟨_, g1, _, _, rfl, .inl ⟨sq_of g3, fun l hl => new_tupW S g4 hl p q⟩⟩
theorem ew_isi {n : String} (h : EW K cs W ta G (fun x => ∃ b, kitB (tyN x) n = some b ∧ φ (.bool b)) ε) : EW K cs W (tCB (rIsi K) (tCons ta (tCons (tC (.ty n)) tNil))) G φ ε := fun Wd B ad H0 H σ S Q q x =>
  h Wd B ad H0 H σ S _ (fun y ⟨b, hb, p⟩ v H1 S1 e1 d1 => ⟨v, .ty n, _, _, b, rfl, .ty n, dp_ty d1, kit_ty hb, q _ p _ H1 S1 e1 (.bl _)⟩) x
/-! ### slices, joins -/
theorem ow_none (p : ω none) : OW K cs W tNoPart G ω ε := fun Wd B ad H0 H σ S Q q _ => q _ p H S Xb.refl
theorem ow_some (h : EW K cs W te G (fun x => ∃ i, x = .int i ∧ ω (some i)) ε) : OW K cs W (tPart te) G ω ε := fun Wd B ad H0 H σ S Q q x => h Wd B ad H0 H σ S _ (fun y ⟨i, e, p⟩ v H1 S1 e1 d1 => by
  subst e
  cases d1
  exact ⟨i, rfl, q _ p H1 S1 e1⟩) x
theorem ew_slA {tl th : TO} (h : EW K cs W te G (fun x => ∃ xs, x = .tuple xs ∧ OW K cs W tl G (fun lo => OW K cs W th G (fun hi => φ (.tuple (cutD xs lo hi))) ε) ε) ε) : EW K cs W (tSl (rSlA K) te tl th) G φ ε := fun Wd B ad H0 H σ S Q q x =>
  h Wd B ad H0 H σ S _ (fun y ⟨xs, e, p⟩ v H1 S1 e1 d1 => p Wd B ad H0 H1 σ S1 _ (fun lo p H2 S2 e2 => p Wd B ad H0 H2 σ S2 _ (fun hi p H3 S3 e3 => by
    subst e
    cases dp_mono (Xb.lz (e2.trans e3)) d1 with
    | tup g t =>
      have l := dpa_len t
      refine ⟨_, _, rfl, ex_t less_ex g, fun z => ?_, fun z l hl => new_tupW S3 (dpa_cut t lo hi) hl p fun z p v H4 S4 e4 d4 => q z p v H4 S4 ((e1.trans (e2.trans e3)).trans e4) d4⟩
      rw [l] at z
      exact q _ p _ H3 S3 (e1.trans (e2.trans e3)) (by rw [cutD_whole z]; exact .tup g t)) ((x.go e1).go e2)) (x.go e1)) x
theorem ef_catL (h : EW K cs W ta G (fun x => ∃ xs, x = .list xs ∧ EW K cs W tb G (fun y => ∃ ys, y = .list ys ∧ xs.length + ys.length ≤ 16000000 ∧ χ (ol (xs ++ ys))) ε) ε) : EF K cs W (tOp (rCatL K) ta tb) G χ ε := fun Wd B ad H0 H σ S Q q x =>
  h Wd B ad H0 H σ S _ (fun y ⟨xs, e, p⟩ v H1 S1 e1 d1 => p Wd B ad H0 H1 σ S1 _ (fun y ⟨ys, e', hl, p⟩ w H2 S2 e2 d2 => by
    subst e; subst e'
    cases dp_mono (Xb.lz e2) d1 with
    | lst g t =>
      cases d2 with
      | lst g2 t2 =>
        exact ⟨_, _, _, _, rfl, rfl, ex_l less_ex g, ex_l less_ex g2, by rw [dpa_len t, dpa_len t2]; exact sz_line hl, fun l hn => q _ p l _ H2 S2 (e1.trans e2) hn (dpa_app t t2)⟩) (x.go e1)) x
theorem ew_catL (h : EW K cs W ta G (fun x => ∃ xs, x = .list xs ∧ EW K cs W tb G (fun y => ∃ ys, y = .list ys ∧ xs.length + ys.length ≤ 16000000 ∧ φ (.list (xs ++ ys))) ε) ε) : EW K cs W (tOp (rCatL K) ta tb) G φ ε :=
  ew_ef (ef_catL (ew_mono h fun x ⟨xs, e, p⟩ => ⟨xs, e, ew_mono p fun y ⟨ys, e, hl, p⟩ => ⟨ys, e, hl, _, rfl, p⟩⟩))
theorem ew_catA (h : EW K cs W ta G (fun x => ∃ xs, x = .tuple xs ∧ EW K cs W tb G (fun y => ∃ ys, y = .tuple ys ∧ xs.length + ys.length ≤ 16000000 ∧ φ (.tuple (xs ++ ys))) ε) ε) : EW K cs W (tOp (rCatA K) ta tb) G φ ε :=
  ew_op (ew_mono h fun x ⟨xs, e, h⟩ => ew_mono h fun y ⟨ys, e2, hl, p⟩ => fun Wd B ad H0 H σ v w S d1 d2 Q q => by
    subst e; subst e2
    cases d1 with
    | tup g t =>
      cases d2 with
      | tup g2 t2 =>
        refine ⟨_, _, _, _, rfl, rfl, ex_t less_ex g, ex_t less_ex g2, by rw [dpa_len t, dpa_len t2]; exact sz_line hl, fun z => ?_, fun z1 z2 => ?_, fun z1 z2 l hl => new_tupW S (dpa_app t t2) hl p q⟩
        · have e := (dpa_nil t).mp z
          subst e
          exact q _ p _ H S Xb.refl (.tup g2 t2)
        · have e := (dpa_nil t2).mp z2
          subst e
          exact q _ p _ H S Xb.refl (by rw [List.append_nil]; exact .tup g t))
/-! ### in, of whole numbers -/
end
end U.N

end
section
namespace U.N
open PySem PyProof.Rows L2 Evl
/-! ### statements -/
noncomputable def sq (K : Fg) (cs : Cs) (W : WX) (tz : TS) (Φ : Out → Prop) : Out → Prop
  | .nx G => SW K cs W tz G Φ
  | .rt x => Φ (.rt x)
  | .rl c => Φ (.rl c)
  | .bk G => Φ (.bk G)
  | .ct G => Φ (.ct G)
  | .ex e G => Φ (.ex e G)
/-- what a turn of a loop may end with -/
noncomputable def lp (I : Gam → Prop) (Φ : Out → Prop) : Out → Prop
  | .nx G => I G
  | .ct G => I G
  | .bk G => Φ (.nx G)
  | .rt x => Φ (.rt x)
  | .rl c => Φ (.rl c)
  | .ex e G => Φ (.ex e G)
section
variable {K : Fg} {cs : Cs} {W : WX} {G G' G1 G2 : Gam} {ta tb tc te : TE} {t u : TT} {tu tw tz : TS} {φ : PyData → Prop} {ε : Xw → Prop} {ψ : Bool → Prop} {α : List PyData → Prop} {ι : List PyData → Prop} {χ : Own → Prop} {Φ Ψ : Out → Prop}
variable {Wd : Addr → Prop} {B : Bt} {ad : Nat → Addr} {H0 H H1 H2 : Hp} {σ : St}
theorem PostO.mono {M M' : Hp} {D : Ends} {o : Out} (e : Ex M M') (h : PostO K cs W Wd B H0 M D o) : PostO K cs W Wd B H0 M' D o := qt_of (by simp (disch := with_unfolding_all
  cases o with
  | nx G => exact fun ad H σ S x => h ad H σ S (e.trans x)
  | rt x => exact h
  | rl c => exact h
  | bk G => exact fun ad H σ S x => h ad H σ S (e.trans x)
  | ct G => exact fun ad H σ S x => h ad H σ S (e.trans x)
  | ex e' G => exact fun d ad H σ S x => h d ad H σ S (e.trans x)
  ) only [↓qt_eq])
theorem post_xp {D : Ends} (q : ∀ o, Φ o → PostO K cs W Wd B H0 (less H (Zs Wd B ad G)) D o) : XP K cs W Wd B ad H0 H σ G (fun e => Φ (.ex e G)) := fun e he d H2 S x hd hx => q _ he d ad H2 σ S (Xb.lz x) hd hx
theorem sw_mono (h : SW K cs W tu G Φ) (m : ∀ o, Φ o → Ψ o) : SW K cs W tu G Ψ := fun Wd B ad H0 H σ D S q => h Wd B ad H0 H σ D S fun o p => q o (m o p)
theorem sw_seq (h : SW K cs W tu G (sq K cs W tz Φ)) : SW K cs W (tSeq tu tz) G Φ := fun Wd B ad H0 H σ D S q =>
  h Wd B ad H0 H σ { D with nx := tz D } S fun o p => by
    cases o with
    | nx G1 => exact fun ad' H' σ' S' e => p Wd B ad' H0 H' σ' D S' fun o p => (q o p).mono e
    | rt x => exact q _ p
    | rl c => exact q _ p
    | bk G => exact q _ p
    | ct G => exact q _ p
    | ex e G => exact q _ p
theorem sq_nx (h : SW K cs W tz G Φ) : sq K cs W tz Φ (.nx G) := h
theorem sq_rt {x : PyData} (h : Φ (.rt x)) : sq K cs W tz Φ (.rt x) := h
theorem sq_bk (h : Φ (.bk G)) : sq K cs W tz Φ (.bk G) := h
theorem lp_nx {I : Gam → Prop} (h : I G) : lp I Φ (.nx G) := h
theorem lp_bk {I : Gam → Prop} (h : Φ (.nx G)) : lp I Φ (.bk G) := h
theorem sw_next (h : Φ (.nx G)) : SW K cs W tNext G Φ := fun Wd B ad H0 H σ D S q => q _ h ad H σ S (Ex.refl _)
theorem sw_brk (h : Φ (.bk G)) : SW K cs W tBreak G Φ := fun Wd B ad H0 H σ D S q => q _ h ad H σ S (Ex.refl _)
theorem sw_asg {i : Nat} (h : EW K cs W te G (fun x => Φ (.nx (G.set i (.d x)))) (fun e => Φ (.ex e G))) : SW K cs W (tAsg te (gName i)) G Φ := fun Wd B ad H0 H σ D S q =>
  h Wd B ad H0 H σ S _ (fun x p v H1 S1 e1 d1 => q _ p ad H1 _ (S1.setD d1) ((Xb.lz e1).trans (less_sub fun a z => Zs.set_of (fun _ z => by cases z) z))) (post_xp q)
/-- a new thing of one's own -/
theorem sw_asgF {i : Nat} (h : EF K cs W te G (fun c => Φ (.nx (G.set i (.ow c)))) (fun e => Φ (.ex e G))) : SW K cs W (tAsg te (gName i)) G Φ := fun Wd B ad H0 H σ D S q =>
  h Wd B ad H0 H σ S _ (fun c p a vs H1 S1 e1 hn d => q _ p _ _ _ (S1.setOwn (i := i) hn d) ((Xb.lz e1).trans (own_ex hn))) (post_xp q)
theorem sw_drop (h : EW K cs W te G (fun x => Φ (.nx G)) (fun e => Φ (.ex e G))) : SW K cs W (tDrop te) G Φ := fun Wd B ad H0 H σ D S q =>
  h Wd B ad H0 H σ S _ (fun x p v H1 S1 e1 d1 => q _ p ad H1 _ S1 (Xb.lz e1)) (post_xp q)
theorem sw_ret (h : EW K cs W te G (fun x => Φ (.rt x)) (fun e => Φ (.ex e G))) : SW K cs W (tRet te) G Φ := fun Wd B ad H0 H σ D S q =>
  h Wd B ad H0 H σ S _ (fun x p v H1 S1 e1 d1 => q _ p v H1 S1.base S1.bag (fun p hp => (S1.tab p hp).mono (less_sub fun a z => z.elim .inl fun z => .inr (.inr z)) rfl) (dp_mono (less_sub fun a z => z.elim .inl fun z => .inr (.inr z)) d1)) (post_xp q)
theorem sw_if (h : TW K cs W t G (fun b => Cnd b (SW K cs W tu G Φ) (SW K cs W tw G Φ)) (fun e => Φ (.ex e G))) : SW K cs W (tIfS t tu tw) G Φ := fun Wd B ad H0 H σ D S q =>
  h Wd B ad H0 H σ S _ (fun b p H1 S1 e1 => by
    cases b with
    | true => exact iteT (p.1 rfl Wd B ad H0 H1 σ D S1 fun o p => (q o p).mono (Xb.lz e1))
    | false => exact iteF (p.2 rfl Wd B ad H0 H1 σ D S1 fun o p => (q o p).mono (Xb.lz e1))) (post_xp q)
theorem sw_freeze {i : Nat} {xs : List PyData} (hi : G[i]? = some (.ow (ol xs))) (h : SW K cs W tu (G.set i (.d (.list xs))) Φ) (hx : ∀ e G', Φ (.ex e G') → True := by intros; trivial) : SW K cs W tu G Φ := fun Wd B ad H0 H σ D S q =>
  h Wd B ad H0 H σ D (S.freeze hi) fun o p => (q o p).mono (less_sub fun a z => Zs.set_of (fun _ z => by cases z) z)
/-! ### lists of one's own -/
theorem sw_app {i : Nat} {xs : List PyData} (hi : G[i]? = some (.ow (ol xs))) (hl : xs.length < 16000000) (h : EW K cs W te G (fun x => Φ (.nx (G.set i (.ow (ol (xs ++ [x])))))) (fun e => Φ (.ex e G))) : SW K cs W (tDrop (tBM K "list" rAppend (tVar i) (tCons te tNil))) G Φ := fun Wd B ad H0 H σ D S q => by
  obtain ⟨o, g1, rfl, vs, g3, g4⟩ := S.at_ i _ hi
  have g3 : H (ad i) = some (.lst vs) := g3
  refine ⟨_, g1, Or.inl ⟨rfl, vs, sq_of g3⟩, h Wd B ad H0 H σ S _ (fun x p v H1 S1 e1 d1 => ?_) (post_xp q)⟩
  obtain ⟨_, _, _, us, g5, g6⟩ := S1.at_ i _ hi
  have g6 : DpAll K _ us xs := g6
  exact ⟨_, us, v, rfl, rfl, g5, by rw [dpa_len g6]; exact Nat.lt_of_lt_of_le hl (by decide), q _ p ad _ σ (S1.chg (c' := ol (xs ++ [x])) hi (dpa_app g6 (.cons d1 .nil))) ((Xb.lz e1).trans (chg_ex hi))⟩
/-! ### what is forgotten -/
inductive Wk : Gam → Gam → Prop
  | nil : Wk [] []
  | cons {e : En} {G G' : Gam} : Wk G G' → Wk (e :: G) (e :: G')
  | drop {e : En} {G G' : Gam} : Wk G G' → Wk (e :: G) (.un :: G')
theorem Wk.length : ∀ {G G' : Gam}, Wk G G' → G.length = G'.length
  | _, _, .nil => rfl
  | _, _, .cons h => congrArg (· + 1) h.length
  | _, _, .drop h => congrArg (· + 1) h.length
theorem Wk.get : ∀ {G G' : Gam} {i : Nat} {e : En}, Wk G G' → G'[i]? = some e → G[i]? = some e ∨ e = .un
  | _, _, _, _, .nil, h => by simp at h
  | _, _, 0, _, .cons _, h => .inl h
  | _, _, 0, _, .drop _, h => .inr (Option.some.inj h).symm
  | _, _, i + 1, _, .cons w, h => Wk.get (i := i) w h
  | _, _, i + 1, _, .drop w, h => Wk.get (i := i) w h
theorem Wk.own {G G' : Gam} {i : Nat} {c : Own} (w : Wk G G') (h : G'[i]? = some (.ow c)) : G[i]? = some (.ow c) := (w.get h).resolve_right fun z => by cases z
theorem Wk.ex {G G' : Gam} (w : Wk G G') : Ex (less H (Zs Wd B ad G)) (less H (Zs Wd B ad G')) := less_sub fun a q => by
  rcases q with q | ⟨i, c, g, r⟩ | q
  · exact .inl q
  · exact .inr (.inl ⟨i, c, w.own g, r⟩)
  · exact .inr (.inr q)
theorem Sta.wk {G G' : Gam} (w : Wk G G') (S : Sta K Wd B ad H0 H σ G) : Sta K Wd B ad H0 H σ G' where
  len := S.len.trans w.length
  at_ := fun i e h => by
    rcases w.get h with g | rfl
    · obtain ⟨o, g1, g2⟩ := S.at_ i e g
      exact ⟨o, g1, g2.mono w.ex fun _ _ _ q => q⟩
    · have il : i < σ.length := by rw [S.len, w.length]; exact (List.getElem?_eq_some_iff.mp h).1
      exact ⟨σ[i], List.getElem?_eq_getElem il, trivial⟩
  inj := fun i j c c' g g' q => S.inj i j c c' (w.own g) (w.own g') q
  sep := fun i c g => S.sep i c (w.own g)
  base := S.base
  bag := S.bag
  wd := S.wd
  tab := fun p hp => (S.tab p hp).mono w.ex rfl
theorem sw_wk (w : Wk G G1) (h : SW K cs W tu G1 Φ) : SW K cs W tu G Φ := fun Wd B ad H0 H σ D S q =>
  h Wd B ad H0 H σ D (S.wk w) fun o p => (q o p).mono w.ex
/-! ### targets -/
/-- targets that only set names: vs tells which -/
noncomputable def GC (K : Fg) (g : TG) (vs : List Nat) (G : Gam) (x : PyData) (γ : Gam → Prop) : Prop :=
  ∀ Wd B ad H0 H σ v, Sta K Wd B ad H0 H σ G → Dp K (less H (Zs Wd B ad G)) v x → ∀ Q : St → Hp → Prop,
  (∀ G' σ', γ G' → G.length = G'.length → (∀ i, i ∉ vs → G'[i]? = G[i]?) → (∀ i c, i ∈ vs → G'[i]? = some (.ow c) → G[i]? = some (.ow c)) → Sta K Wd B ad H0 H σ' G' → Ex (less H (Zs Wd B ad G)) (less H (Zs Wd B ad G')) → wipe σ' vs = wipe σ vs → Q σ' H) → g v σ H Q
noncomputable def GsC (K : Fg) (g : TGs) (vs : List Nat) (G : Gam) (xs : List PyData) (γ : Gam → Prop) : Prop :=
  ∀ Wd B ad H0 H σ us, Sta K Wd B ad H0 H σ G → DpAll K (less H (Zs Wd B ad G)) us xs → ∀ Q : St → Hp → Prop,
  (∀ G' σ', γ G' → G.length = G'.length → (∀ i, i ∉ vs → G'[i]? = G[i]?) → (∀ i c, i ∈ vs → G'[i]? = some (.ow c) → G[i]? = some (.ow c)) → Sta K Wd B ad H0 H σ' G' → Ex (less H (Zs Wd B ad G)) (less H (Zs Wd B ad G')) → wipe σ' vs = wipe σ vs → Q σ' H) → g us σ H Q
variable {γ : Gam → Prop} {vs : List Nat}
theorem gc_name {i : Nat} {x : PyData} (hi : i ∈ vs) (h : γ (G.set i (.d x))) : GC K (gName i) vs G x γ := fun Wd B ad H0 H σ v S d Q q => by
  refine q _ _ h (by rw [List.length_set]) (fun j hj => List.getElem?_set_ne fun (e : i = j) => hj (by rw [← e]; exact hi)) (fun j c _ g => ?_) (S.setD d) (less_sub fun a z => Zs.set_of (fun _ z => by cases z) z) (wipe_set hi)
  rcases get_set g with ⟨rfl, _, e⟩ | ⟨_, g⟩
  · cases e
  · exact g
theorem gsc_nil (h : γ G) : GsC K gNil vs G [] γ := fun Wd B ad H0 H σ us S d Q q => by
  cases d
  exact ⟨rfl, q _ _ h rfl (fun _ _ => rfl) (fun _ _ _ g => g) S (Ex.refl _) rfl⟩
theorem gsc_cons {g : TG} {gs : TGs} {x : PyData} {xs : List PyData} (h : GC K g vs G x (fun G' => GsC K gs vs G' xs γ)) : GsC K (gCons g gs) vs G (x :: xs) γ := fun Wd B ad H0 H σ us S d Q q => by
  cases d with
  | cons a b =>
    refine ⟨_, _, rfl, h Wd B ad H0 H σ _ S a _ fun G1 σ1 p l1 o1 w1 S1 e1 x1 => ?_⟩
    exact p Wd B ad H0 H σ1 _ S1 (dpa_mono e1 b) _ fun G2 σ2 p l2 o2 w2 S2 e2 x2 => q G2 σ2 p (l1.trans l2) (fun i hi => (o2 i hi).trans (o1 i hi)) (fun i c hi g => w1 i c hi (w2 i c hi g)) S2 (e1.trans e2) (x2.trans x1)
theorem gc_tup {n : Nat} {gs : TGs} {xs : List PyData} (hn : xs.length = n) (h : GsC K gs vs G xs γ) : GC K (gTup K n gs) vs G (.tuple xs) γ := fun Wd B ad H0 H σ v S d Q q => by
  cases d with
  | tup g t => exact ⟨_, _, rfl, ex_t less_ex g, (dpa_len t).trans hn, h Wd B ad H0 H σ _ S t Q q⟩
/-- targets at large -/
noncomputable def GW (K : Fg) (g : TG) (G : Gam) (x : PyData) (γ : Gam → Prop) : Prop :=
  ∀ Wd B ad H0 H σ v, Sta K Wd B ad H0 H σ G → Dp K (less H (Zs Wd B ad G)) v x → ∀ Q : St → Hp → Prop,
  (∀ G' ad' H' σ', γ G' → Sta K Wd B ad' H0 H' σ' G' → Ex (less H (Zs Wd B ad G)) (less H' (Zs Wd B ad' G')) → Q σ' H') → g v σ H Q
theorem gw_gc (vs : List Nat) {g : TG} {x : PyData} (h : GC K g vs G x γ) : GW K g G x γ := fun Wd B ad H0 H σ v S d Q q => h Wd B ad H0 H σ v S d Q fun G' σ' p _ _ _ S' e _ => q G' ad H σ' p S' e
theorem gw_name {i : Nat} {x : PyData} (h : γ (G.set i (.d x))) : GW K (gName i) G x γ := gw_gc [i] (gc_name (List.mem_singleton.mpr rfl) h)
theorem sw_asgT {g : TG} (h : EW K cs W te G (fun x => GW K g G x (fun G' => Φ (.nx G'))) (fun e => Φ (.ex e G))) : SW K cs W (tAsg te g) G Φ := fun Wd B ad H0 H σ D S q =>
  h Wd B ad H0 H σ S _ (fun x p v H1 S1 e1 d1 => p Wd B ad H0 H1 σ v S1 d1 _ fun G' ad' H' σ' p S' e' => q _ p ad' H' σ' S' ((Xb.lz e1).trans e')) (post_xp q)
/-- *a, b = a tuple -/
theorem gw_star {i j : Nat} {xs : List PyData} {x : PyData} (hij : i ≠ j) (hl : xs.length ≤ 10000) (h : γ ((G.set i (.ow (ol xs))).set j (.d x))) : GW K (gStar K (gCons (gName i) (gCons (gName j) gNil))) G (.tuple (xs ++ [x])) γ := fun Wd B ad H0 H σ v S d Q q => by
  cases d with
  | @tup a us _ g t =>
    obtain ⟨vs, w, rfl, d1, d2⟩ : ∃ vs w, us = vs ++ [w] ∧ DpAll K (less H (Zs Wd B ad G)) vs xs ∧ Dp K (less H (Zs Wd B ad G)) w x := by
      have key : ∀ (xs : List PyData) (us : List V), DpAll K (less H (Zs Wd B ad G)) us (xs ++ [x]) → ∃ vs w, us = vs ++ [w] ∧ DpAll K (less H (Zs Wd B ad G)) vs xs ∧ Dp K (less H (Zs Wd B ad G)) w x := fun xs => by
        induction xs with
        | nil =>
          intro us h
          cases h with
          | cons a b => cases b; exact ⟨[], _, rfl, .nil, a⟩
        | cons y ys ih =>
          intro us h
          cases h with
          | cons a b =>
            obtain ⟨vs, w, rfl, h1, h2⟩ := ih _ b
            exact ⟨_ :: vs, w, rfl, .cons a h1, h2⟩
      exact key xs us t
    refine ⟨a, vs, w, rfl, ex_t less_ex g, by rw [dpa_len d1]; exact hl, fun l hn => ?_⟩
    have S1 := S.setOwn (i := i) (c := ol xs) hn d1
    have e1 : Ex (less H (Zs Wd B ad G)) (less (upd H l (.lst vs)) (Zs Wd B (swp ad i l) (G.set i (.ow (ol xs))))) := own_ex hn
    refine ⟨_, _, rfl, _, _, rfl, rfl, ?_⟩
    exact q _ _ _ _ h (S1.setD (i := j) (dp_mono e1 d2)) (e1.trans (less_sub fun a z => Zs.set_of (fun _ z => by cases z) z))
/-! ### what is walked -/
theorem dp_itL {v : V} {ds : List PyData} {M : Hp} (d : Dp K M v (.list ds)) : ∃ a vs, v = .ref a ∧ SqL K M a vs ∧ ItOk K (Itl K a) ds M := qt_of (by simp (disch := with_unfolding_all
  cases d with
  | @lst a vs _ g t =>
    refine ⟨a, vs, rfl, g, fun H' Z hz e i => ?_⟩
    have g' : SqL K H' a vs := ex_l less_ex (ex_l e g)
    refine ⟨fun d hd => ?_, fun hl => ⟨vs, g', by rw [dpa_len t]; exact hl⟩, fun x H'' hy => ?_⟩
    · obtain ⟨v, hv, _⟩ := dpa_get t hd
      exact ⟨vs, v, g', hv⟩
    · obtain ⟨rfl, hy⟩ := hy
      refine ⟨Ex.refl _, fun d hd => ?_⟩
      obtain ⟨v, hv, hd⟩ := dpa_get t hd
      have ev : v = x := Option.some.inj (hv.symm.trans (hy vs g'))
      rw [← ev]
      exact dp_mono e hd
  ) only [↓qt_eq])
theorem dp_itT {v : V} {ds : List PyData} {M : Hp} (d : Dp K M v (.tuple ds)) : ∃ a vs, v = .ref a ∧ SqT K M a vs ∧ ItOk K (Itt K a) ds M := qt_of (by simp (disch := with_unfolding_all
  cases d with
  | @tup a vs _ g t =>
    refine ⟨a, vs, rfl, g, fun H' Z hz e i => ?_⟩
    have g' : SqT K H' a vs := ex_t less_ex (ex_t e g)
    refine ⟨fun d hd => ?_, fun hl => ⟨vs, g', by rw [dpa_len t]; exact hl⟩, fun x H'' hy => ?_⟩
    · obtain ⟨v, hv, _⟩ := dpa_get t hd
      exact ⟨vs, v, g', hv⟩
    · obtain ⟨rfl, hy⟩ := hy
      refine ⟨Ex.refl _, fun d hd => ?_⟩
      obtain ⟨v, hv, hd⟩ := dpa_get t hd
      have ev : v = x := Option.some.inj (hv.symm.trans (hy vs g'))
      rw [← ev]
      exact dp_mono e hd
  ) only [↓qt_eq])
theorem iw_list (h : EW K cs W te G (fun x => ∃ ds, x = .list ds ∧ ι ds) ε) : IW K cs W (iList K te) G ι ε := fun Wd B ad H0 H σ S R q x => h Wd B ad H0 H σ S _ (fun y ⟨ds, e, p⟩ v H1 S1 e1 d1 => by
  subst e
  obtain ⟨a, vs, rfl, g, ok⟩ := dp_itL d1
  exact ⟨a, rfl, ⟨vs, ex_l less_ex g⟩, q ds p _ H1 S1 e1 ok⟩) x
theorem iw_tup (h : EW K cs W te G (fun x => ∃ ds, x = .tuple ds ∧ ι ds) ε) : IW K cs W (iTup K te) G ι ε := fun Wd B ad H0 H σ S R q x => h Wd B ad H0 H σ S _ (fun y ⟨ds, e, p⟩ v H1 S1 e1 d1 => by
  subst e
  obtain ⟨a, vs, rfl, g, ok⟩ := dp_itT d1
  exact ⟨a, rfl, ⟨vs, ex_t less_ex g⟩, q ds p _ H1 S1 e1 ok⟩) x
theorem iw_rng1 {ta : TA} (h : AW K cs W ta G (fun xs => ∃ n : Int, xs = [.int n] ∧ (-1000000 ≤ n ∧ n ≤ 1000000) ∧ ι (rngD 0 n.toNat)) ε) : IW K cs W (iRng1 ta) G ι ε := fun Wd B ad H0 H σ S R q x => h Wd B ad H0 H σ S _ (fun xs ⟨n, e, hn, p⟩ vs H1 S1 e1 d1 => by
  subst e
  obtain ⟨v, rfl, d⟩ := dp1 d1
  cases d
  exact ⟨n, rfl, by omega, by omega, q _ p _ H1 S1 e1 it_rng⟩) x
theorem iw_rng2 {ta : TA} (h : AW K cs W ta G (fun xs => ∃ m n : Int, xs = [.int m, .int n] ∧ (-1000000 ≤ m ∧ m ≤ 1000000) ∧ (-1000000 ≤ n ∧ n ≤ 1000000) ∧ ι (rngD m (n - m).toNat)) ε) : IW K cs W (iRng2 ta) G ι ε := fun Wd B ad H0 H σ S R q x => h Wd B ad H0 H σ S _ (fun xs ⟨m, n, e, hm, hn, p⟩ vs H1 S1 e1 d1 => by
  subst e
  obtain ⟨v, w, rfl, d, d'⟩ := dp2 d1
  cases d; cases d'
  exact ⟨m, n, rfl, ⟨by omega, by omega, by omega, by omega⟩, q _ p _ H1 S1 e1 it_rng⟩) x
noncomputable def zipD (xs ys : List PyData) : List PyData := List.zipWith (fun x y => .tuple [x, y]) xs ys
/-! ### loops -/
/-- what is asked of a loop over ds: an invariant of the turn and the slots -/
noncomputable def ForI (K : Fg) (cs : Cs) (W : WX) (g : TG) (tb : TS) (G : Gam) (Φ : Out → Prop) (ds : List PyData) : Prop :=
  ∃ I : Nat → Gam → Prop, I 0 G ∧ (∀ i x G1, ds[i]? = some x → I i G1 → GW K g G1 x (fun Gt => SW K cs W tb Gt (lp (I (i + 1)) Φ))) ∧ ∀ G1, I ds.length G1 → Φ (.nx G1)
theorem sw_for {wi : TI} {g : TG} {tb : TS} (h : IW K cs W wi G (ForI K cs W g tb G Φ) (fun e => Φ (.ex e G))) : SW K cs W (tFor wi g tb) G Φ := fun Wd B ad H0 H σ D S q =>
  h Wd B ad H0 H σ S _ (fun ds ⟨I, i0, hs, hd⟩ J H1 S1 e1 ok => by
    refine ⟨fun i m σ' H' => m = ds.length - i ∧ i ≤ ds.length ∧ ∃ ad' G1, I i G1 ∧ Sta K Wd B ad' H0 H' σ' G1 ∧ Ex (less H1 (Zs Wd B ad G)) (less H' (Zs Wd B ad' G1)), ⟨ds.length, rfl, Nat.zero_le _, ad, G, i0, S1, Ex.refl _⟩, ?_⟩
    rintro i m σ' H' ⟨rfl, hi, ad', G1, hI, S', e'⟩
    obtain ⟨k1, k2, k3⟩ := ok H' (Zs Wd B ad' G1) S'.there e' i
    by_cases hlt : i < ds.length
    · have hx : ds[i]? = some ds[i] := List.getElem?_eq_getElem hlt
      refine .inr ⟨k1 _ hx, fun σ3 H3 => ∃ ad3 G3, I (i + 1) G3 ∧ Sta K Wd B ad3 H0 H3 σ3 G3 ∧ Ex (less H1 (Zs Wd B ad G)) (less H3 (Zs Wd B ad3 G3)), ?_, fun v H'' hy => ?_⟩
      · rintro σ3 H3 ⟨ad3, G3, h3, S3, e3⟩
        exact ⟨ds.length - (i + 1), by omega, rfl, hlt, ad3, G3, h3, S3, e3⟩
      · obtain ⟨ex, dx⟩ := k3 v H'' hy
        have S2 := S'.ext ex
        refine hs i _ G1 hx hI Wd B ad' H0 H'' σ' v S2 (dx _ hx) _ fun Gt ad2 H2 σ2 hb S3 e3 => ?_
        have e4 : Ex (less H1 (Zs Wd B ad G)) (less H2 (Zs Wd B ad2 Gt)) := (e'.trans (less_mono ex)).trans e3
        have e5 := (Xb.lz (W := Wd) (ad := ad) (G := G) e1).trans e4
        refine hb Wd B ad2 H0 H2 σ2 _ S3 fun o p => ?_
        cases o with
        | nx G4 => exact fun ad4 H4 σ4 S4 x4 => ⟨ad4, G4, p, S4, e4.trans x4⟩
        | ct G4 => exact fun ad4 H4 σ4 S4 x4 => ⟨ad4, G4, p, S4, e4.trans x4⟩
        | bk G4 => exact fun ad4 H4 σ4 S4 x4 => q _ p ad4 H4 σ4 S4 (e5.trans x4)
        | rt x => exact q _ p
        | rl c => exact q _ p
        | ex e G4 => exact fun d ad4 H4 σ4 S4 x4 => q _ p d ad4 H4 σ4 S4 (e5.trans x4)
    · have en : i = ds.length := by omega
      subst en
      exact .inl ⟨k2 (Nat.le_refl _), q _ (hd G1 hI) ad' H' σ' S' ((Xb.lz e1).trans e')⟩) (post_xp q)
/-- by what is done already -/
theorem forP {β : Type} {g : TG} {tb : TS} {xs : List β} {f : β → PyData} (I : List β → Gam → Prop) (h0 : I [] G) (hs : ∀ pre x post G1, xs = pre ++ x :: post → I pre G1 → GW K g G1 (f x) (fun Gt => SW K cs W tb Gt (lp (I (pre ++ [x])) Φ))) (he : ∀ G1, I xs G1 → Φ (.nx G1)) : ForI K cs W g tb G Φ (xs.map f) := by
  refine ⟨fun i G1 => I (xs.take i) G1, h0, fun i x G1 hx hI => ?_, fun G1 hI => he G1 (by rw [List.length_map, List.take_length] at hI; exact hI)⟩
  rw [List.getElem?_map] at hx
  cases hb : xs[i]? with
  | none => rw [hb] at hx; cases hx
  | some b =>
    rw [hb] at hx
    cases hx
    obtain ⟨hlt, hbe⟩ := List.getElem?_eq_some_iff.mp hb
    have e : xs = xs.take i ++ b :: xs.drop (i + 1) := by rw [← hbe, List.getElem_cons_drop, List.take_append_drop]
    have e2 : xs.take (i + 1) = xs.take i ++ [b] := by rw [List.take_succ, hb]; rfl
    show GW K g G1 (f b) (fun Gt => SW K cs W tb Gt (lp (fun G1 => I (xs.take (i + 1)) G1) Φ))
    rw [e2]
    exact hs _ b _ G1 e hI
theorem forP0 {g : TG} {tb : TS} {xs : List PyData} (I : List PyData → Gam → Prop) (h0 : I [] G) (hs : ∀ pre x post G1, xs = pre ++ x :: post → I pre G1 → GW K g G1 x (fun Gt => SW K cs W tb Gt (lp (I (pre ++ [x])) Φ))) (he : ∀ G1, I xs G1 → Φ (.nx G1)) : ForI K cs W g tb G Φ xs := by
  have k := forP (K := K) (cs := cs) (W := W) (g := g) (tb := tb) (Φ := Φ) (xs := xs) (f := fun x => x) I h0 hs he
  rw [List.map_id'] at k
  exact k
/-- a while loop: what holds at n before each asking, n going down -/
theorem sw_while {tb : TS} (I : Nat → Gam → Prop) (n : Nat) (h0 : I n G) (hs : ∀ n G1, I n G1 → TW K cs W t G1 (fun b => Cnd b (SW K cs W tb G1 (lp (fun G2 => ∃ m, m < n ∧ I m G2) Φ)) (Φ (.nx G1))) (fun e => Φ (.ex e G1))) : SW K cs W (tWhile t tb) G Φ := fun Wd B ad H0 H σ D S q => by
  refine ⟨fun m σ' H' => ∃ ad' G1, I m G1 ∧ Sta K Wd B ad' H0 H' σ' G1 ∧ Ex (less H (Zs Wd B ad G)) (less H' (Zs Wd B ad' G1)), ⟨n, ad, G, h0, S, Ex.refl _⟩, ?_⟩
  rintro m σ' H' ⟨ad', G1, hI, S', e'⟩
  refine hs m G1 hI Wd B ad' H0 H' σ' S' _ (fun b p H2 S2 e2 => ?_) (fun e he d H2 S2 x2 hd hx => q _ he d ad' H2 σ' S2 (e'.trans (Xb.lz x2)) hd hx)
  have e3 := e'.trans (Xb.lz e2)
  cases b with
  | false => exact iteF (q _ (p.2 rfl) ad' H2 σ' S2 e3)
  | true =>
    refine iteT ⟨fun σ3 H3 => ∃ m' ad3 G3, m' < m ∧ I m' G3 ∧ Sta K Wd B ad3 H0 H3 σ3 G3 ∧ Ex (less H (Zs Wd B ad G)) (less H3 (Zs Wd B ad3 G3)), ?_, ?_⟩
    · rintro σ3 H3 ⟨m', ad3, G3, hm, h3, S3, x3⟩
      exact ⟨m', hm, ad3, G3, h3, S3, x3⟩
    · refine p.1 rfl Wd B ad' H0 H2 σ' _ S2 fun o p => ?_
      cases o with
      | nx G4 => obtain ⟨m', hm, p⟩ := p; exact fun ad4 H4 σ4 S4 x4 => ⟨m', ad4, G4, hm, p, S4, e3.trans x4⟩
      | ct G4 => obtain ⟨m', hm, p⟩ := p; exact fun ad4 H4 σ4 S4 x4 => ⟨m', ad4, G4, hm, p, S4, e3.trans x4⟩
      | bk G4 => exact fun ad4 H4 σ4 S4 x4 => q _ p ad4 H4 σ4 S4 (e3.trans x4)
      | rt x => exact q _ p
      | rl c => exact q _ p
      | ex e G4 => exact fun d ad4 H4 σ4 S4 x4 => q _ p d ad4 H4 σ4 S4 (e3.trans x4)
end
end U.N

end
section
namespace U.N
open PySem PyProof.Rows L2 Evl
inductive All2 {α β : Type} (R : α → β → Prop) : List α → List β → Prop
  | nil : All2 R [] []
  | cons {x : α} {y : β} {xs : List α} {ys : List β} : R x y → All2 R xs ys → All2 R (x :: xs) (y :: ys)
namespace All2
variable {α β γ : Type} {R : α → β → Prop}
theorem len : ∀ {xs : List α} {ys : List β}, All2 R xs ys → xs.length = ys.length
  | _, _, .nil => rfl
  | _, _, .cons _ t => congrArg (· + 1) t.len
theorem mem_r : ∀ {xs : List α} {ys : List β}, All2 R xs ys → ∀ y ∈ ys, ∃ x ∈ xs, R x y
  | _, _, .nil, y, h => by cases h
  | _, _, .cons a t, y, h => by
    rcases List.mem_cons.mp h with rfl | h
    · exact ⟨_, List.mem_cons_self .., a⟩
    · obtain ⟨x, hx, r⟩ := t.mem_r y h
      exact ⟨x, List.mem_cons_of_mem _ hx, r⟩
/-- y's that all are of one form -/
theorem exists_map {δ : Type} {g : δ → β} {P : α → δ → Prop} : ∀ {xs : List α} {ys : List β}, All2 (fun x y => ∃ d, y = g d ∧ P x d) xs ys → ∃ ds : List δ, ys = ds.map g ∧ All2 P xs ds
  | _, _, .nil => ⟨[], rfl, .nil⟩
  | _, _, .cons ⟨d, e, p⟩ t => by
    obtain ⟨ds, e2, p2⟩ := t.exists_map
    exact ⟨d :: ds, by rw [e, e2]; rfl, .cons p p2⟩
end All2
section
variable {K : Fg} {cs : Cs} {W : WX} {G G' G1 G2 : Gam} {ta tb tc te : TE} {t u tt tt1 : TT} {φ : PyData → Prop} {ε : Xw → Prop} {ψ : Bool → Prop} {α : List PyData → Prop} {ι : List PyData → Prop} {χ : Own → Prop} {Φ Ψ : Out → Prop}
variable {Wd : Addr → Prop} {B : Bt} {ad : Nat → Addr} {H0 H H1 H2 : Hp} {σ σ' : St} {vs vs1 : List Nat} {wi wi1 : TI} {g g1 : TG}
noncomputable abbrev noX : Xw → Prop := fun _ => False
theorem xp_no : XP K cs W Wd B ad H0 H σ G noX := fun _ h => h.elim
theorem Sta.slots (S : Sta K Wd B ad H0 H σ G) (hl : G.length = G'.length) (ho : ∀ i, i ∉ vs → G'[i]? = G[i]?) (hu : ∀ i e, i ∈ vs → G'[i]? = some e → e = .un) (hg : ∀ i c, i ∈ vs → G[i]? ≠ some (.ow c)) (hw : wipe σ vs = wipe σ' vs) : Sta K Wd B ad H0 H σ' G' := qt_of (by simp (disch := with_unfolding_all
  have hls : σ.length = σ'.length := by
    have := congrArg List.length hw
    rw [wipe_length, wipe_length] at this
    exact this
  have own : ∀ (i : Nat) (c : Own), G'[i]? = some (En.ow c) ↔ G[i]? = some (En.ow c) := fun i c => by
    by_cases hi : i ∈ vs
    · exact ⟨fun g => absurd (hu i _ hi g) (fun e => by cases e), fun g => absurd g (hg i c hi)⟩
    · rw [ho i hi]
  have zl : Zs Wd B ad G' = Zs Wd B ad G := funext fun a => propext (by
    constructor
    · rintro (z | ⟨i, c, g, r⟩ | z)
      · exact .inl z
      · exact .inr (.inl ⟨i, c, (own i c).mp g, r⟩)
      · exact .inr (.inr z)
    · rintro (z | ⟨i, c, g, r⟩ | z)
      · exact .inl z
      · exact .inr (.inl ⟨i, c, (own i c).mpr g, r⟩)
      · exact .inr (.inr z))
  refine ⟨hls ▸ (S.len.trans hl), fun i e g => ?_, fun i j c c' g g' q => S.inj i j c c' ((own i c).mp g) ((own j c').mp g') q, fun i c g => S.sep i c ((own i c).mp g), S.base, S.bag, S.wd, fun p hp => (S.tab p hp).mono (by rw [zl]; exact Ex.refl _) rfl⟩
  by_cases hi : i ∈ vs
  · have e := hu i e hi g
    subst e
    have il : i < σ'.length := by rw [← hls, S.len, hl]; exact (List.getElem?_eq_some_iff.mp g).1
    exact ⟨σ'[i], List.getElem?_eq_getElem il, trivial⟩
  · rw [ho i hi] at g
    obtain ⟨o, g1, g2⟩ := S.at_ i e g
    refine ⟨o, ?_, by rw [zl]; exact g2⟩
    rw [← wipe_get hi, ← hw, wipe_get hi]
    exact g1
  ) only [↓qt_eq])
theorem zs_same {G' : Gam} (hl : ∀ (i : Nat) (c : Own), G'[i]? = some (En.ow c) ↔ G[i]? = some (En.ow c)) : Zs Wd B ad G' = Zs Wd B ad G := funext fun a => propext (by
  constructor
  · rintro (z | ⟨i, c, g, r⟩ | z)
    · exact .inl z
    · exact .inr (.inl ⟨i, c, (hl i c).mp g, r⟩)
    · exact .inr (.inr z)
  · rintro (z | ⟨i, c, g, r⟩ | z)
    · exact .inl z
    · exact .inr (.inl ⟨i, c, (hl i c).mpr g, r⟩)
    · exact .inr (.inr z))
theorem zs_lend {p : Addr} : Zs (fun a => Wd a ∨ a = p) B ad G = fun a => Zs Wd B ad G a ∨ a = p := funext fun a => propext (by
  constructor
  · rintro ((z | z) | z | z)
    · exact .inl (.inl z)
    · exact .inr z
    · exact .inl (.inr (.inl z))
    · exact .inl (.inr (.inr z))
  · rintro ((z | z | z) | z)
    · exact .inl (.inl z)
    · exact .inr (.inl z)
    · exact .inr (.inr z)
    · exact .inl (.inr z))
noncomputable def opts (os : List (Option PyData)) : List PyData := os.filterMap id
theorem opts_snoc {os : List (Option PyData)} {o : Option PyData} : opts (os ++ [o]) = opts os ++ o.toList := by
  unfold opts
  rw [List.filterMap_append]
  cases o <;> rfl
theorem opts_len (os : List (Option PyData)) : (opts os).length ≤ os.length := List.length_filterMap_le ..
/-- one for each turn -/
noncomputable def Each {β : Type} (R : Nat → β → Prop) (n : Nat) (os : List β) : Prop := os.length = n ∧ ∀ i o, os[i]? = some o → R i o
theorem each_nil {β : Type} {R : Nat → β → Prop} : Each R 0 [] := ⟨rfl, fun i o h => by simp at h⟩
theorem Each.snoc {β : Type} {R : Nat → β → Prop} {n : Nat} {os : List β} {o : β} (h : Each R n os) (r : R n o) : Each R (n + 1) (os ++ [o]) := by
  refine ⟨by simp [h.1], fun i o' hi => ?_⟩
  by_cases hl : i < os.length
  · rw [List.getElem?_append_left hl] at hi
    exact h.2 i o' hi
  · rw [List.getElem?_append_right (by omega)] at hi
    have e : i - os.length = 0 := by
      have := (List.getElem?_eq_some_iff.mp hi).1
      simp at this
      omega
    rw [e] at hi
    cases hi
    have : i = n := by have := h.1; omega
    rw [this]; exact r
theorem Each.all2 {α β : Type} {R : Nat → β → Prop} : ∀ {xs : List α} {os : List β}, Each R xs.length os → ∀ {S : α → β → Prop}, (∀ i x o, xs[i]? = some x → R i o → S x o) → All2 S xs os := fun {xs} => by
  induction xs generalizing R with
  | nil =>
    intro os h S m
    have := h.1
    have e : os = [] := List.eq_nil_of_length_eq_zero this
    rw [e]; exact .nil
  | cons x xs ih =>
    intro os h S m
    cases os with
    | nil => have := h.1; simp at this
    | cons o os =>
      refine .cons (m 0 x o rfl (h.2 0 o rfl)) (ih (R := fun i => R (i + 1)) ⟨by have := h.1; simpa using this, fun i o' hi => h.2 (i + 1) o' hi⟩ fun i x o hx r => m (i + 1) x o hx r)
/-- the names that the comprehension sets are of no use before -/
noncomputable def Unk (vs : List Nat) (G : Gam) : Prop := ∀ i e, i ∈ vs → G[i]? = some e → e = .un
noncomputable def LcI (K : Fg) (cs : Cs) (W : WX) (g : TG) (tt : TT) (te : TE) (vs : List Nat) (G : Gam) (χ : Own → Prop) (ds : List PyData) : Prop :=
  ds.length ≤ 16000000 ∧ Unk vs G ∧ ∃ R : Nat → Option PyData → Prop, (∀ i x, ds[i]? = some x → GC K g vs G x (fun Gt => TW K cs W tt Gt (fun b => Cnd b (EW K cs W te Gt (fun y => R i (some y)) noX) (R i none)) noX)) ∧ ∀ os, Each R ds.length os → χ (ol (opts os))
theorem ef_lc (h : IW K cs W wi G (LcI K cs W g tt te vs G χ) ε) : EF K cs W (tLc wi g tt te vs) G χ ε := fun Wd B ad H0 H σ S Q q x =>
  h Wd B ad H0 H σ S _ (fun ds ⟨hz, hu, R, hs, hd⟩ J H1 S1 e1 ok Dl hD => by
    have hgu : ∀ i c, i ∈ vs → G[i]? ≠ some (.ow c) := fun i c hi g => by cases hu i _ hi g
    obtain ⟨L0, el0⟩ := S1.lend (o := .lst []) hD
    have fr := S1.fresh hD
    refine ⟨fun i m H' => m = ds.length - i ∧ i ≤ ds.length ∧ Sta K (fun a => Wd a ∨ a = Dl) B ad H0 H' σ G ∧ Ex (less H1 (Zs Wd B ad G)) (less H' (Zs (fun a => Wd a ∨ a = Dl) B ad G)) ∧ Xb B H1 H' ∧
      ∃ os acc, Each R i os ∧ H' Dl = some (.lst acc) ∧ DpAll K (less H' (Zs (fun a => Wd a ∨ a = Dl) B ad G)) acc (opts os), ⟨ds.length, rfl, Nat.zero_le _, L0, by rw [el0]; exact Ex.refl _, .of (Ex.new hD), [], [], each_nil, upd_same, .nil⟩, ?_⟩
    rintro i m H' ⟨rfl, hi, S', e', xb, os, acc, ha2, ha, hda⟩
    obtain ⟨k1, k2, k3⟩ := ok H' (Zs (fun a => Wd a ∨ a = Dl) B ad G) S'.there e' i
    by_cases hlt : i < ds.length
    · have hx : ds[i]? = some ds[i] := List.getElem?_eq_getElem hlt
      refine .inr ⟨k1 _ hx, fun H3 => Sta K (fun a => Wd a ∨ a = Dl) B ad H0 H3 σ G ∧ Ex (less H1 (Zs Wd B ad G)) (less H3 (Zs (fun a => Wd a ∨ a = Dl) B ad G)) ∧ Xb B H1 H3 ∧
        ∃ os acc, Each R (i + 1) os ∧ H3 Dl = some (.lst acc) ∧ DpAll K (less H3 (Zs (fun a => Wd a ∨ a = Dl) B ad G)) acc (opts os), fun H3 h3 => ⟨ds.length - (i + 1), by omega, rfl, hlt, h3⟩, fun v H'' hyl => ?_⟩
      obtain ⟨ex, dx⟩ := k3 v H'' hyl
      have S2 := (S'.ext ex).slots (σ' := wipe σ vs) (G' := G) (vs := vs) rfl (fun _ _ => rfl) hu hgu wipe_wipe.symm
      refine hs i _ hx _ B ad H0 H'' _ v S2 (dx _ hx) _ fun Gt σ2 hte hl ho hw S3 e3 ew => ⟨by rw [ew, wipe_wipe], ?_⟩
      have own : ∀ (i : Nat) (c : Own), Gt[i]? = some (En.ow c) ↔ G[i]? = some (En.ow c) := fun i c => by
        by_cases hi : i ∈ vs
        · exact ⟨fun g => hw i c hi g, fun g => absurd g (hgu i c hi)⟩
        · rw [ho i hi]
      have eZ : Zs (fun a => Wd a ∨ a = Dl) B ad Gt = Zs (fun a => Wd a ∨ a = Dl) B ad G := zs_same own
      have back : ∀ {H5 : Hp}, Sta K (fun a => Wd a ∨ a = Dl) B ad H0 H5 σ2 Gt → Sta K (fun a => Wd a ∨ a = Dl) B ad H0 H5 σ G := fun {H5} S5 =>
        S5.slots (G' := G) (vs := vs) hl.symm (fun i hi => (ho i hi).symm) hu (fun i c hi g => hgu i c hi (hw i c hi g)) (by rw [ew, wipe_wipe])
      have hB : ¬ InB B Dl := fr.2.1
      have ha3 : H'' Dl = some (.lst acc) := ex _ _ ha
      have al : acc.length < sizeLine := by
        have h1 := dpa_len hda
        have h2 := opts_len os
        have h3 := ha2.1
        exact Nat.lt_of_lt_of_le (show acc.length < 16777216 by omega) (by decide)
      refine hte _ B ad H0 H'' σ2 S3 _ (fun b p H3 S4 e4 => ?_) xp_no
      have e4' : Ex (less H'' (Zs (fun a => Wd a ∨ a = Dl) B ad G)) (less H3 (Zs (fun a => Wd a ∨ a = Dl) B ad G)) := by
        have := Xb.lz (W := fun a => Wd a ∨ a = Dl) (ad := ad) (G := G) e4
        exact this
      have e5 : Ex (less H' (Zs (fun a => Wd a ∨ a = Dl) B ad G)) (less H3 (Zs (fun a => Wd a ∨ a = Dl) B ad G)) := (less_mono ex).trans e4'
      cases b with
      | false =>
        refine iteF ⟨back S4, e'.trans e5, (xb.trans (.of ex)).trans e4, os ++ [none], acc, ?_, e4 _ _ ha3 hB, ?_⟩
        · exact ha2.snoc (p.2 rfl)
        · rw [opts_snoc]
          show DpAll K _ acc (_ ++ [])
          rw [List.append_nil]
          exact dpa_mono e5 hda
      | true =>
        refine iteT ?_
        refine p.1 rfl _ B ad H0 H3 σ2 S4 _ (fun y py w H4 S5 e6 dw => ?_) xp_no
        rw [eZ] at dw
        have S6 := back S5
        obtain ⟨S7, el7⟩ := S6.foreign (o := .lst (acc ++ [w])) (p := Dl) (.inr rfl) fr.1 hB
        have e6' := Xb.lz (W := fun a => Wd a ∨ a = Dl) (ad := ad) (G := G) e6
        refine ⟨acc, e6 _ _ (e4 _ _ ha3 hB) hB, al, S7, ?_, ?_, os ++ [some y], acc ++ [w], ?_, upd_same, ?_⟩
        · rw [el7]
          exact e'.trans (e5.trans e6')
        · intro a o g n
          have na : a ≠ Dl := ne_of_none g hD
          rw [upd_ne na]
          exact ((((xb.trans (.of ex)).trans e4).trans e6) a o g n)
        · exact ha2.snoc py
        · rw [el7, opts_snoc]
          exact dpa_app (dpa_mono (e5.trans e6') hda) (.cons dw .nil)
    · have en : i = ds.length := by omega
      subst en
      obtain ⟨S5, e5⟩ := S'.back
      obtain ⟨S6, x6, n6, l6⟩ := fl_go S1 xb S'.bag (fun p hp => (S'.tab p hp).mono (less_sub fun b z => z.elim (fun z => z.elim (fun z => .inl (.inl z)) .inr) fun z => .inl (.inr z)) rfl) hD ha
      refine .inl ⟨k2 (Nat.le_refl _), ?_⟩
      have k := q _ (hd os ha2) Dl acc _ S6 (e1.trans x6) n6 (by rw [l6, ← zs_lend]; exact hda)
      have k2 : Q (.ref Dl) (upd (less H' fun b => b = Dl) Dl (.lst acc)) := k
      rw [fl_upd ha] at k2
      exact k2) x
theorem ew_lc (h : IW K cs W wi G (LcI K cs W g tt te vs G (fun c => ∃ xs, c = ol xs ∧ φ (.list xs))) ε) : EW K cs W (tLc wi g tt te vs) G φ ε := ew_ef (ef_lc h)
theorem opts_map {β : Type} {f : β → PyData} : ∀ {xs : List β} {os : List (Option PyData)}, All2 (fun x o => o = some (f x)) xs os → opts os = xs.map f
  | _, _, .nil => rfl
  | x :: xs, _, .cons a t => by
    rw [a]
    show f x :: opts _ = _
    rw [opts_map t]; rfl
theorem opts_filter {β : Type} {p : β → Bool} {f : β → PyData} : ∀ {xs : List β} {os : List (Option PyData)}, All2 (fun x o => o = if p x then some (f x) else none) xs os → opts os = (xs.filter p).map f
  | _, _, .nil => rfl
  | x :: xs, _, .cons a t => by
    have ih := opts_filter t
    cases h : p x with
    | true =>
      rw [a, List.filter_cons, h, if_pos rfl, if_pos rfl]
      show f x :: opts _ = _
      rw [ih]; rfl
    | false =>
      rw [a, List.filter_cons, h, if_neg (by decide), if_neg (by decide)]
      show opts _ = _
      exact ih
variable {β : Type} {xs : List β} {f : β → PyData}
theorem map_at {i : Nat} {x : PyData} (h : (xs.map f)[i]? = some x) : ∃ b, xs[i]? = some b ∧ f b = x ∧ b ∈ xs := by
  rw [List.getElem?_map] at h
  cases hb : xs[i]? with
  | none => rw [hb] at h; cases h
  | some b => rw [hb] at h; exact ⟨b, rfl, Option.some.inj h, List.mem_of_getElem? hb⟩
theorem gc_mono {x : PyData} {γ γ' : Gam → Prop} (h : GC K g vs G x γ) (m : ∀ G', γ G' → γ' G') : GC K g vs G x γ' := fun Wd B ad H0 H σ v S d Q q => h Wd B ad H0 H σ v S d Q fun G' σ' k => q G' σ' (m G' k)
/-- [.. for x in xs if ..], each turn by a relation -/
theorem lcR0 (R : β → Option PyData → Prop) (hz : xs.length ≤ 16000000) (hu : Unk vs G) (hs : ∀ x, x ∈ xs → GC K g vs G (f x) (fun Gt => TW K cs W tt Gt (fun b => Cnd b (EW K cs W te Gt (fun y => R x (some y)) noX) (R x none)) noX)) (p : ∀ os, All2 R xs os → χ (ol (opts os))) : LcI K cs W g tt te vs G χ (xs.map f) := by
  refine ⟨by rw [List.length_map]; exact hz, hu, fun i o => ∃ b, xs[i]? = some b ∧ R b o, fun i x hx => ?_, fun os ha => ?_⟩
  · obtain ⟨b, hb, rfl, hm⟩ := map_at hx
    exact gc_mono (hs b hm) fun Gt k => tw_mono k fun c q => ⟨fun hc => ew_mono (q.1 hc) fun y r => ⟨b, hb, r⟩, fun hc => ⟨b, hb, q.2 hc⟩⟩
  · rw [List.length_map] at ha
    exact p os (ha.all2 fun i x o hx ⟨b, hb, r⟩ => by rw [hx] at hb; cases hb; exact r)
/-- [h x for x in xs] -/
theorem lcM (h : β → PyData) (hz : xs.length ≤ 16000000) (hu : Unk vs G) (hs : ∀ x, x ∈ xs → GC K g vs G (f x) (fun Gt => EW K cs W te Gt (fun y => y = h x) noX)) (p : χ (ol (xs.map h))) : LcI K cs W g tYes te vs G χ (xs.map f) :=
  lcR0 (fun x o => o = some (h x)) hz hu (fun x hx => gc_mono (hs x hx) fun Gt k => tw_yes (cnd_t (ew_mono k fun y e => by rw [e]))) fun os ha => by rw [opts_map ha]; exact p
/-- [h x for x in xs if p x] -/
theorem lcF (pt : β → Bool) (h : β → PyData) (hz : xs.length ≤ 16000000) (hu : Unk vs G) (hs : ∀ x, x ∈ xs → GC K g vs G (f x) (fun Gt => TW K cs W tt Gt (fun b => b = pt x ∧ (b = true → EW K cs W te Gt (fun y => y = h x) noX)) noX)) (p : χ (ol ((xs.filter pt).map h))) : LcI K cs W g tt te vs G χ (xs.map f) :=
  lcR0 (fun x o => o = if pt x then some (h x) else none) hz hu (fun x hx => gc_mono (hs x hx) fun Gt k => tw_mono k fun b ⟨e, q⟩ => ⟨fun hb => ew_mono (q hb) fun y ey => by rw [← e, hb, ey]; rfl, fun hb => by rw [← e, hb]; rfl⟩) fun os ha => by rw [opts_filter ha]; exact p
/-- [.. for x in xs], each by a relation (draws) -/
theorem lcR (R : β → PyData → Prop) (hz : xs.length ≤ 16000000) (hu : Unk vs G) (hs : ∀ x, x ∈ xs → GC K g vs G (f x) (fun Gt => EW K cs W te Gt (fun y => R x y) noX)) (p : ∀ ys, All2 R xs ys → χ (ol ys)) : LcI K cs W g tYes te vs G χ (xs.map f) :=
  lcR0 (fun x o => ∃ y, o = some y ∧ R x y) hz hu (fun x hx => gc_mono (hs x hx) fun Gt k => tw_yes (cnd_t (ew_mono k fun y r => ⟨y, rfl, r⟩))) fun os ha => by
    obtain ⟨ys, e, h2⟩ := ha.exists_map
    rw [e]
    have : opts (ys.map some) = ys := by
      unfold opts
      rw [List.filterMap_map]
      show ys.filterMap some = ys
      exact List.filterMap_some
    rw [this]
    exact p ys h2
/-- [.. for x in xs], each drawn -/
theorem lcD {δ : Type} (gd : δ → PyData) (P : δ → Prop) (hz : xs.length ≤ 16000000) (hu : Unk vs G) (hs : ∀ x, x ∈ xs → GC K g vs G (f x) (fun Gt => EW K cs W te Gt (fun y => ∃ d, y = gd d ∧ P d) noX)) (p : ∀ ds : List δ, ds.length = xs.length → (∀ d ∈ ds, P d) → χ (ol (ds.map gd))) : LcI K cs W g tYes te vs G χ (xs.map f) :=
  lcR (fun _ y => ∃ d, y = gd d ∧ P d) hz hu hs fun ys ha => by
    obtain ⟨ds, e, h2⟩ := ha.exists_map
    rw [e]
    exact p ds h2.len.symm fun d hd => by obtain ⟨x, _, h⟩ := h2.mem_r d hd; exact h
end
end U.N

end
section
namespace U.N
open PySem PyProof.Rows L2 Evl
section
variable {K : Fg} {cs : Cs} {W : WX} {G G' G1 G2 : Gam} {ta tb tc te : TE} {φ : PyData → Prop} {ε : Xw → Prop} {Φ Ψ : Out → Prop}
variable {Wd : Addr → Prop} {B : Bt} {ad : Nat → Addr} {H0 H H1 H2 : Hp} {σ σ' : St}
/-! ### raising -/
theorem ew_xf {i : Nat} {a dd C : Addr} {fs : List (Str × V)} {n : Str} {v : V} {x : PyData} (hi : G[i]? = some (.xc a dd fs)) (hl : fs.lookup n = some v) (hd : ∀ H, Dp K H v x) (p : φ x) : EW K cs W (tXf a (.ref C) (some dd) C n (tVar i)) G φ ε := fun Wd B ad H0 H σ S Q q _ => by
  obtain ⟨o, g1, rfl, g2⟩ := S.at_ i _ hi
  exact ⟨_, g1, rfl, rfl, dd, fs, v, rfl, (less_some g2).2, hl, q _ p _ H S Xb.refl (hd _)⟩
theorem ew_xfS {i : Nat} {a dd C : Addr} {fs : List (Str × V)} {n : Str} {v : Str} (hi : G[i]? = some (.xc a dd fs)) (hl : fs.lookup n = some (.str v)) (p : φ (.str v)) : EW K cs W (tXf a (.ref C) (some dd) C n (tVar i)) G φ ε := ew_xf hi hl (fun _ => .str v) p
theorem sw_raise0 {c : Str} {nm : List Str} {g : List V → Option (List (Str × V))} {fs : List (Str × V)} (cf : ClsF K cs c nm) (hg : g [] = some fs) (h : Φ (.ex ⟨c, fs⟩ G)) : SW K cs W (tRaiseX (cs c) (spIn K nm g) [] tNil W) G Φ := fun Wd B ad H0 H σ D S q => by
  refine mk_read cf.ox cf.no ⟨by show 0 ≤ 1000; decide, hg, fun d hd => ?_⟩ (fun Q1 Q2 m h => m _ _ h)
  have e : Ex H (upd H d (.xd fs)) := Ex.new hd
  exact q _ h d ad _ σ (S.ext e) (less_mono e) (S.fresh hd).1 (less_of (S.fresh hd).2.2 upd_same)
/-! ### try .. except C as why -/
noncomputable def hq (i : Nat) (Φ : Out → Prop) : Out → Prop
  | .nx G => Φ (.nx (G.set i .un))
  | .bk G => Φ (.bk (G.set i .un))
  | .ct G => Φ (.ct (G.set i .un))
  | .rt x => Φ (.rt x)
  | .rl c => Φ (.rl c)
  | .ex _ _ => False
noncomputable def tq (K : Fg) (cs : Cs) (W : WX) (c : Str) (i : Nat) (ts : Addr → Value → Option Addr → TS) (Φ : Out → Prop) : Out → Prop
  | .ex e G => PySem.W.exmOne K (.ref (cs e.cls)) (.ref (cs c)) = some true ∧ ∀ a d, SW K cs W (ts a (.ref (cs e.cls)) (some d)) (G.set i (.xc a d e.fs)) (hq i Φ)
  | .nx G => Φ (.nx G)
  | .bk G => Φ (.bk G)
  | .ct G => Φ (.ct G)
  | .rt x => Φ (.rt x)
  | .rl c => Φ (.rl c)
theorem un_ex {i : Nat} : Ex (less H (Zs Wd B ad G)) (less H (Zs Wd B ad (G.set i .un))) := less_sub fun a z => Zs.set_of (fun _ z => by cases z) z
theorem sw_try {c : Str} {i : Nat} {tb : WX → TS} {ts : Addr → Value → Option Addr → TS} (h : ∀ W', SW K cs W' (tb W') G (tq K cs W c i ts Φ)) : SW K cs W (tTryAs K (.ref (cs c)) i tb ts) G Φ := fun Wd B ad H0 H σ D S q => by
  refine h _ Wd B ad H0 H σ D S fun o p => ?_
  cases o with
  | nx G1 => exact q _ p
  | bk G1 => exact q _ p
  | ct G1 => exact q _ p
  | rt x => exact q _ p
  | rl x => exact q _ p
  | ex e G1 =>
    intro d ad1 H1 σ1 S1 e1 hn hx
    obtain ⟨hm, p⟩ := p
    refine ⟨true, hm, fun _ a ha => ?_, fun z => by cases z⟩
    have S2 : Sta K Wd B ad1 H0 H1 (σ1.set i (some (.ref a))) (G1.set i (.xc a d e.fs)) := S1.set (fun _ z => by cases z) ⟨rfl, hx⟩
    have e2 : Ex (less H (Zs Wd B ad G)) (less H1 (Zs Wd B ad1 (G1.set i (.xc a d e.fs)))) := e1.trans (less_sub fun a z => Zs.set_of (fun _ z => by cases z) z)
    refine p a d Wd B ad1 H0 H1 _ _ S2 fun o po => ?_
    cases o with
    | nx G3 => exact fun ad3 H3 σ3 S3 e3 => q _ po ad3 H3 _ S3.setU ((e2.trans e3).trans un_ex)
    | bk G3 => exact fun ad3 H3 σ3 S3 e3 => q _ po ad3 H3 _ S3.setU ((e2.trans e3).trans un_ex)
    | ct G3 => exact fun ad3 H3 σ3 S3 e3 => q _ po ad3 H3 _ S3.setU ((e2.trans e3).trans un_ex)
    | rt x => exact q _ po
    | rl x => exact q _ po
    | ex e G3 => exact po.elim
end
/-! ### several clauses -/
section
variable {K : Fg} {cs : Cs} {W : WX} {G : Gam} {Φ : Out → Prop}
end
/-! ### defs -/
noncomputable def rts0 (A : Rs → Prop) : Out → Prop
  | .rt x => A (.ok x)
  | .rl c => A (.fl c)
  | .nx _ => A (.ok .none)
  | _ => False
noncomputable def rts (A : Rs → Prop) : Out → Prop
  | .rt x => A (.ok x)
  | .rl c => A (.fl c)
  | .nx _ => A (.ok .none)
  | .ex e _ => A (.er e)
  | _ => False
noncomputable def frame (n : Nat) (ds : List PyData) : Gam := ds.map .d ++ List.replicate (n - ds.length) .un
section
variable {Pg : Program} {w : World} {K : Fg} {mg : Str → Option Value} {base : Heap} {cs : Cs}
theorem frame_get {n i : Nat} {ds : List PyData} {e : En} (h : (frame n ds)[i]? = some e) : (∃ d, ds[i]? = some d ∧ e = .d d) ∨ (ds.length ≤ i ∧ e = .un) := qt_of (by simp (disch := with_unfolding_all
  unfold frame at h
  by_cases hi : i < ds.length
  · rw [List.getElem?_append_left (by rw [List.length_map]; exact hi), List.getElem?_map, List.getElem?_eq_getElem hi] at h
    exact .inl ⟨ds[i], List.getElem?_eq_getElem hi, (Option.some.inj h).symm⟩
  · have hi : ds.length ≤ i := by omega
    rw [List.getElem?_append_right (by rw [List.length_map]; exact hi)] at h
    exact .inr ⟨hi, (List.mem_replicate.mp (List.mem_of_getElem? h)).2⟩
  ) only [↓qt_eq])
theorem frame_len {n : Nat} {ds : List PyData} : (frame n ds).length = ds.length + (n - ds.length) := by
  unfold frame
  rw [List.length_append, List.length_map, List.length_replicate]
theorem bag_ok0 : Bag.ok ⟨[], 0, 0⟩ := ⟨by simp, by decide, by decide⟩
/-- the state at a def's entry -/
theorem sta0 {N : List Str} {Wd : Addr → Prop} {H : Hp} {vs : List V} {ds : List PyData} (hW : ∀ a, Wd a → ∃ o, H a = some o) (hd : DpAll K (less H Wd) vs ds) : Sta K Wd noB (fun _ => 0) H H (L2.start N vs) (frame N.length ds) := qt_of (by simp (disch := with_unfolding_all
  have no : ∀ (i : Nat) (c : Own), (frame N.length ds)[i]? ≠ some (En.ow c) := fun i c h => by
    rcases frame_get h with ⟨d, _, e⟩ | ⟨_, e⟩ <;> cases e
  have zz : ∀ a, Zs Wd noB (fun _ => 0) (frame N.length ds) a → Wd a := by
    rintro a (z | ⟨i, c, g, _⟩ | ⟨b, c, z, _⟩ | ⟨p, hp, _⟩)
    · exact z
    · exact absurd g (no i c)
    · cases z
    · cases hp
  refine ⟨?_, fun i e h => ?_, fun i j c c' g => absurd g (no i c), fun i c g => absurd g (no i c), fun a o h _ => h, ⟨⟨_, bag_ok0, trivial⟩, fun p hp => nomatch hp⟩, hW, fun p hp => nomatch hp⟩
  · rw [start_len, dpa_len hd, frame_len]
  · rcases frame_get h with ⟨d, hi, rfl⟩ | ⟨hi, rfl⟩
    · obtain ⟨v, hv, dv⟩ := dpa_get hd hi
      exact ⟨some v, start_get hv, v, rfl, dp_mono (less_sub zz) dv⟩
    · have il : i < (L2.start N vs).length := by
        rw [start_len, dpa_len hd]
        have := (List.getElem?_eq_some_iff.mp h).1
        rw [frame_len] at this
        exact this
      exact ⟨(L2.start N vs)[i], List.getElem?_eq_getElem il, trivial⟩
  ) only [↓qt_eq])
theorem inb_none {a : Addr} : ¬ InB noB a := fun z => by
  rcases z with ⟨_, _, z, _⟩ | ⟨p, hp, _⟩
  · cases z
  · cases hp
theorem xb_none {H H' : Hp} (h : Xb noB H H') : Ex H H' := fun a o g => h a o g inb_none
theorem sz_none {Wd : Addr → Prop} {H : Hp} : (less H fun a => Wd a ∨ InB noB a) = less H Wd := congrArg (less H) (funext fun a => propext ⟨fun z => z.elim id fun z => absurd z inb_none, Or.inl⟩)
theorem run0 {N : List Str} {Wd : Addr → Prop} {H : Hp} {vs : List V} {ds : List PyData} {A : Rs → Prop} {t : TS} {Q : VK} (hW : ∀ a, Wd a → ∃ o, H a = some o) (hd : DpAll K (less H Wd) vs ds) (h : SW K cs W0 t (frame N.length ds) (rts0 A)) (q : okRs H K Wd Q A) :
    t { nx := fun _ H' => Q .non H', rt := Q } (L2.start N vs) H := qt_of (by simp (disch := with_unfolding_all
  refine h Wd noB (fun _ => 0) H H _ _ (sta0 hW hd) fun o p => ?_
  cases o with
  | rt x => exact fun v H' e _ _ d => q.1 x p v H' (xb_none e) (by rw [sz_none] at d; exact d)
  | rl c => exact fun a us H' e _ _ hn ho d => q.2 c p a us H' (xb_none e) hn ho (dpa_mono (less_sub fun b z => by rcases z with z | z; exact .inl (.inl z); exact .inr z) d)
  | nx G => exact fun ad H' σ S _ => q.1 _ p _ H' (xb_none fun a o h n => S.base a o h n) .non
  | bk G => exact p.elim
  | ct G => exact p.elim
  | ex e G => exact p.elim
  ) only [↓qt_eq])
theorem runX {N : List Str} {Wd : Addr → Prop} {H : Hp} {vs : List V} {ds : List PyData} {A : Rs → Prop} {t : TS} {Q : VK} {E : XK} (hW : ∀ a, Wd a → ∃ o, H a = some o) (hd : DpAll K (less H Wd) vs ds) (h : SW K cs (WD E) t (frame N.length ds) (rts A)) (q : okRs H K Wd Q A) (x : ∀ e, A (.er e) → ∀ d H', Ex H H' → H d = none → H' d = some (.xd e.fs) → E (.ref (cs e.cls)) (some d) H') :
    t { nx := fun _ H' => Q .non H', rt := Q } (L2.start N vs) H := qt_of (by simp (disch := with_unfolding_all
  refine h Wd noB (fun _ => 0) H H _ _ (sta0 hW hd) fun o p => ?_
  cases o with
  | rt x => exact fun v H' e _ _ d => q.1 x p v H' (xb_none e) (by rw [sz_none] at d; exact d)
  | rl c => exact fun a us H' e _ _ hn ho d => q.2 c p a us H' (xb_none e) hn ho (dpa_mono (less_sub fun b z => by rcases z with z | z; exact .inl (.inl z); exact .inr z) d)
  | nx G => exact fun ad H' σ S _ => q.1 _ p _ H' (xb_none fun a o h n => S.base a o h n) .non
  | bk G => exact p.elim
  | ct G => exact p.elim
  | ex e G => exact fun d ad H' σ S _ hn hx => x e p d H' (xb_none fun a o h n => S.base a o h n) hn (less_some hx).2
  ) only [↓qt_eq])
/-- a def that never raises -/
theorem okW {x qual : Str} {st : Stmt} {f : Addr} {fd : FuncData} {N ps : List Str} {k : Nat} {P : Pr} (cs : Cs) (F : Fun K x qual st f fd) (S : FnScope N ps (defScope st)) (hl : ∀ ds A, P ds A → ds.length = ps.length)
    (hb : ∀ ds A, P ds A → ∀ (cdv : Value) (Ar : Around) (outer : List Env) (sh : Shared) (H : Hp) (E : XK), Room k (Ar.deeper (envOfC qual (defScope st) sh.heap.objs.size f cdv)) →
      ∃ t, PSs (cxOf CX0 Pg w K mg base N qual (defScope st) f cdv Ar outer sh H E).nox (defBody st) t ∧ SW K cs W0 t (frame N.length ds) (rts0 A)) : FnOk Pg w K mg base CX0 (k + 1) f fd ps (spW0 K P) := qt_of (by simp (disch := with_unfolding_all
  refine F.ok S (fun vs H Q E h => ?_) (fun cdv Ar outer sh H vs Q E hr h => ?_)
  · obtain ⟨Wd, ds, A, _, hd, hp, _⟩ := h
    rw [dpa_len hd]
    exact hl ds A hp
  · obtain ⟨Wd, ds, A, hW, hd, hp, q⟩ := h
    obtain ⟨t, ht, g⟩ := hb ds A hp cdv Ar outer sh H E hr
    exact ⟨t, ht, run0 hW hd g q⟩
  ) only [↓qt_eq])
/-- a def that may raise -/
theorem okWX {x qual : Str} {st : Stmt} {f : Addr} {fd : FuncData} {N ps : List Str} {k : Nat} {P : Pr} (F : Fun K x qual st f fd) (S : FnScope N ps (defScope st)) (hl : ∀ ds A, P ds A → ds.length = ps.length)
    (hb : ∀ ds A, P ds A → ∀ (cdv : Value) (Ar : Around) (outer : List Env) (sh : Shared) (H : Hp) (E : XK), Room k (Ar.deeper (envOfC qual (defScope st) sh.heap.objs.size f cdv)) →
      ∃ t, PSs (cxOf (L2.CX Pg w) Pg w K mg base N qual (defScope st) f cdv Ar outer sh H E) (defBody st) t ∧ SW K cs (WD E) t (frame N.length ds) (rts A)) :
    FnOk Pg w K mg base (L2.CX Pg w) (k + 1) f fd ps (spW K cs P) := qt_of (by simp (disch := with_unfolding_all
  refine F.okX S (fun vs H Q E h => ?_) (fun cdv Ar outer sh H vs Q E hr h => ?_)
  · obtain ⟨Wd, ds, A, _, hd, hp, _⟩ := h
    rw [dpa_len hd]
    exact hl ds A hp
  · obtain ⟨Wd, ds, A, hW, hd, hp, q, x⟩ := h
    obtain ⟨t, ht, g⟩ := hb ds A hp cdv Ar outer sh H E hr
    exact ⟨t, ht, runX hW hd g q x⟩
  ) only [↓qt_eq])
theorem staB {N : List Str} {Wd : Addr → Prop} {H : Hp} {b c : Addr} {vs : List V} {ds : List PyData} (hW : ∀ a, Wd a → ∃ o, H a = some o) (hB : BagOk H (bgB b c)) (hd : DpAll K (less H fun a => Wd a ∨ InB (bgB b c) a) vs ds) :
    Sta K Wd (bgB b c) (fun _ => 0) H H (L2.start N (.ref b :: vs)) (.bag :: frame (N.length - 1) ds) := qt_of (by simp (disch := with_unfolding_all
  have no : ∀ (i : Nat) (l : Own), (En.bag :: frame (N.length - 1) ds)[i]? ≠ some (En.ow l) := fun i l h => by
    cases i with
    | zero => cases h
    | succ i => rcases frame_get h with ⟨d, _, e⟩ | ⟨_, e⟩ <;> cases e
  have zz : ∀ a, Zs Wd (bgB b c) (fun _ => 0) (En.bag :: frame (N.length - 1) ds) a → Wd a ∨ InB (bgB b c) a := by
    rintro a (z | ⟨i, l, g, _⟩ | z)
    · exact .inl z
    · exact absurd g (no i l)
    · exact .inr z
  have ln : (L2.start N (.ref b :: vs)).length = (En.bag :: frame (N.length - 1) ds).length := by
    rw [start_len, List.length_cons, List.length_cons, dpa_len hd, frame_len]
    omega
  refine ⟨ln, fun i e h => ?_, fun i j c c' g => absurd g (no i c), fun i c g => absurd g (no i c), fun a o h _ => h, hB, hW, fun p hp => nomatch hp⟩
  cases i with
  | zero =>
    cases h
    exact ⟨some (.ref b), rfl, b, c, rfl, rfl⟩
  | succ i =>
    rcases frame_get h with ⟨d, hi, rfl⟩ | ⟨hi, rfl⟩
    · obtain ⟨v, hv, dv⟩ := dpa_get hd hi
      exact ⟨some v, start_get (show (V.ref b :: vs)[i + 1]? = some v from hv), v, rfl, dp_mono (less_sub zz) dv⟩
    · have il : i + 1 < (L2.start N (.ref b :: vs)).length := by
        rw [ln]; exact (List.getElem?_eq_some_iff.mp h).1
      exact ⟨_, List.getElem?_eq_getElem il, trivial⟩
  ) only [↓qt_eq])
/-- a def that draws -/
theorem okWB {x qual : Str} {st : Stmt} {f : Addr} {fd : FuncData} {N ps : List Str} {k : Nat} {P : Pr} (cs : Cs) (F : Fun K x qual st f fd) (S : FnScope N ps (defScope st)) (hl : ∀ ds A, P ds A → ds.length + 1 = ps.length)
    (hb : ∀ ds A, P ds A → ∀ (cdv : Value) (Ar : Around) (outer : List Env) (sh : Shared) (H : Hp) (E : XK), Room k (Ar.deeper (envOfC qual (defScope st) sh.heap.objs.size f cdv)) →
      ∃ t, PSs (cxOf CX0 Pg w K mg base N qual (defScope st) f cdv Ar outer sh H E).nox (defBody st) t ∧ SW K cs W0 t (.bag :: frame (N.length - 1) ds) (rts0 A)) : FnOk Pg w K mg base CX0 (k + 1) f fd ps (spWB K P) := qt_of (by simp (disch := with_unfolding_all
  refine F.ok S (fun vs H Q E h => ?_) (fun cdv Ar outer sh H vs Q E hr h => ?_)
  · obtain ⟨Wd, b, c, us, ds, A, _, rfl, _, hd, hp, _⟩ := h
    rw [List.length_cons, dpa_len hd]
    exact hl ds A hp
  · obtain ⟨Wd, b, c, us, ds, A, hW, rfl, hB, hd, hp, q1, q2⟩ := h
    obtain ⟨t, ht, g⟩ := hb ds A hp cdv Ar outer sh H E hr
    refine ⟨t, ht, g Wd (bgB b c) (fun _ => 0) H H _ _ (staB hW hB hd) fun o p => ?_⟩
    cases o with
    | rt x => exact fun v H' e hb _ d => q1 x p v H' e hb d
    | rl l => exact fun a us H' e hb _ hn ho d => q2 l p a us H' e hb hn ho d
    | nx G => exact fun ad H' σ S _ => q1 _ p _ H' (fun a o h n => S.base a o h n) S.bag .non
    | bk G => exact p.elim
    | ct G => exact p.elim
    | ex e G => exact p.elim
  ) only [↓qt_eq])
theorem bag0_okN {ns : List Int} (h : ns.length ≤ 63) : (bag0 ns).ok := ⟨h, by show (0 : Int) ≤ 20011; decide, by show (20011 : Int) < 2147483647; decide⟩
/-- the law itself -/
theorem okLawW {x qual : Str} {st : Stmt} {f : Addr} {fd : FuncData} {N : List Str} {a : Str} {k j : Nat} (cs : Cs) (F : Fun K x qual st f fd) (S : FnScope N [a] (defScope st)) (hj : j = 1) (hN : 2 ≤ N.length)
    (hb : ∀ (ns : List Int), ns.length ≤ 63 → ∀ (cdv : Value) (A : Around) (outer : List Env) (sh : Shared) (H : Hp) (E : XK), Room k (A.deeper (envOfC qual (defScope st) sh.heap.objs.size f cdv)) →
      ∃ t, PSs (cxOf CX0 Pg w K mg base N qual (defScope st) f cdv A outer sh H E).nox (defBody st) (tSeq (tAsg (tCall (spBag K) [] E0 (tCons (tVar 0) tNil)) (gName j)) t) ∧ SW K cs W0 t (.d (.list (ns.map PyData.int)) :: .bag :: List.replicate (N.length - 2) .un) (fun o => o = .rt (.bool true))) : FnOk Pg w K mg base CX0 (k + 1) f fd [a] (spP K PLaw) := qt_of (by simp (disch := with_unfolding_all
  subst hj
  refine F.ok S (fun vs H Q E h => ?_) (fun cdv A outer sh H vs Q E hr h => ?_)
  · obtain ⟨W, ds, r, _, hd, ⟨ns, rfl, _⟩, _⟩ := h
    exact dpa_len hd
  · obtain ⟨W, ds, r, hW, hd, ⟨ns, rfl, hl, rfl⟩, q⟩ := h
    obtain ⟨t, ht, g⟩ := hb ns hl cdv A outer sh H E hr
    obtain ⟨v, rfl, dv⟩ := dp1 hd
    obtain ⟨N0, N1, N', rfl⟩ : ∃ a b r, N = a :: b :: r := by
      match N, hN with
      | a :: b :: r, _ => exact ⟨a, b, r, rfl⟩
    refine ⟨_, ht, ?_⟩
    refine ⟨v, rfl, W, ns, hW, hd, hl, fun b c H' e fb fc hB => ?_⟩
    have nb : ∀ a o, H a = some o → ¬ InB (bgB b c) a := by
      rintro a o h (⟨b', c', e, z⟩ | ⟨p, hp, _⟩)
      rotate_left
      · cases hp
      cases e
      rcases z with rfl | rfl
      · rw [fb] at h; cases h
      · rw [fc] at h; cases h
    have no : ∀ (i : Nat) (l : Own), (En.d (.list (ns.map PyData.int)) :: En.bag :: List.replicate N'.length En.un)[i]? ≠ some (En.ow l) := fun i l h => by
      match i, h with
      | 0, h => cases h
      | 1, h => cases h
      | i + 2, h => cases (List.mem_replicate.mp (List.mem_of_getElem? h)).2
    have hW' : ∀ a, W a → ∃ o, H' a = some o := fun a z => (hW a z).elim fun o q => ⟨o, e a o q⟩
    have S0 : Sta K W (bgB b c) (fun _ => 0) H H' ((L2.start (N0 :: N1 :: N') [v]).set 1 (some (.ref b))) (En.d (.list (ns.map PyData.int)) :: En.bag :: List.replicate N'.length En.un) := by
      refine ⟨?_, fun i en h => ?_, fun i j c c' g => absurd g (no i c), fun i c g => absurd g (no i c), fun a o h _ => e a o h, ⟨⟨_, bag0_okN hl, hB⟩, fun p hp => nomatch hp⟩, hW', fun p hp => nomatch hp⟩
      · rw [List.length_set, start_len]
        simp
        omega
      · match i, h with
        | 0, h =>
          cases h
          refine ⟨some v, rfl, v, rfl, dp_mono ?_ dv⟩
          intro a o q
          obtain ⟨q1, q2⟩ := less_some q
          refine less_of ?_ (e a o q2)
          rintro (z | ⟨i, l, g, _⟩ | z)
          · exact q1 z
          · exact no i l g
          · exact nb a o q2 z
        | 1, h =>
          cases h
          exact ⟨some (.ref b), rfl, b, c, rfl, rfl⟩
        | i + 2, h =>
          have en := (List.mem_replicate.mp (List.mem_of_getElem? h)).2
          subst en
          have il : i + 2 < ((L2.start (N0 :: N1 :: N') [v]).set 1 (some (.ref b))).length := by
            have := (List.getElem?_eq_some_iff.mp h).1
            rw [List.length_set, start_len]
            simp at this ⊢
            omega
          exact ⟨_, List.getElem?_eq_getElem il, trivial⟩
    refine g W (bgB b c) (fun _ => 0) H H' _ _ S0 fun o p => ?_
    subst p
    exact fun v' H2 e2 _ _ d => by
      cases d
      exact q _ H2 (fun a o h => e2 a o h (nb a o h)) (.bl true)
  ) only [↓qt_eq])
end
end U.N

end
section
namespace U.N
open PySem PyProof.Rows L2 Evl
section
variable {K : Fg} {cs : Cs} {W : WX} {G G' G1 G2 : Gam} {ta tb tc td te tf tg : TE} {φ : PyData → Prop} {ε : Xw → Prop} {ι : List PyData → Prop} {χ : Own → Prop} {γ : Gam → Prop} {Φ Ψ : Out → Prop}
variable {Wd : Addr → Prop} {B : Bt} {ad : Nat → Addr} {H0 H H1 H2 : Hp} {σ σ' : St}
/-! ### what a value is -/
section
variable {P : Int → Prop} {Pb : Bool → Prop} {Ps : Str → Prop} {Pl : List PyData → Prop} {i j : Int} {b : Bool} {x y z : PyData} {xs ys : List PyData}
theorem xi_int (p : P i) : ∃ j, PyData.int i = .int j ∧ P j := ⟨_, rfl, p⟩
theorem xi_bool (p : Pb b) : ∃ j, PyData.bool b = .bool j ∧ Pb j := ⟨_, rfl, p⟩
theorem xi_str {b : Str} (p : Ps b) : ∃ j, PyData.str b = .str j ∧ Ps j := ⟨_, rfl, p⟩
theorem xi_tup (p : Pl xs) : ∃ j, PyData.tuple xs = .tuple j ∧ Pl j := ⟨_, rfl, p⟩
theorem xi_list (p : Pl xs) : ∃ j, PyData.list xs = .list j ∧ Pl j := ⟨_, rfl, p⟩
theorem xi_it (h : itemsOf x = some xs) (p : Pl xs) : ∃ j, itemsOf x = some j ∧ Pl j := ⟨_, h, p⟩
theorem x1_int (p : P i) : ∃ j, [PyData.int i] = [.int j] ∧ P j := ⟨_, rfl, p⟩
theorem x1_it (h : itemsOf x = some xs) (p : Pl xs) : ∃ (y : PyData) (ys : List PyData), [x] = [y] ∧ itemsOf y = some ys ∧ Pl ys := ⟨_, _, rfl, h, p⟩
theorem x1_rng {P : Int → Prop} (hb : -1000000 ≤ i ∧ i ≤ 1000000) (p : P i) : ∃ n : Int, [PyData.int i] = [.int n] ∧ (-1000000 ≤ n ∧ n ≤ 1000000) ∧ P n := ⟨_, rfl, hb, p⟩
theorem sc_int (p : Pb (decide (i = j))) : ∃ b, scEq (.int i) (.int j) = some b ∧ Pb b := ⟨_, rfl, p⟩
theorem sc_str {i j : Str} (p : Pb (decide (i = j))) : ∃ b, scEq (.str i) (.str j) = some b ∧ Pb b := ⟨_, rfl, p⟩
theorem zip_f {P : List PyData → Prop} {xs ys : List PyData} (hx : itemsOf x = some xs) (hy : itemsOf y = some ys) (p : P (zipD xs ys)) : ∃ x' y' xs ys, [x, y] = [x', y'] ∧ itemsOf x' = some xs ∧ itemsOf y' = some ys ∧ (false = true → xs.length = ys.length) ∧ P (zipD xs ys) := ⟨_, _, _, _, rfl, hx, hy, (nomatch ·), p⟩
theorem x_ol (p : Pl xs) : ∃ ys, ol xs = ol ys ∧ Pl ys := ⟨_, rfl, p⟩
theorem unk1 {G : Gam} {i : Nat} (h : G[i]? = some .un) : Unk [i] G := fun j e hj g => by
  rw [List.mem_singleton.mp hj, h] at g
  exact (Option.some.inj g).symm
theorem unk2 {G : Gam} {i j : Nat} (h : G[i]? = some .un) (h2 : G[j]? = some .un) : Unk [i, j] G := fun k e hk g => by
  rcases List.mem_cons.mp hk with rfl | hk
  · rw [h] at g; exact (Option.some.inj g).symm
  · rw [List.mem_singleton.mp hk, h2] at g; exact (Option.some.inj g).symm
end
/-! ### displays of a known length -/
theorem ew_tup1 (h : EW K cs W ta G (fun a => φ (.tuple [a])) ε) : EW K cs W (tTup (tCons ta tNil)) G φ ε := ew_tup (aw_cons (ew_mono h fun a p => aw_nil ⟨by show 1 ≤ 16000000; decide, p⟩))
theorem ew_tup2 (h : EW K cs W ta G (fun a => EW K cs W tb G (fun b => φ (.tuple [a, b])) ε) ε) : EW K cs W (tTup (tCons ta (tCons tb tNil))) G φ ε := ew_tup (aw_cons (ew_mono h fun a h => aw_cons (ew_mono h fun b p => aw_nil ⟨by show 2 ≤ 16000000; decide, p⟩)))
theorem ew_tup3 (h : EW K cs W ta G (fun a => EW K cs W tb G (fun b => EW K cs W tc G (fun c => φ (.tuple [a, b, c])) ε) ε) ε) : EW K cs W (tTup (tCons ta (tCons tb (tCons tc tNil)))) G φ ε := ew_tup (aw_cons (ew_mono h fun a h => aw_cons (ew_mono h fun b h => aw_cons (ew_mono h fun c p => aw_nil ⟨by show 3 ≤ 16000000; decide, p⟩))))
theorem ew_tup4 (h : EW K cs W ta G (fun a => EW K cs W tb G (fun b => EW K cs W tc G (fun c => EW K cs W td G (fun d => φ (.tuple [a, b, c, d])) ε) ε) ε) ε) : EW K cs W (tTup (tCons ta (tCons tb (tCons tc (tCons td tNil))))) G φ ε := ew_tup (aw_cons (ew_mono h fun a h => aw_cons (ew_mono h fun b h => aw_cons (ew_mono h fun c h => aw_cons (ew_mono h fun d p => aw_nil ⟨by show 4 ≤ 16000000; decide, p⟩)))))
theorem ef_lst0 (p : χ (ol [])) : EF K cs W (tLst tNil) G χ ε := ef_lst (aw_nil ⟨by show 0 ≤ 16000000; decide, p⟩)
theorem ef_lst1 (h : EW K cs W ta G (fun a => χ (ol [a])) ε) : EF K cs W (tLst (tCons ta tNil)) G χ ε := ef_lst (aw_cons (ew_mono h fun a p => aw_nil ⟨by show 1 ≤ 16000000; decide, p⟩))
theorem ef_lst2 (h : EW K cs W ta G (fun a => EW K cs W tb G (fun b => χ (ol [a, b])) ε) ε) : EF K cs W (tLst (tCons ta (tCons tb tNil))) G χ ε := ef_lst (aw_cons (ew_mono h fun a h => aw_cons (ew_mono h fun b p => aw_nil ⟨by show 2 ≤ 16000000; decide, p⟩)))
theorem ef_lst3 (h : EW K cs W ta G (fun a => EW K cs W tb G (fun b => EW K cs W tc G (fun c => χ (ol [a, b, c])) ε) ε) ε) : EF K cs W (tLst (tCons ta (tCons tb (tCons tc tNil)))) G χ ε := ef_lst (aw_cons (ew_mono h fun a h => aw_cons (ew_mono h fun b h => aw_cons (ew_mono h fun c p => aw_nil ⟨by show 3 ≤ 16000000; decide, p⟩))))
theorem ew_lst0 (p : φ (.list [])) : EW K cs W (tLst tNil) G φ ε := ew_ef (ef_lst0 ⟨_, rfl, p⟩)
theorem ew_lst1 (h : EW K cs W ta G (fun a => φ (.list [a])) ε) : EW K cs W (tLst (tCons ta tNil)) G φ ε := ew_ef (ef_lst1 (ew_mono h fun a p => ⟨_, rfl, p⟩))
theorem ew_lst2 (h : EW K cs W ta G (fun a => EW K cs W tb G (fun b => φ (.list [a, b])) ε) ε) : EW K cs W (tLst (tCons ta (tCons tb tNil))) G φ ε := ew_ef (ef_lst2 (ew_mono h fun a h => ew_mono h fun b p => ⟨_, rfl, p⟩))
theorem ew_lst3 (h : EW K cs W ta G (fun a => EW K cs W tb G (fun b => EW K cs W tc G (fun c => φ (.list [a, b, c])) ε) ε) ε) : EW K cs W (tLst (tCons ta (tCons tb (tCons tc tNil)))) G φ ε := ew_ef (ef_lst3 (ew_mono h fun a h => ew_mono h fun b h => ew_mono h fun c p => ⟨_, rfl, p⟩))
/-! ### calls without defaults -/
section
variable {ta : TA} {P : Pr} {E : XK}
theorem ew_cP {P : List PyData → PyData → Prop} (h : AW K cs W ta G (fun ds => ∃ r, P ds r ∧ φ r) ε) : EW K cs W (tCall (spP K P) [] E ta) G φ ε := ew_callP (des := []) (fun _ => .nil) (aw_mono h fun ds p => by rw [List.append_nil]; exact p)
theorem ew_c0 (h : AW K cs W ta G (fun ds => P ds (rE φ noX)) ε) : EW K cs W (tCall (spW0 K P) [] E ta) G φ ε := ew_call0 (des := []) (fun _ => .nil) (aw_mono h fun ds p => by rw [List.append_nil]; exact p)
theorem ew_cW (h : AW K cs W ta G (fun ds => P ds (rE φ ε)) ε) : EW K cs W (tCallSD (spW K cs P) [] (WE W) ta) G φ ε := ew_callW (des := []) (fun _ => .nil) (aw_mono h fun ds p => by rw [List.append_nil]; exact p)
end
theorem rE_ok {x : PyData} (h : φ x) : rE φ ε (.ok x) := h
/-! ### zip -/
theorem dp_sqv {M : Hp} {v : V} {x : PyData} {xs : List PyData} (hx : itemsOf x = some xs) (d : Dp K M v x) : ∃ k a vs, v = .ref a ∧ SqV K k M a vs ∧ DpAll K M vs xs := by
  rcases items_cases hx with rfl | rfl
  · cases d with
    | lst g t => exact ⟨.L, _, _, rfl, g, t⟩
  · cases d with
    | tup g t => exact ⟨.T, _, _, rfl, g, t⟩
theorem ex_v {M M' : Hp} {k : Kd} {a : Addr} {vs : List V} (e : Ex M M') (h : SqV K k M a vs) : SqV K k M' a vs := by
  cases k with
  | L => exact ex_l e h
  | T => exact ex_t e h
theorem iw_zipM {bo : Bool} {ta : TA} (h : AW K cs W ta G (fun zs => ∃ x y xs ys, zs = [x, y] ∧ itemsOf x = some xs ∧ itemsOf y = some ys ∧ (bo = true → xs.length = ys.length) ∧ ι (zipD xs ys)) ε) : IW K cs W (iZipM K bo ta) G ι ε := fun Wd B ad H0 H σ S R q x => h Wd B ad H0 H σ S _ (fun zs ⟨x, y, xs, ys, e, hx, hy, hl, p⟩ vs H1 S1 e1 d1 => by
  subst e
  obtain ⟨v, w, rfl, d, d2⟩ := dp2 d1
  obtain ⟨k1, a, us, rfl, g, t⟩ := dp_sqv hx d
  obtain ⟨k2, b, ws, rfl, g2, t2⟩ := dp_sqv hy d2
  refine ⟨k1, k2, a, b, us, ws, rfl, ex_v less_ex g, ex_v less_ex g2, q _ p _ H1 S1 e1 fun H' Z hz e i => ?_⟩
  have q1 : SqV K k1 H' a us := ex_v less_ex (ex_v e g)
  have q2 : SqV K k2 H' b ws := ex_v less_ex (ex_v e g2)
  have l1 := dpa_len t
  have l2 := dpa_len t2
  have lz : (zipD xs ys).length = min xs.length ys.length := List.length_zipWith ..
  refine ⟨fun d hd => ?_, fun hn => ⟨us, ws, q1, q2, ?_⟩, fun x H'' hy => ?_⟩
  · have hi := (List.getElem?_eq_some_iff.mp hd).1
    rw [lz] at hi
    obtain ⟨v, hv, _⟩ := dpa_get t (List.getElem?_eq_getElem (i := i) (by omega))
    obtain ⟨w, hw, _⟩ := dpa_get t2 (List.getElem?_eq_getElem (i := i) (by omega))
    exact ⟨us, ws, v, w, q1, q2, hv, hw⟩
  · rw [lz] at hn
    cases bo with
    | true => exact .inl ⟨by have := hl rfl; omega, fun _ => by have := hl rfl; omega⟩
    | false =>
      by_cases h : us.length ≤ i
      · exact .inl ⟨h, fun z => by cases z⟩
      · exact .inr ⟨rfl, by omega⟩
  · obtain ⟨T, v, w, rfl, hn, rfl, f1, f2⟩ := hy
    have f1 := f1 us q1
    have f2 := f2 ws q2
    have ex : Ex H' (upd H' T (.tup [v, w])) := Ex.new hn
    refine ⟨ex, fun d hd => ?_⟩
    unfold zipD at hd
    rw [List.getElem?_zipWith] at hd
    obtain ⟨x1, hx1, dx⟩ := dpa_at t f1
    obtain ⟨y1, hy1, dy⟩ := dpa_at t2 f2
    rw [hx1, hy1] at hd
    cases hd
    have zn : ¬ Z T := fun z => by
      obtain ⟨o, h⟩ := hz T z
      rw [hn] at h; cases h
    exact .tup (st_of (less_of zn upd_same)) (.cons (dp_mono (e.trans (less_mono ex)) dx) (.cons (dp_mono (e.trans (less_mono ex)) dy) .nil))) x
theorem zipD_map {α β : Type} {f : α → PyData} {g : β → PyData} {xs : List α} {ys : List β} : zipD (xs.map f) (ys.map g) = (xs.zip ys).map fun p => .tuple [f p.1, g p.2] := by
  unfold zipD
  rw [List.zip, List.map_zipWith, List.zipWith_map]
/-! ### stars -/
/-- .. and the list is only read -/
theorem gw_starD {i j : Nat} {xs : List PyData} {x : PyData} (hij : i ≠ j) (hi : i < G.length) (hl : xs.length ≤ 10000) (h : γ ((G.set i (.d (.list xs))).set j (.d x))) : GW K (gStar K (gCons (gName i) (gCons (gName j) gNil))) G (.tuple (xs ++ [x])) γ := fun Wd B ad H0 H σ v S d Q q =>
  gw_star (γ := fun G' => G' = (G.set i (.ow (ol xs))).set j (.d x)) hij hl rfl Wd B ad H0 H σ v S d Q fun G' ad' H' σ' p S' e' => by
    subst p
    have hg : ((G.set i (.ow (ol xs))).set j (.d x))[i]? = some (.ow (ol xs)) := by rw [List.getElem?_set_ne hij.symm, List.getElem?_set_self hi]
    have S2 := S'.freeze hg
    have eG : (((G.set i (.ow (ol xs))).set j (.d x)).set i (.d (.list xs))) = (G.set i (.d (.list xs))).set j (.d x) := by
      rw [List.set_comm _ _ hij.symm, List.set_set]
    rw [eG] at S2
    refine q _ ad' H' σ' h S2 (e'.trans ?_)
    rw [← eG]
    exact less_sub fun a z => Zs.set_of (fun _ z => by cases z) z
noncomputable def GsW (K : Fg) (g : TGs) (G : Gam) (xs : List PyData) (γ : Gam → Prop) : Prop :=
  ∀ Wd B ad H0 H σ us, Sta K Wd B ad H0 H σ G → DpAll K (less H (Zs Wd B ad G)) us xs → ∀ Q : St → Hp → Prop,
  (∀ G' ad' H' σ', γ G' → Sta K Wd B ad' H0 H' σ' G' → Ex (less H (Zs Wd B ad G)) (less H' (Zs Wd B ad' G')) → Q σ' H') → g us σ H Q
theorem gsw_nil (h : γ G) : GsW K gNil G [] γ := fun Wd B ad H0 H σ us S d Q q => by
  cases d
  exact ⟨rfl, q _ _ _ _ h S (Ex.refl _)⟩
theorem gsw_cons {g : TG} {gs : TGs} {x : PyData} {xs : List PyData} (h : GW K g G x (fun G' => GsW K gs G' xs γ)) : GsW K (gCons g gs) G (x :: xs) γ := fun Wd B ad H0 H σ us S d Q q => by
  cases d with
  | cons a b =>
    refine ⟨_, _, rfl, h Wd B ad H0 H σ _ S a _ fun G1 ad1 H1 σ1 p S1 e1 => ?_⟩
    exact p Wd B ad1 H0 H1 σ1 _ S1 (dpa_mono e1 b) _ fun G2 ad2 H2 σ2 p S2 e2 => q G2 ad2 H2 σ2 p S2 (e1.trans e2)
theorem gw_tup {n : Nat} {gs : TGs} {xs : List PyData} (hn : xs.length = n) (h : GsW K gs G xs γ) : GW K (gTup K n gs) G (.tuple xs) γ := fun Wd B ad H0 H σ v S d Q q => by
  cases d with
  | tup g t => exact ⟨_, _, rfl, ex_t less_ex g, (dpa_len t).trans hn, h Wd B ad H0 H σ _ S t Q q⟩
/-- for i in range(n) -/
theorem forN {g : TG} {tb : TS} {k : Nat} (I : Nat → Gam → Prop) (h0 : I 0 G) (hs : ∀ i G1, i < k → I i G1 → GW K g G1 (.int i) (fun Gt => SW K cs W tb Gt (lp (I (i + 1)) Φ))) (he : ∀ G1, I k G1 → Φ (.nx G1)) : ForI K cs W g tb G Φ (rngD 0 k) := by
  refine ⟨I, h0, fun i x G1 hx hI => ?_, fun G1 hI => he G1 (by rw [rngD_len] at hI; exact hI)⟩
  have hl := (List.getElem?_eq_some_iff.mp hx).1
  rw [rngD_len] at hl
  rw [rngD_get hl] at hx
  cases hx
  rw [Int.zero_add]
  exact hs i G1 hl hI
section
variable {tz tu tw : TS} {g : TG} {wi : TI} {t : TT} {ti : TIp} {i j : Nat} {ta : TA}
theorem sw_seqA (h : SW K cs W (tAsg te g) G (sq K cs W tz Φ)) : SW K cs W (tSeq (tAsg te g) tz) G Φ := sw_seq h
theorem sw_seqF (h : SW K cs W (tFor wi g tu) G (sq K cs W tz Φ)) : SW K cs W (tSeq (tFor wi g tu) tz) G Φ := sw_seq h
end
theorem sw_cut {tu tz : TS} (J : Gam → Prop) (h : SW K cs W tu G (fun o => ∃ G1, o = .nx G1 ∧ J G1)) (k : ∀ G1, J G1 → SW K cs W tz G1 Φ) : SW K cs W (tSeq tu tz) G Φ := sw_seq (sw_mono h fun o ⟨G1, e, j⟩ => by rw [e]; exact k G1 j)
theorem x_nx {J : Gam → Prop} (h : J G) : ∃ G1, Out.nx G = .nx G1 ∧ J G1 := ⟨G, rfl, h⟩
theorem sw_dropX {sp : Sp} {dvs : List V} {E : St → XK} {ta : TA} (h : EW K cs W (tCallSD sp dvs E ta) G (fun x => Φ (.nx G)) (fun e => Φ (.ex e G))) : SW K cs W (tDrop (tCallSD sp dvs E ta)) G Φ := sw_drop h
/-! ### more of lists of one's own -/
theorem sw_setI {i : Nat} {xs : List PyData} (hi : G[i]? = some (.ow (ol xs))) (h : EW K cs W te G (fun x => EW K cs W tb G (fun y => ∃ j k, y = .int j ∧ ixN xs.length j = some k ∧ Φ (.nx (G.set i (.ow (ol (xs.set k x)))))) (fun e => Φ (.ex e G))) (fun e => Φ (.ex e G))) : SW K cs W (tAsg te (gSub (tVar i) tb rSetL)) G Φ := fun Wd B ad H0 H σ D S q =>
  h Wd B ad H0 H σ S _ (fun x p v H1 S1 e1 d1 => by
    obtain ⟨o, g1, rfl, _⟩ := S1.at_ i _ hi
    refine ⟨_, g1, p Wd B ad H0 H1 σ S1 _ (fun y ⟨j, k, ej, hk, p⟩ w H2 S2 e2 d2 => ?_) ((post_xp q).go e1)⟩
    subst ej
    cases d2
    obtain ⟨_, _, _, us, g5, g6⟩ := S2.at_ i _ hi
    have g5 : H2 (ad i) = some (.lst us) := g5
    have g6 : DpAll K _ us xs := g6
    refine ⟨_, us, j, k, rfl, rfl, g5, by rw [dpa_len g6]; exact hk, ?_⟩
    have ds : DpAll K (less H2 (Zs Wd B ad G)) (us.set k v) (xs.set k x) := by
      have key : ∀ (us : List V) (xs : List PyData) (k : Nat), DpAll K (less H2 (Zs Wd B ad G)) us xs → DpAll K (less H2 (Zs Wd B ad G)) (us.set k v) (xs.set k x) := fun us => by
        induction us with
        | nil => intro xs k h; cases h; exact .nil
        | cons u us ih =>
          intro xs k h
          cases h with
          | cons a b =>
            cases k with
            | zero => exact .cons (dp_mono (Xb.lz e2) d1) b
            | succ k => exact .cons a (ih _ k b)
      exact key us xs k g6
    exact q _ p ad _ σ (S2.chg (c' := ol (xs.set k x)) hi ds) ((Xb.lz (e1.trans e2)).trans (chg_ex hi))) (post_xp q)
theorem sw_ext {i : Nat} {xs : List PyData} (hi : G[i]? = some (.ow (ol xs))) (h : EF K cs W te G (fun c => ∃ ys, c = ol ys ∧ xs.length + ys.length ≤ 16000000 ∧ Φ (.nx (G.set i (.ow (ol (xs ++ ys)))))) (fun e => Φ (.ex e G))) : SW K cs W (tDrop (tBM K "list" rExtend (tVar i) (tCons te tNil))) G Φ := fun Wd B ad H0 H σ D S q => by
  obtain ⟨o, g1, rfl, vs, g3, g4⟩ := S.at_ i _ hi
  have g3 : H (ad i) = some (.lst vs) := g3
  refine ⟨_, g1, Or.inl ⟨rfl, vs, sq_of g3⟩, h Wd B ad H0 H σ S _ (fun c ⟨ys, ec, hl, p⟩ a us H1 S1 e1 hn d => ?_) (post_xp q)⟩
  subst ec
  obtain ⟨_, _, _, ws, g5, g6⟩ := S1.at_ i _ hi
  have g5 : H1 (ad i) = some (.lst ws) := g5
  have g6 : DpAll K _ ws xs := g6
  have na : ad i ≠ a := ne_of_none g5 hn
  obtain ⟨S2, e2, _⟩ := new_ex (o := .lst us) S1 hn
  have d' : DpAll K _ us ys := d
  refine ⟨_, a, ws, us, rfl, rfl, by show upd H1 a _ _ = _; rw [upd_ne na]; exact g5, upd_same, by rw [dpa_len g6, dpa_len d']; exact sz_line hl, ?_⟩
  exact q _ p ad _ σ (S2.chg (c' := ol (xs ++ ys)) hi (dpa_app (dpa_mono (Xb.lz e2) g6) (dpa_mono (Xb.lz e2) d'))) ((Xb.lz (e1.trans e2)).trans (chg_ex hi))
end
end U.N

end
section
namespace U.N
open PySem PyProof.Rows L2 Evl
section
variable {φ : PyData → Prop} {n m : Nat} {p q : Fr}
/-! ### items by literal places -/
section
variable {α : Type} {ψ : α → Prop} {xs : List α} {z : α}
theorem at_nat {i : Nat} (h : xs[i]? = some z) (p : ψ z) : ∃ z, atI xs (i : Int) = some z ∧ ψ z := ⟨z, atI_nat h, p⟩
theorem at0 (h : xs[0]? = some z) (p : ψ z) : ∃ z, atI xs 0 = some z ∧ ψ z := at_nat (i := 0) h p
theorem at1 (h : xs[1]? = some z) (p : ψ z) : ∃ z, atI xs 1 = some z ∧ ψ z := at_nat (i := 1) h p
theorem at2 (h : xs[2]? = some z) (p : ψ z) : ∃ z, atI xs 2 = some z ∧ ψ z := at_nat (i := 2) h p
theorem atm {k : Nat} (hk : k ≤ xs.length) (hk0 : 0 < k) (h : xs[xs.length - k]? = some z) : atI xs (-(k : Int)) = some z := by
  unfold atI
  have e : ixN xs.length (-(k : Int)) = some (xs.length - k) := by
    unfold ixN
    split
    · omega
    · split
      · congr 1
        omega
      · omega
  rw [e]
  exact h
theorem atm1 (p : ψ z) : ∃ z', atI (xs ++ [z]) (-1) = some z' ∧ ψ z' := ⟨z, atm (k := 1) (by simp) (by decide) (by simp), p⟩
theorem atm1M {β : Type} {f : β → α} {xs : List β} {z : β} (p : ψ (f z)) : ∃ z', atI (List.map f (xs ++ [z])) (-1) = some z' ∧ ψ z' := by
  rw [List.map_append]
  exact atm1 p
theorem atM {β : Type} {f : β → α} {xs : List β} {i : Nat} {z : β} (h : xs[i]? = some z) (p : ψ (f z)) : ∃ z', atI (List.map f xs) (i : Int) = some z' ∧ ψ z' := ⟨_, atI_nat (by rw [List.getElem?_map, h]; rfl), p⟩
end
/-! ### what calls of the first layer's defs give -/
theorem c_pull {k : Int} (h0 : 0 < k) (h1 : k < 1000000000000) (h : ∀ v : Int, 0 ≤ v → v < k → φ (.int v)) (s : Bag) (ok : s.ok) : ∃ r s', P_pull s [.int k] r s' ∧ s'.ok ∧ φ r :=
  ⟨_, _, ⟨k, rfl, h0, h1, rfl, rfl⟩, pullS_ok _ ok, h _ (pullV_range s h0).1 (pullV_range s h0).2⟩
theorem c_plus (hp : Gd n p) (hq : Gd m q) (hl : n + m ≤ 7800) (h : Gd (n + m + 1) (addF p q) → φ (fr (addF p q))) : ∃ r, P_plus [fr p, fr q] r ∧ φ r := ⟨_, ⟨n, m, p, q, rfl, hp.sz, hq.sz, hl, ⟨hp.ne, hq.ne⟩, rfl⟩, h (hp.add hq)⟩
theorem c_times (hp : Gd n p) (hq : Gd m q) (hl : n + m ≤ 7800) (h : Gd (n + m) (mulF p q) → φ (fr (mulF p q))) : ∃ r, P_times [fr p, fr q] r ∧ φ r := ⟨_, ⟨n, m, p, q, rfl, hp.sz, hq.sz, hl, ⟨hp.ne, hq.ne⟩, rfl⟩, h (hp.mul hq)⟩
theorem c_ladd (hp : Gd n p) (hq : Gd m q) (hl : n + m ≤ 7800) (h : Gd (n + m + 1) (addF p q) → φ (fr (addF p q))) : ∃ r, P_add [fr p, fr q] r ∧ φ r := ⟨_, ⟨n, m, p, q, rfl, hp.sz, hq.sz, hl, rfl⟩, h (hp.add hq)⟩
theorem c_lsub (hp : Gd n p) (hq : Gd m q) (hl : n + m ≤ 7800) (h : Gd (n + m + 1) (subF p q) → φ (fr (subF p q))) : ∃ r, P_lsub [fr p, fr q] r ∧ φ r := ⟨_, ⟨n, m, p, q, rfl, hp.sz, hq.sz, hl, trivial, rfl⟩, h (hp.sub hq)⟩
theorem c_lmul (hp : Gd n p) (hq : Gd m q) (hl : n + m ≤ 7800) (h : Gd (n + m) (mulF p q) → φ (fr (mulF p q))) : ∃ r, P_lmul [fr p, fr q] r ∧ φ r := ⟨_, ⟨n, m, p, q, rfl, hp.sz, hq.sz, hl, trivial, rfl⟩, h (hp.mul hq)⟩
theorem c_entry (h : ∀ p, Gd 10 p → φ (fr p)) (s : Bag) (ok : s.ok) : ∃ r s', P_entry s [] r s' ∧ s'.ok ∧ φ r := ⟨_, _, ⟨rfl, rfl, rfl⟩, entryS_ok ok, h _ (entryOf_gd s)⟩
theorem c_map {st gl : Int} (h1 : 0 ≤ st) (h2 : 0 ≤ gl) (l1 : st ≤ 1000) (l2 : gl ≤ 1000) (h : ∀ m, Mp 10 gl.toNat st.toNat m → φ (mp m)) (s : Bag) (ok : s.ok) : ∃ r s', P_map s [.int st, .int gl] r s' ∧ s'.ok ∧ φ r :=
  ⟨_, _, ⟨st.toNat, gl.toNat, by rw [Int.toNat_of_nonneg h1, Int.toNat_of_nonneg h2], by omega, by omega, rfl, rfl⟩, mapS_ok ok _ _, h _ (mapOf_mp _ _ _)⟩
theorem gd_none : Gd 1 (0, 1) := ⟨⟨by unfold Bd; decide, by unfold Bd; decide⟩, by decide, by decide⟩
theorem gd_one : Gd 1 (1, 1) := ⟨⟨by unfold Bd; decide, by unfold Bd; decide⟩, by decide, by decide⟩
theorem val_none : val (0, 1) = 0 := by unfold val; grind
theorem val_one : val (1, 1) = 1 := by unfold val; grind
end
end U.N


end
section
/-! Spots in order: the common number below, the keys, the order by worth. -/
namespace U
open PySem PyProof.Rows L2 Evl
theorem gi_cop {a b : Int} (h : gI a b = 1) (hb : b ≠ 0) : Nat.Coprime a.natAbs b.natAbs := by
  have h1 : gN a b = 1 := by unfold gI at h; omega
  unfold gN at h1
  have : 0 < Nat.gcd a.natAbs b.natAbs := Nat.gcd_pos_of_pos_right _ (by omega)
  unfold Nat.Coprime
  omega
theorem val_eq_iff {p q : Fr} (hp : 0 < p.2) (hq : 0 < q.2) : val p = val q ↔ p.1 * q.2 = q.1 * p.2 := qt_of (by simp (disch := with_unfolding_all
  have h1 := qne (Int.ne_of_gt hp)
  have h2 := qne (Int.ne_of_gt hq)
  unfold val
  constructor
  · intro h
    have : (p.1 : Rat) * q.2 = q.1 * p.2 := by grind
    exact_mod_cast this
  · intro h
    have : (p.1 : Rat) * q.2 = q.1 * p.2 := by exact_mod_cast h
    grind
  ) only [↓qt_eq])
theorem gd_inj {n m : Nat} {p q : Fr} (hp : Gd n p) (hq : Gd m q) (h : val p = val q) : p = q := qt_of (by simp (disch := with_unfolding_all
  have e := (val_eq_iff hp.pos hq.pos).mp h
  have c1 := gi_cop hp.low hp.ne
  have c2 := gi_cop hq.low hq.ne
  have en : p.1.natAbs * q.2.natAbs = q.1.natAbs * p.2.natAbs := by
    have := congrArg Int.natAbs e
    rwa [Int.natAbs_mul, Int.natAbs_mul] at this
  have d1 : p.2.natAbs ∣ q.2.natAbs := by
    have : p.2.natAbs ∣ p.1.natAbs * q.2.natAbs := en ▸ Nat.dvd_mul_left _ _
    exact Nat.Coprime.dvd_of_dvd_mul_left c1.symm this
  have d2 : q.2.natAbs ∣ p.2.natAbs := by
    have : q.2.natAbs ∣ q.1.natAbs * p.2.natAbs := en ▸ Nat.dvd_mul_left _ _
    exact Nat.Coprime.dvd_of_dvd_mul_left c2.symm this
  have e2 := Nat.dvd_antisymm d1 d2
  have p1 := hp.pos
  have p2 := hq.pos
  have e3 : p.2 = q.2 := by omega
  rw [e3] at e
  have e4 : p.1 = q.1 := Int.eq_of_mul_eq_mul_right (by omega) e
  exact Prod.ext e4 e3
  ) only [↓qt_eq])
/-! ### the common number -/
/-! ### the keys -/
end U

end
section
/-! Dicts of one's own, keys tuples; sorted. -/
namespace U.N
open PySem L2 Evl
noncomputable abbrev Kvs := List (List PyData × PyData)
section
variable {K : Fg} {M : Hp}
end
section
variable {K : Fg} {cs : Cs} {W : WX} {G G' G1 G2 : Gam} {ta tb tc te : TE} {t u : TT} {φ : PyData → Prop} {ε : Xw → Prop} {ψ : Bool → Prop} {α : List PyData → Prop} {ι : List PyData → Prop} {χ : Own → Prop} {Φ : Out → Prop} {tu : TS}
variable {Wd : Addr → Prop} {B : Bt} {ad : Nat → Addr} {H0 H H1 H2 : Hp} {σ : L2.St} {w : World} {ep : Nat} {kvs : Kvs} {i : Nat}
/-! ### sorted -/
end
/-! ### a dict by a comprehension -/
section
variable {K : Fg} {cs : Cs} {W : WX} {G : Gam} {tk tv : TE} {ε : Xw → Prop} {χ : Own → Prop} {wi : TI} {g : TG} {tt : TT} {vs : List Nat} {w : World}
end
end U.N

end
section
/-! The order of spots; dicts by keys of a type. -/
namespace U
open PySem PyProof.Rows L2 Evl
noncomputable abbrev Spot := List Fr
/-! ### dicts by typed keys -/
namespace N
section
variable {κ β : Type} [DecidableEq κ] {ek : κ → List PyData} {ev : β → PyData}
end
end N
end U

end
section
/-! Keys that are whole numbers; sorted rows of whole numbers; forms for the walking tactic. -/
namespace U.N
open PySem L2 Evl
/-! ### rows of whole numbers, sorted -/
/-! ### forms for the tactic -/
section
variable {K : Fg} {cs : Cs} {W : WX} {G : Gam} {ta tb : TE} {φ : PyData → Prop} {ε : Xw → Prop} {w : World} {ep : Nat} {kvs : Kvs} {i : Nat}
theorem ew_inS {neg : Bool} (h : EW K cs W ta G (fun x => EW K cs W tb G (fun y => ∃ ds, itemsOf y = some ds ∧ SeqAt.shaped x = true ∧ SeqAt.shaped (.list ds) = true ∧ φ (.bool (if neg then !ds.any (fun z => PyData.eqv z x) else ds.any fun z => PyData.eqv z x))) ε) ε) : EW K cs W (tOp (rInS K neg) ta tb) G φ ε :=
  ew_op (ew_mono h fun x h => ew_mono h fun y ⟨ds, e, h1, h2, p⟩ => fun Wd B ad H0 H σ v w S d1 d2 Q q => ⟨x, y, ds, dp_mono less_ex d1, dp_mono less_ex d2, items_cases e, h1, h2, q _ p _ H S Xb.refl (.bl _)⟩)
end
end U.N

end
section
/-! The common number divides every common multiple. -/
namespace U
open PySem PyProof.Rows L2 Evl
/-- numbers of a bits, the numbers below with a common multiple of N bits -/
structure CbB (a N : Nat) (ss : List Spot) : Prop where
  gd : ∀ s ∈ ss, Gds a s
  cm : ∃ c0 : Int, 0 < c0 ∧ (∀ s ∈ ss, ∀ f ∈ s, f.2 ∣ c0) ∧ Bd N c0
end U

end
section
/-! Corners round: plain geometry over the rationals. -/
namespace U.Hull
structure Pt where
  x : Rat
  y : Rat
deriving DecidableEq
noncomputable def sub (a b : Pt) : Pt := ⟨a.x - b.x, a.y - b.y⟩
/-- the area by which two steps span -/
noncomputable def cr (u v : Pt) : Rat := u.x * v.y - u.y * v.x
/-- > 0: c lies to the left of a → b -/
noncomputable def tn (a b c : Pt) : Rat := cr (sub b a) (sub c a)
/-! ### one side -/
/-! ### edges -/
end U.Hull

end
section
namespace U.Hull
/-- q lies between h and r -/
noncomputable def Btw (h r q : Pt) : Prop := (q.x - h.x) * (q.x - r.x) ≤ 0 ∧ (q.y - h.y) * (q.y - r.y) ≤ 0 ∧ tn h r q = 0
/-- q follows h round the spots P -/
noncomputable def Nx (P : List Pt) (h q : Pt) : Prop := q ∈ P ∧ q ≠ h ∧ (∀ r ∈ P, 0 ≤ tn h q r) ∧ ∀ r ∈ P, r ≠ q → ¬ Btw h r q
end U.Hull

end
section
namespace U.Hull
end U.Hull

end
section
/-! Corners round, of spots. -/
namespace U.Hull
open U
noncomputable def pt : Spot → Pt
  | [a, b] => ⟨val a, val b⟩
  | [a] => ⟨val a, 0⟩
  | _ => ⟨0, 0⟩
end U.Hull

end
section
/-! The body of spots in order. -/
namespace U.Hull
open U
/-! ### on a line -/
end U.Hull

end
section
namespace U.N
open PySem PyProof.Rows L2 Evl
section
variable {K : Fg} {cs : Cs} {W : WX} {G G' : Gam} {ta te : TE} {φ : PyData → Prop} {ε : Xw → Prop} {ι : List PyData → Prop} {χ : Own → Prop} {Φ : Out → Prop}
variable {Wd : Addr → Prop} {B : Bt} {ad : Nat → Addr} {H0 H H1 H2 : Hp} {σ : L2.St}
/-! ### enumerate -/
/-! ### many clauses -/
/-! the turns' items by a map -/
section
variable {β : Type} {xs : List β} {f : β → PyData} {g : TG} {tt : TT} {tc : TCl} {vs : List Nat} {m : Nat} {ρ : List PyData → Prop}
end
end
end U.N

end
section
/-! A list of one's own is lent to a test or a call that only reads it. -/
namespace U.N
open PySem PyProof.Rows L2 Evl
section
variable {K : Fg} {cs : Cs} {W : WX} {G : Gam} {te : TE} {t : TT} {φ : PyData → Prop} {ψ : Bool → Prop} {ε : Xw → Prop} {i : Nat} {xs : List PyData}
variable {Wd : Addr → Prop} {B : Bt} {ad : Nat → Addr} {H0 H H2 : Hp} {σ : L2.St}
end
end U.N

end
section
namespace U.N
open PySem PyProof.Rows L2 Evl
section
variable {K : Fg} {cs : Cs} {W : WX} {G G' : Gam} {ta tb te : TE} {φ : PyData → Prop} {ε : Xw → Prop} {χ : Own → Prop} {Φ : Out → Prop} {γ : Gam → Prop} {P : Pr}
variable {Wd : Addr → Prop} {B : Bt} {ad : Nat → Addr} {H0 H H1 H2 : Hp} {σ : L2.St}
/-! ### first, *rest = xs -/
theorem gw_starE {i j : Nat} {x : PyData} {y : PyData} {ys : List PyData} (hx : itemsOf x = some (y :: ys)) (hl : ys.length ≤ 10000) (h : γ ((G.set i (.d y)).set j (.d (.list ys)))) : GW K (gStarE K (gCons (gName i) (gCons (gName j) gNil))) G x γ := fun Wd B ad H0 H σ v S d Q q => by
  obtain ⟨k, a, us, rfl, g, t⟩ := dp_sqv hx d
  cases t with
  | cons d1 d2 =>
    rename_i w ws
    refine ⟨k, a, w, ws, rfl, ex_v less_ex g, by rw [dpa_len d2]; exact hl, fun l hn => ?_⟩
    obtain ⟨S1, e1, g1⟩ := new_ex (o := .lst ws) S hn
    have ex := Xb.lz (W := Wd) (ad := ad) (G := G) e1
    have S2 := S1.setD (i := i) (dp_mono ex d1)
    have e2 : Ex (less (upd H l (.lst ws)) (Zs Wd B ad G)) (less (upd H l (.lst ws)) (Zs Wd B ad (G.set i (.d y)))) := less_sub fun a z => Zs.set_of (fun _ z => by cases z) z
    have dl : Dp K (less (upd H l (.lst ws)) (Zs Wd B ad G)) (.ref l) (.list ys) := .lst (sq_of g1) (dpa_mono ex d2)
    have S3 := S2.setD (i := j) (dp_mono e2 dl)
    refine ⟨_, _, rfl, _, _, rfl, rfl, ?_⟩
    exact q _ _ _ _ h S3 (ex.trans (e2.trans (less_sub fun a z => Zs.set_of (fun _ z => by cases z) z)))
/-! ### calls with keywords that may raise -/
/-! ### xs.index(y) -/
end
/-! ### keys that are bodies -/
end U.N

end
section
namespace U.N
open PySem PyProof.Rows L2 Evl
section
variable {K : Fg} {cs : Cs} {W : WX} {G : Gam} {φ : PyData → Prop} {ε : Xw → Prop}
/-! ### max and min of a list of whole numbers -/
end
end U.N

end
section
namespace U.N
open PySem PyProof.Rows L2 Evl
section
variable {K : Fg} {cs : Cs} {W : WX} {G : Gam} {φ : PyData → Prop} {ε : Xw → Prop}
end
end U.N

end
section
namespace U.N
open PySem PyProof.Rows L2 Evl
section
variable {K : Fg} {cs : Cs} {W : WX} {G : Gam} {Φ : Out → Prop}
end
end U.N

end
section
namespace U.N
open PySem PyProof.Rows L2 Evl
section
variable {K : Fg} {cs : Cs} {W : WX} {G : Gam} {γ : Gam → Prop}
end
end U.N

end
section
/-! Defs as values: a def that tells a def by a text, and calls by a name that holds one. -/
namespace U.N
open PySem PyProof.Rows L2 Evl
/-- one reading or another -/
noncomputable def tEith (t u : TE) : TE := fun σ H Q => t σ H Q ∨ u σ H Q
theorem pe_eith {X : Cx} {e : Expr} {t u : TE} (h : PE X e t) (k : PE X e u) : PE X e (tEith t u) := ⟨fun pins s σ H Q I p => p.elim (fun p => h.run pins s σ H Q I p) fun p => k.run pins s σ H Q I p⟩
noncomputable abbrev FTab := List (Str × Addr)
/-- a def's promise, its values handed over as they stand -/
theorem fnr_of {P : Program} {w : World} {K : Fg} {mg : Str → Option Value} {base : Heap} {CX : CXT} {k : Nat} {f : Addr} {fd : FuncData} {ps : List Str} {sp : Sp} (F : FnOk P w K mg base CX k f fd ps sp) (hb : Binds K fd ps []) : FnR P w K mg base CX k f sp :=
  (F.raw hb .nil).imp fun vs H Q E h => by rw [List.append_nil]; exact h
section
variable {K : Fg} {cs : Cs} {W : WX} {G : Gam} {φ : PyData → Prop} {ε : Xw → Prop} {Φ : Out → Prop} {t u : TE} {ta : TA} {i : Nat} {f : Addr} {P : Pr} {tab : FTab} {e : Xw}
theorem ew_or1 (h : EW K cs W t G φ ε) : EW K cs W (tEith t u) G φ ε := fun Wd B ad H0 H σ S Q q x => .inl (h Wd B ad H0 H σ S Q q x)
theorem ew_or2 (h : EW K cs W u G φ ε) : EW K cs W (tEith t u) G φ ε := fun Wd B ad H0 H σ S Q q x => .inr (h Wd B ad H0 H σ S Q q x)
/-- a call by a name that holds a def -/
theorem ew_cV (hi : G[i]? = some (.vl (.ref f))) (h : AW K cs W ta G (fun ds => P ds (rE φ noX)) ε) : EW K cs W (ItX.tCallV i f (spW0 K P) E0 ta) G φ ε := fun Wd B ad H0 H σ S Q q x => by
  obtain ⟨o, g1, g2⟩ := S.at_ i _ hi
  have g2 : o = some (.ref f) := g2
  subst g2
  have k := ew_c0 (E := E0) h Wd B ad H0 H σ S Q q x
  have ea : (tCall (spW0 K P) [] E0 ta) σ H Q = ta σ H (fun vs H1 => spW0 K P vs H1 Q E0) := by
    unfold tCall
    simp only [List.append_nil]
  rw [ea] at k
  exact ⟨g1, k⟩
end
/-! ### the body of such a def -/
section
variable (K : Fg) (cs : Cs) (W : WX)
end
section
variable {K : Fg} {cs : Cs} {W : WX} {G : Gam} {A : Addr → Prop} {ε : Xw → Prop} {t1 t2 : TS} {w : World} {f md : Addr} {i : Nat} {z : Str}
end
section
variable {Pg : Program} {w : World} {K : Fg} {mg : Str → Option Value} {base : Heap} {cs : Cs}
end
end U.N

end
section
/-! list(d), d a dict of one's own: its keys, in the order in which they came. -/
namespace U
open PySem PySem.W PyProof.Rows L2 Evl
end U
namespace U.N
open PySem PyProof.Rows L2 Evl
section
variable {K : Fg} {cs : Cs} {W : WX} {G : Gam} {φ : PyData → Prop} {χ : Own → Prop} {ε : Xw → Prop} {w : World} {i ep : Nat} {kvs : Kvs}
end
end U.N

end
section
/-! sorted(set(xs)), xs a list of tuples of whole numbers. -/
namespace U
open PySem PySem.W PyProof.Rows L2 Evl
end U

end
section
/-! sorted(set(xs)), told to the readings. -/
namespace U.N
open PySem PyProof.Rows L2 Evl
section
variable {K : Fg} {cs : Cs} {W : WX} {G : Gam} {φ : PyData → Prop} {χ : Own → Prop} {ε : Xw → Prop} {te : TE} {P : Program} {w : World}
end
end U.N

end
section
/-! sorted(set(xs)) as a term; xs.insert(0, y). -/
namespace U.N
open PySem PyProof.Rows L2 Evl
section
variable {K : Fg} {cs : Cs} {W : WX} {G : Gam} {φ : PyData → Prop} {ε : Xw → Prop} {Φ : Out → Prop} {te : TE}
end
end U.N

end
section
/-! Texts: len, signs, slices, in, int(text), str(number), +, *, f-strings, partition, find, count, join. -/
namespace U.N
open PySem PyProof.Rows L2 Evl
/-! ### relations by name -/
noncomputable def rAddStr : R2 := fun x y H Q => ∃ i j, x = .str i ∧ y = .str j ∧ i.length + j.length ≤ sizeLine ∧ Q (.str (i ++ j)) H
noncomputable def rStrI : List V → Hp → VK → Prop := fun xs H Q => ∃ i, xs = [.int i] ∧ i.natAbs.log2 < 1920 ∧ Q (.str (toString i)) H
noncomputable def rJoin (K : Fg) : V → List V → Hp → VK → Prop := fun x xs H Q => ∃ a p, ∃ ys : List Str, x = .str a ∧ xs = [.ref p] ∧ (SqL K H p (ys.map V.str) ∨ SqT K H p (ys.map V.str)) ∧
    (ys.map (·.length)).sum + ys.length * a.length ≤ 16777216 ∧ Q (.str (Txt.join a ys)) H
noncomputable def tJoined (ts : List TE) : TE := fun σ H Q => tJs ts Str.empty σ H fun out H1 => Q (.str out) H1
section
variable {X : Cx} {o e : Expr} {to te : TE}
theorem op_addStr : OpR X (binaryOp .Add) rAddStr := op_add_str
theorem c_strI : CallR X (.type "str") rStrI := call_str_int
theorem pe_joinS {apos pos : Pos} (ho : PE X o to) (he : PE X e te) (hs : starEach [e] X.env = [(false, eval e X.env)] := by rfl) (hbase : attributeBase o "join" X.env (eval o X.env) = eval o X.env := by rfl) (hline : (apos.endLine == pos.line) = true := by rfl) :
    PE X (.Call (.Attribute o "join" apos) [e] [] pos) (tM1 (rJoin X.K) to te) := pe_m1 F.slot_str_join F.type_str_join mt_join ho he hs hbase hline
theorem pe_joinedS {v1 v2 : Expr} {rest : List Expr} {ts : List TE} {pos : Pos} (h : PJ X (v1 :: v2 :: rest) ts) : PE X (.JoinedStr (v1 :: v2 :: rest) pos) (tJoined ts) := pe_joined h
end
/-! ### isinstance(why, a built-in class) -/
end U.N
namespace U
open PySem PyProof.Rows L2 Evl
end U
namespace U.N
open PySem PyProof.Rows L2 Evl
/-! ### what suffices -/
section
variable {K : Fg} {cs : Cs} {W : WX} {G : Gam} {φ : PyData → Prop} {ε : Xw → Prop} {ι : List PyData → Prop} {te ta tb : TE}
theorem ew_strI {ta : TA} (h : AW K cs W ta G (fun xs => ∃ i : Int, xs = [.int i] ∧ i.natAbs.log2 < 1920 ∧ φ (.str (toString i))) ε) : EW K cs W (tCB rStrI ta) G φ ε := ew_cb (aw_mono h fun xs ⟨i, e, hl, p⟩ Wd B ad H0 H σ vs S d Q q => by
  subst e
  cases d with
  | cons h1 t =>
    cases t
    cases h1
    exact ⟨i, rfl, hl, q _ p _ H S Xb.refl (.str _)⟩)
theorem ew_addStr (h : EW K cs W ta G (fun x => ∃ i, x = .str i ∧ EW K cs W tb G (fun y => ∃ j, y = .str j ∧ i.length + j.length ≤ sizeLine ∧ φ (.str (i ++ j))) ε) ε) : EW K cs W (tOp rAddStr ta tb) G φ ε :=
  ew_op (ew_mono h fun x ⟨i, e, h⟩ => ew_mono h fun y ⟨j, e2, hl, p⟩ => fun Wd B ad H0 H σ v w S d1 d2 Q q => by
    subst e; subst e2
    cases d1; cases d2
    exact ⟨i, j, rfl, rfl, hl, q _ p _ H S Xb.refl (.str _)⟩)
/-- a method of a text with one text -/
theorem ew_m1 {r : V → List V → Hp → VK → Prop} (h : EW K cs W ta G (fun x => ∃ a : Str, x = .str a ∧ EW K cs W tb G (fun y => ∀ Wd B ad H0 H σ w, Sta K Wd B ad H0 H σ G → Dp K (less H (Zs Wd B ad G)) w y → ∀ Q : VK, (∀ z, φ z → ∀ v H2, Sta K Wd B ad H0 H2 σ G → Xb B H H2 → Dp K (less H2 (Zs Wd B ad G)) v z → Q v H2) → r (.str a) [w] H Q) ε) ε) : EW K cs W (tM1 r ta tb) G φ ε := fun Wd B ad H0 H σ S Q q x =>
  h Wd B ad H0 H σ S _ (fun x1 ⟨a, ea, p1⟩ v H1 S1 e1 d1 => by
    subst ea
    cases d1
    exact ⟨⟨a, rfl⟩, p1 Wd B ad H0 H1 σ S1 _ (fun y p2 w H2 S2 e2 d2 => p2 Wd B ad H0 H2 σ w S2 d2 Q fun z p v H3 S3 e3 d3 => q z p v H3 S3 ((e1.trans e2).trans e3) d3) (x.go e1)⟩) x
theorem strs_of_dpa {H : Hp} : ∀ {ys : List Str} {vs : List V}, DpAll K H vs (ys.map PyData.str) → vs = ys.map V.str
  | [], _, .nil => rfl
  | _ :: ys, _, .cons h t => by cases h; rw [strs_of_dpa t]; rfl
theorem ew_joinS (h : EW K cs W ta G (fun x => ∃ a : Str, x = .str a ∧ EW K cs W tb G (fun y => ∃ ys : List Str, y = .list (ys.map PyData.str) ∧ (ys.map (·.length)).sum + ys.length * a.length ≤ 16777216 ∧ φ (.str (Txt.join a ys))) ε) ε) : EW K cs W (tM1 (rJoin K) ta tb) G φ ε :=
  ew_m1 (ew_mono h fun x ⟨a, ea, h⟩ => ⟨a, ea, ew_mono h fun y ⟨ys, eb, hl, p⟩ => fun Wd B ad H0 H σ w S d Q q => by
    subst eb
    cases d with
    | @lst a2 vs _ g t =>
      rw [strs_of_dpa t] at g
      exact ⟨a, a2, ys, rfl, rfl, .inl (ex_l less_ex g), hl, q _ p _ H S Xb.refl (.str _)⟩⟩)
theorem ew_fmt (h : EW K cs W te G (fun x => (∃ y : Str, x = .str y ∧ y.length ≤ sizeLine ∧ φ (.str y)) ∨ ∃ i : Int, x = .int i ∧ i.natAbs.log2 < 1920 ∧ φ (.str (toString i))) ε) : EW K cs W (tFmt te) G φ ε := fun Wd B ad H0 H σ S Q q x =>
  h Wd B ad H0 H σ S _ (fun x1 p v H1 S1 e1 d1 => by
    rcases p with ⟨y, rfl, hl, p⟩ | ⟨i, rfl, hl, p⟩
    · cases d1
      exact .inl ⟨y, rfl, hl, q _ p _ H1 S1 e1 (.str _)⟩
    · cases d1
      exact .inr ⟨i, rfl, hl, q _ p _ H1 S1 e1 (.str _)⟩) x
/-- the parts of an f-string one behind the other -/
noncomputable def JW (K : Fg) (cs : Cs) (W : WX) (G : Gam) (ε : Xw → Prop) (ω : Str → Prop) : List TE → Str → Prop
  | [], acc => ω acc
  | t :: ts, acc => EW K cs W t G (fun x => ∃ y : Str, x = .str y ∧ (acc ++ y).length ≤ sizeLine ∧ JW K cs W G ε ω ts (acc ++ y)) ε
theorem jw_run {ω : Str → Prop} : ∀ {ts : List TE} {acc : Str}, JW K cs W G ε ω ts acc → ∀ Wd B ad H0 H σ, Sta K Wd B ad H0 H σ G → ∀ Q : Str → Hp → Prop, (∀ z, ω z → ∀ H2, Sta K Wd B ad H0 H2 σ G → Xb B H H2 → Q z H2) → XP K cs W Wd B ad H0 H σ G ε → tJs ts acc σ H Q
  | [], acc, h, Wd, B, ad, H0, H, σ, S, Q, q, x => q _ h H S Xb.refl
  | t :: ts, acc, h, Wd, B, ad, H0, H, σ, S, Q, q, x => h Wd B ad H0 H σ S _ (fun x1 ⟨y, ey, hl, p⟩ v H1 S1 e1 d1 => by
    subst ey
    cases d1
    exact ⟨y, rfl, hl, jw_run p Wd B ad H0 H1 σ S1 Q (fun z hz H2 S2 e2 => q z hz H2 S2 (e1.trans e2)) (x.go e1)⟩) x
theorem ew_joined {ts : List TE} (h : JW K cs W G ε (fun z => φ (.str z)) ts Str.empty) : EW K cs W (tJoined ts) G φ ε := fun Wd B ad H0 H σ S Q q x =>
  jw_run h Wd B ad H0 H σ S _ (fun z hz H2 S2 e2 => q _ hz _ H2 S2 e2 (.str _)) x
theorem jw_cons {ω : Str → Prop} {t : TE} {ts : List TE} {acc : Str} (h : EW K cs W t G (fun x => ∃ y : Str, x = .str y ∧ (acc ++ y).length ≤ sizeLine ∧ JW K cs W G ε ω ts (acc ++ y)) ε) : JW K cs W G ε ω (t :: ts) acc := h
theorem jw_nil {ω : Str → Prop} {acc : Str} (h : ω acc) : JW K cs W G ε ω [] acc := h
end
end U.N

end
section
/-! An empty dict among data: displays that hold one, names and arguments that are one. -/
namespace U.N
open PySem PyProof.Rows L2 Evl
section
variable (K : Fg) (cs : Cs) (W : WX)
end
section
variable {K : Fg} {cs : Cs} {W : WX} {G : Gam} {ta tb te : TE} {tr tk : TA} {φ : PyData → Prop} {χ : Option PyData → Prop} {α : List (Option PyData) → Prop} {ε : Xw → Prop} {Φ : Out → Prop} {P P1 : Pr} {dvs : List V} {des : List PyData} {E : XK}
end
/-! ### the bodies of such defs -/
section
variable {Pg : Program} {w : World} {K : Fg} {mg : Str → Option Value} {base : Heap} {cs : Cs}
end
end U.N

end
section
/-! Values that are no data, known by what stays true of them. -/
namespace U.N
open PySem PyProof.Rows L2 Evl
noncomputable abbrev Rho := V → Hp → Prop
section
variable {K : Fg} {cs : Cs} {W : WX}
variable {G : Gam} {φ : Rho → Prop} {ψ : PyData → Prop} {α : List Rho → Prop} {Φ : Out → Prop} {ε : Xw → Prop} {ta tr : TA} {te tf : TE}
end
end U.N

end
section
/-! Loops and comprehensions over values that are no data. -/
namespace U.N
open PySem PyProof.Rows L2 Evl
section
variable {K : Fg} {cs : Cs} {W : WX} {G : Gam} {φ : Rho → Prop} {ψ : PyData → Prop} {χ : Own → Prop} {Φ : Out → Prop} {ε : Xw → Prop} {ι : List Rho → Prop} {γ : Gam → Prop} {te : TE} {tt : TT} {wi : TI} {g : TG} {vs : List Nat}
end
end U.N

end
section
/-! Defs that take values which are no data. -/
namespace U.N
open PySem PySem.W PyProof.Rows L2 Evl
noncomputable abbrev PrE := List En → (Rs → Prop) → Prop
section
variable {Pg : Program} {w : World} {K : Fg} {mg : Str → Option Value} {base : Heap} {cs : Cs}
end
/-! ### their calls -/
section
variable {K : Fg} {cs : Cs} {W : WX} {G : Gam} {φ : PyData → Prop} {χ : Own → Prop} {ε : Xw → Prop} {ta tr : TA} {te : TE} {E : XK} {P : PrE} {α : List En → Prop}
end
end U.N

end
section
/-! More of values that are no data: lists put together, items, pairs, isinstance, targets. -/
namespace U.N
open PySem PyProof.Rows L2 Evl
section
variable {K : Fg} {cs : Cs} {W : WX} {G : Gam} {φ : Rho → Prop} {ψ : PyData → Prop} {Φ : Out → Prop} {ε : Xw → Prop} {γ : Gam → Prop} {ta tb te : TE}
/-! ### targets -/
end
end U.N

end
section
/-! Comprehensions whose item may raise. -/
namespace U.N
open PySem PyProof.Rows L2 Evl
section
variable {K : Fg} {cs : Cs} {W : WX} {G : Gam} {φ : PyData → Prop} {ε : Xw → Prop} {χ : Own → Prop} {ι : List PyData → Prop} {wi : TI} {g : TG} {tt : TT} {vs : List Nat} {Φ : Out → Prop}
variable {Wd : Addr → Prop} {B : Bt} {ad : Nat → Addr} {H0 H H1 H2 : Hp} {σ : St}
variable {β : Type} {xs : List β} {f : β → PyData}
end
end U.N

end
section
/-! Dicts with texts for keys: of one's own, and frozen. -/
namespace U.N
open PySem PyProof.Rows L2 Evl
noncomputable abbrev Sd := List (Str × PyData)
section
variable {K : Fg} {M : Hp}
end
section
variable {K : Fg} {cs : Cs} {W : WX} {G : Gam} {φ : PyData → Prop} {ε : Xw → Prop} {χ : Own → Prop} {Φ : Out → Prop} {te tk : TE} {tu : TS} {kvs : Sd} {i j : Nat}
variable {Wd : Addr → Prop} {B : Bt} {ad : Nat → Addr} {H0 H H1 H2 : Hp} {σ : St}
end
end U.N

end
section
/-! Defs that call themselves. -/
namespace U.N
open PySem PyProof.Rows L2 Evl
section
variable {Pg : Program} {w : World} {K : Fg} {mg : Str → Option Value} {base : Heap} {cs : Cs} {vs : List V} {H : Hp} {Q : VK} {E : XK}
theorem fnok_none {CX : CXT} {k : Nat} {f : Addr} {fd : FuncData} {ps : List Str} {sp : Sp} (h : ∀ vs H Q E, sp vs H Q E → False) : FnOk Pg w K mg base CX k f fd ps sp :=
  ⟨fun vs H Q E z => (h _ _ _ _ z).elim, fun A outer s H args us vs Q E _ _ _ _ z => (h _ _ _ _ z).elim⟩
theorem no_W0 {P : Pr} (n : ∀ ds A, P ds A → False) (h : spW0 K P vs H Q E) : False := by obtain ⟨_, _, _, _, _, h, _⟩ := h; exact n _ _ h
theorem no_WX {P : Pr} (n : ∀ ds A, P ds A → False) (h : spW K cs P vs H Q E) : False := by obtain ⟨_, _, _, _, _, h, _⟩ := h; exact n _ _ h
theorem no_WB {P : Pr} (n : ∀ ds A, P ds A → False) (h : spWB K P vs H Q E) : False := by obtain ⟨_, _, _, _, _, _, _, _, _, _, h, _⟩ := h; exact n _ _ h
end
end U.N

end
section
/-! Land by sides and by threes. -/
namespace U.Hull
open U
end U.Hull

end
section
/-! What lies between the corners of a body. -/
namespace U.Hull
open U
/-! ### on a line -/
/-! ### bodies of more spots -/
/-! ### every spot lies in its body -/
end U.Hull

end
section
/-! A def out of a table of the module, held by a local name; a call by such a name that may raise. -/
namespace U.N
open PySem PyProof.Rows L2 Evl
/-- f(e, ..), f a local name that holds a def, the def may raise -/
noncomputable def tCallVS (i : Nat) (f : Addr) (sp : Sp) (E : St → XK) (t : TA) : TE := fun σ H Q => σ[i]? = some (some (.ref f)) ∧ t σ H fun vs H1 => sp vs H1 Q (E σ)
theorem pe_callVS {X : Cx} {CX : CXT} {k i : Nat} {f : Addr} {fd : FuncData} {ps : List Str} {sp : Sp} {E : St → XK} {x : Str} {e : Expr} {es : List Expr} {t : TA} {p pos : Pos} (F : FnOk X.prog X.w X.K X.mg X.base CX k f fd ps sp) (hb : Binds X.K fd ps []) (hr : Room k X.A) (hk : PySem.W.keepIn X.K (.ref f) = true) (hx : ∀ σ, PassesAt CX X σ (E σ)) (hN : X.N[i]? = some x) (hv : Vis X.env.scope x) (ha : PA X (e :: es) t)
    (hd : (x == ("__debug__" : Str)) = false := by decide) (hcd : (x == ("__classdict__" : Str)) = false := by decide)
    (he : starEach (e :: es) X.env = (false, eval e X.env) :: starEach es X.env := by rfl) (hpl : (backTo pos (starEach es X.env)).any (·.1) = false := by rfl) : PE X (.Call (.Name x p) (e :: es) [] pos) (tCallVS i f sp E t) := by
  refine ⟨fun pins s σ H Q I h => ?_⟩
  obtain ⟨hs, h⟩ := h
  refine wpAny_Call_Name_kw (thn ((pe_var (pos := p) (i := i) hN hv hd hcd).run pins s σ H (fun v H1 => v = .ref f ∧ H1 = H) I ⟨.ref f, hs, rfl, rfl⟩) fun u s1 ⟨v, H1, I1, r1, ev, eH⟩ => ?_)
  subst ev
  rw [eH] at I1
  cases r1
  refine PySem.W.callWith_K (h₀ := X.base) I.ok.mod.kin hk (thn (ha.run pos pins s1 σ H _ I1 h) fun us s2 ⟨vs, H2, I2, r, q⟩ => ⟨I2.kIn, ?_⟩) he hpl
  exact run_fnS F hr hb (hx σ) I2 r q
section
variable {K : Fg} {cs : Cs} {W : WX} {G : Gam} {φ : PyData → Prop} {ε : Xw → Prop} {Φ : Out → Prop} {ta : TA} {i j : Nat} {f md : Addr} {P : Pr} {w : World} {z : Str}
theorem ew_cVS (hi : G[i]? = some (.vl (.ref f))) (h : AW K cs W ta G (fun ds => P ds (rE φ ε)) ε) : EW K cs W (tCallVS i f (spW K cs P) (WE W) ta) G φ ε := fun Wd B ad H0 H σ S Q q x => by
  obtain ⟨o, g1, g2⟩ := S.at_ i _ hi
  have g2 : o = some (.ref f) := g2
  subst g2
  have k := ew_cW h Wd B ad H0 H σ S Q q x
  have ea : (tCallSD (spW K cs P) [] (WE W) ta) σ H Q = ta σ H (fun vs H1 => spW K cs P vs H1 Q (WE W σ)) := by
    unfold tCallSD
    simp only [List.append_nil]
  rw [ea] at k
  exact ⟨g1, k⟩
/-- a name gets the def that a table of the module has at a text -/
theorem sw_asgK (hi : G[i]? = some (.d (.str z))) (hk : KDct K w md z (.ref f)) (h : Φ (.nx (G.set j (.vl (.ref f))))) : SW K cs W (tAsg (tOp (rIxD K w) (tC (.ref md)) (tVar i)) (gName j)) G Φ := fun Wd B ad H0 H σ D S q => by
  obtain ⟨o, g1, v, g2, d⟩ := S.at_ i _ hi
  subst g2
  cases d
  exact ⟨_, g1, md, z, .ref f, rfl, rfl, hk, q _ h ad H _ (S.set (fun _ y => by cases y) (show some (V.ref f) = some (V.ref f) from rfl)) (less_sub fun a z => Zs.set_of (fun _ z => by cases z) z)⟩
end
end U.N

end
section
/-! Defs that tell a pair of data and a new list of the asker's own. -/
namespace U.N
open PySem PySem.W PyProof.Rows L2 Evl
inductive Rp where
  | ok (x : PyData) (c : List PyData)
  | er (e : Xw)
noncomputable abbrev PrP := List PyData → (Rp → Prop) → Prop
noncomputable def PairAt (H : Hp) (p q : Addr) (v : V) (vs : List V) : Prop := p ≠ q ∧ H p = some (.tup [v, .ref q]) ∧ H q = some (.lst vs)
noncomputable def okRp (H : Hp) (K : Fg) (Wd : Addr → Prop) (Q : VK) (A : Rp → Prop) : Prop :=
  ∀ x c, A (.ok x c) → ∀ p q v vs H', Ex H H' → H p = none → H q = none → PairAt H' p q v vs → Dp K (less H' fun b => (Wd b ∨ b = p) ∨ b = q) v x → DpAll K (less H' fun b => (Wd b ∨ b = p) ∨ b = q) vs c → Q (.ref p) H'
/-- a def that tells such a pair; it may raise -/
noncomputable def spPL (K : Fg) (cs : Cs) (P : PrP) : Sp := fun vs H Q E => ∃ (Wd : Addr → Prop) (ds : List PyData) (A : Rp → Prop), (∀ a, Wd a → ∃ o, H a = some o) ∧ DpAll K (less H Wd) vs ds ∧ P ds A ∧ okRp H K Wd Q A ∧
  ∀ e, A (.er e) → ∀ d H', Ex H H' → H d = none → H' d = some (.xd e.fs) → E (.ref (cs e.cls)) (some d) H'
section
variable {K : Fg} {cs : Cs} {W : WX} {G G' G1 G2 : Gam} {ta tb tc te : TE} {φ : PyData → Prop} {ε : Xw → Prop} {Φ : Out → Prop} {tu tv : TS} {A : Rp → Prop}
variable {Wd : Addr → Prop} {B : Bt} {ad : Nat → Addr} {H0 H H1 H2 : Hp} {σ σ' : St}
/-- what is wanted of a body that ends so -/
noncomputable def SP (K : Fg) (cs : Cs) (W : WX) (ts : TS) (G : Gam) (A : Rp → Prop) : Prop :=
  ∀ Wd B ad H0 H σ (D : Ends), Sta K Wd B ad H0 H σ G → (∀ x c, A (.ok x c) → ∀ p q v vs H', Xb B H0 H' → H0 p = none → H0 q = none → PairAt H' p q v vs → Dp K (less H' fun b => ((Wd b ∨ InB B b) ∨ b = p) ∨ b = q) v x → DpAll K (less H' fun b => ((Wd b ∨ InB B b) ∨ b = p) ∨ b = q) vs c → D.rt (.ref p) H') →
    (∀ e, A (.er e) → ∀ d H' σ', Xb B H0 H' → H0 d = none → H' d = some (.xd e.fs) → W (.ref (cs e.cls)) (some d) σ' H') → ts D σ H
noncomputable def spq (K : Fg) (cs : Cs) (W : WX) (tv : TS) (A : Rp → Prop) : Out → Prop
  | .nx G => SP K cs W tv G A
  | .ex e _ => A (.er e)
  | _ => False
theorem sp_seq (h : SW K cs W tu G (spq K cs W tv A)) : SP K cs W (tSeq tu tv) G A := fun Wd B ad H0 H σ D S q x =>
  h Wd B ad H0 H σ _ S fun o p => by
    cases o with
    | nx G1 => exact fun ad1 H1 σ1 S1 e1 => p Wd B ad1 H0 H1 σ1 D S1 q x
    | rt y => exact p.elim
    | rl y => exact p.elim
    | bk y => exact p.elim
    | ct y => exact p.elim
    | ex e G1 => exact fun d ad1 H1 σ1 S1 e1 hn hx => x e p d H1 σ1 (fun a o h n => S1.base a o h n) hn (less_some hx).2
theorem sp_ret {i j : Nat} {x : PyData} {xs : List PyData} (hi : G[i]? = some (.d x)) (hj : G[j]? = some (.ow (ol xs))) (h : A (.ok x xs)) : SP K cs W (tRet (tTup (tCons (tVar i) (tCons (tVar j) tNil)))) G A := fun Wd B ad H0 H σ D S q _ => by
  obtain ⟨o, g1, v, rfl, d1⟩ := S.at_ i _ hi
  obtain ⟨o2, g2, rfl, vs, g3, g4⟩ := S.at_ j _ hj
  have g3 : H (ad j) = some (.lst vs) := g3
  obtain ⟨s0, sB, sW⟩ := S.sep j _ hj
  refine ⟨_, g1, ?_⟩
  refine ⟨_, g2, ?_⟩
  refine ⟨sz_line (n := 2) (by decide), fun p hp => ?_⟩
  obtain ⟨f1, f2, f3⟩ := S.fresh hp
  have ne : p ≠ ad j := fun z => by rw [z, g3] at hp; cases hp
  have ex : Ex (less H (Zs Wd B ad G)) (less (upd H p (.tup [v, .ref (ad j)])) fun b => ((Wd b ∨ InB B b) ∨ b = p) ∨ b = ad j) := fun a o q => by
    obtain ⟨q1, q2⟩ := less_some q
    have na : a ≠ p := fun z => by rw [z, hp] at q2; cases q2
    refine less_of ?_ (by rw [upd_ne na]; exact q2)
    rintro (((z | z) | z) | z)
    · exact q1 (.inl z)
    · exact q1 (.inr (.inr z))
    · exact na z
    · exact q1 (.inr (.inl ⟨j, _, hj, z⟩))
  refine q x xs h p (ad j) v vs _ (fun a o h n => ?_) f1 s0 ⟨ne, upd_same, by rw [upd_ne ne.symm]; exact g3⟩ (dp_mono ex d1) (dpa_mono ex g4)
  have na : a ≠ p := fun z => by rw [z, f1] at h; cases h
  rw [upd_ne na]
  exact S.base a o h n
/-! ### the def -/
theorem okPL {Pg : Program} {w : World} {mg : Str → Option Value} {base : Heap} {x qual : Str} {st : Stmt} {f : Addr} {fd : FuncData} {N ps : List Str} {k : Nat} {P : PrP} (F : Fun K x qual st f fd) (S : FnScope N ps (defScope st)) (hl : ∀ ds A, P ds A → ds.length = ps.length)
    (hb : ∀ ds A, P ds A → ∀ (cdv : Value) (Ar : Around) (outer : List Env) (sh : Shared) (H : Hp) (E : XK), Room k (Ar.deeper (envOfC qual (defScope st) sh.heap.objs.size f cdv)) →
      ∃ t, PSs (cxOf (L2.CX Pg w) Pg w K mg base N qual (defScope st) f cdv Ar outer sh H E) (defBody st) t ∧ SP K cs (WD E) t (frame N.length ds) A) :
    FnOk Pg w K mg base (L2.CX Pg w) (k + 1) f fd ps (spPL K cs P) := qt_of (by simp (disch := with_unfolding_all
  refine F.okX S (fun vs H Q E h => ?_) (fun cdv Ar outer sh H vs Q E hr h => ?_)
  · obtain ⟨Wd, ds, A, _, hd, hp, _⟩ := h
    rw [dpa_len hd]
    exact hl ds A hp
  · obtain ⟨Wd, ds, A, hW, hd, hp, q, x⟩ := h
    obtain ⟨t, ht, g⟩ := hb ds A hp cdv Ar outer sh H E hr
    refine ⟨t, ht, g Wd noB (fun _ => 0) H H _ _ (sta0 hW hd) (fun y c hA p a v us H' e hp' ha k d dd => ?_) fun e hA d H' σ' x' hn hx => x e hA d H' (xb_none x') hn hx⟩
    have zz : ∀ b, ((Wd b ∨ b = p) ∨ b = a) ↔ (((Wd b ∨ InB noB b) ∨ b = p) ∨ b = a) := fun b => by
      have : ¬ InB noB b := inb_none
      simp [this]
    have ez : (fun b => ((Wd b ∨ InB noB b) ∨ b = p) ∨ b = a) = fun b => (Wd b ∨ b = p) ∨ b = a := funext fun b => propext (zz b).symm
    rw [ez] at d dd
    exact q y c hA p a v us H' (xb_none e) hp' ha k d dd
  ) only [↓qt_eq])
/-! ### its calls -/
variable {P : PrP} {tA : TA}
noncomputable def rP (φ : PyData → Prop) (ε : Xw → Prop) : Rp → Prop
  | .ok x c => φ (.tuple [x, .list c])
  | .er e => ε e
theorem pair_dp (S : Sta K Wd B ad H0 H σ G) {p q : Addr} {v : V} {vs : List V} {x : PyData} {c : List PyData} (e : Ex H H1) (hp : H p = none) (hq : H q = none) (k : PairAt H1 p q v vs) (d : Dp K (less H1 fun b => (Zs Wd B ad G b ∨ b = p) ∨ b = q) v x) (dd : DpAll K (less H1 fun b => (Zs Wd B ad G b ∨ b = p) ∨ b = q) vs c) :
    Dp K (less H1 (Zs Wd B ad G)) (.ref p) (.tuple [x, .list c]) := qt_of (by simp (disch := with_unfolding_all
  have np := (S.fresh hp).2.2
  have nq := (S.fresh hq).2.2
  have ex : Ex (less H1 fun b => (Zs Wd B ad G b ∨ b = p) ∨ b = q) (less H1 (Zs Wd B ad G)) := less_sub fun b z => .inl (.inl z)
  exact .tup (st_of (less_of np k.2.1)) (.cons (dp_mono ex d) (.cons (.lst (sq_of (less_of nq k.2.2)) (dpa_mono ex dd)) .nil))
  ) only [↓qt_eq])
theorem ew_callPL (h : AW K cs W tA G (fun ds => P ds (rP φ ε)) ε) : EW K cs W (tCallSD (spPL K cs P) [] (WE W) tA) G φ ε := fun Wd B ad H0 H σ S Q q x =>
  h Wd B ad H0 H σ S _ (fun ds hp vs H1 S1 e1 d1 => ⟨Zs Wd B ad G, ds, _, S1.there, by rw [List.append_nil]; exact d1, hp, fun y c p a b v us H' e ha hb k d dd => by
    have S2 := S1.ext e
    exact q _ p _ H' S2 (e1.trans (.of e)) (pair_dp S1 e ha hb k d dd), fun e p d H' e2 hn hx => x e p d H' (S1.ext e2) (e1.trans (.of e2)) (S1.fresh hn).1 (less_of (S1.fresh hn).2.2 hx)⟩) x
/-! ### a pair is told, looked at, and its list cleared -/
theorem sta_both {i : Nat} {q : Addr} {vs : List V} {x : PyData} (S1 : Sta K Wd B ad H0 H1 σ (G.set i (.d x))) (S2 : Sta K (fun a => Wd a ∨ a = q) B ad H0 H σ (G.set i .un)) (e : Xb B H H1) (nb : ¬ InB B q) (hq : H q = some (.lst vs)) : Sta K (fun a => Wd a ∨ a = q) B ad H0 H1 σ (G.set i .un) :=
  S2.drawn e S1.bag fun p hp => by
    obtain ⟨ps, h1, h2, h3⟩ := S1.tab p hp
    refine ⟨ps, h1, h2, fun l cv hc => ?_⟩
    obtain ⟨c, ec, g⟩ := h3 l cv hc
    obtain ⟨g1, g2⟩ := less_some g
    refine ⟨c, ec, less_of ?_ g2⟩
    rintro ((z | z) | ⟨j, c', gj, r⟩ | z)
    · exact g1 (.inl z)
    · rw [z, e _ _ hq nb] at g2; cases g2
    · rcases get_set gj with ⟨_, _, z⟩ | ⟨z, gj⟩
      · cases z
      · exact g1 (.inr (.inl ⟨j, c', by rw [List.getElem?_set_ne z]; exact gj, r⟩))
    · exact g1 (.inr (.inr z))
theorem sw_pairClear {i : Nat} {t1 t2 : TT} {r1 r2 : TE} (hi : i < G.length) (h : AW K cs W tA G (fun ds => P ds (fun r => ∃ x c, r = .ok x c ∧ TW K cs W t1 (G.set i (.d (.tuple [x, .list c]))) (fun b => b = false) noX ∧ TW K cs W t2 (G.set i (.d (.tuple [x, .list c]))) (fun b => b = false) noX ∧ Φ (.nx (G.set i .un)))) noX) :
    SW K cs W (tSeq (tAsg (tCallSD (spPL K cs P) [] (WE W) tA) (gName i)) (tSeq (tIfS t1 (tRet r1) tNext) (tSeq (tIfS t2 (tRet r2) tNext) (tDrop (tBM0 K "list" rClear (tOp (rIx K) (tVar i) (tC (.int 1)))))))) G Φ := fun Wd B ad H0 H σ D S q =>
  h Wd B ad H0 H σ S _ (fun ds hp vs H1 S1 e1 d1 => ⟨Zs Wd B ad G, ds, _, S1.there, by rw [List.append_nil]; exact d1, hp, fun y c hA a b v us H' e ha hb k d dd => by
    obtain ⟨x, c', ez, h1, h2, hn⟩ := hA
    cases ez
    have dp := pair_dp S1 e ha hb k d dd
    have Sv := (S1.ext e).setD (i := i) dp
    obtain ⟨F1, F2, F3, F4⟩ := fl_go S1 (.of e) (S1.bag.ext e) (fun p hp => (S1.tabN hb p hp).ex e) hb k.2.2
    obtain ⟨L1, L2⟩ := F1.lend (o := .lst us) F3
    rw [fl_upd k.2.2] at L1 L2
    have Sh := L1.setU (i := i) (o := some (.ref a))
    have nb := (S1.fresh hb).2.1
    have na := (S1.fresh ha).2.1
    refine h1 Wd B ad H0 H' _ Sv _ (fun b1 eb1 H2 Sv2 x2 => ?_) xp_no
    subst eb1
    refine iteF ?_
    refine h2 Wd B ad H0 H2 _ Sv2 _ (fun b2 eb2 H3 Sv3 x3 => ?_) xp_no
    subst eb2
    refine iteF ?_
    have Sh3 := sta_both Sv3 Sh (x2.trans x3) nb k.2.2
    have ka : H3 a = some (.tup [v, .ref b]) := (x2.trans x3) _ _ k.2.1 na
    have kb : H3 b = some (.lst us) := (x2.trans x3) _ _ k.2.2 nb
    have hs : (σ.set i (some (V.ref a)))[i]? = some (some (.ref a)) := List.getElem?_set_self (by rw [S.len]; exact hi)
    refine ⟨_, hs, ?_⟩
    refine .inr (.inl ⟨a, _, 1, .ref b, rfl, rfl, st_of ka, rfl, ?_⟩)
    refine ⟨Or.inl ⟨rfl, us, sq_of kb⟩, _, us, rfl, rfl, kb, ?_⟩
    obtain ⟨Z1, Z2⟩ := Sh3.foreign (o := .lst []) (p := b) (.inr rfl) (S1.fresh hb).1 nb
    obtain ⟨Y1, Y2⟩ := Z1.back
    refine q _ hn ad _ _ Y1 fun a0 o q0 => ?_
    obtain ⟨q1, q2⟩ := less_some q0
    have nb0 : ¬ InB B a0 := fun z => q1 (.inr (.inr z))
    have w1 := e1 _ _ q2 nb0
    have ne : a0 ≠ b := fun z => by rw [z, hb] at w1; cases w1
    exact less_of (fun z => q1 (Zs.set_of (fun _ z => by cases z) z)) (by rw [upd_ne ne]; exact (x2.trans x3) _ _ (e _ _ w1) nb0), fun e hA => by obtain ⟨_, _, z, _⟩ := hA; cases z⟩) xp_no
end
end U.N

end
namespace U.N
open PySem PyProof.Rows L2 Evl
section
local macro_rules | `(tactic| walk_at "sd") => `(tactic| first | with_reducible assumption | omega | rfl | decide | assumption | exact Gd.mono (by assumption) (by first | decide | omega) | (simp only [List.length_map, List.length_append, List.length_cons, List.length_nil]; omega) | (simp; done))
local macro_rules | `(tactic| walk_at "ca") => `(tactic| first
  | ((with_reducible apply c_pull); (case h0 => walk_at "sd"); (case h1 => walk_at "sd"); intro _ _ _)
  | ((with_reducible apply c_entry); intro _ _)
  | ((with_reducible apply c_plus); (case hp => walk_at "sd"); (case hq => walk_at "sd"); (case hl => walk_at "sd"); intro _)
  | ((with_reducible apply c_times); (case hp => walk_at "sd"); (case hq => walk_at "sd"); (case hl => walk_at "sd"); intro _)
  | ((with_reducible apply c_ladd); (case hp => walk_at "sd"); (case hq => walk_at "sd"); (case hl => walk_at "sd"); intro _)
  | ((with_reducible apply c_lsub); (case hp => walk_at "sd"); (case hq => walk_at "sd"); (case hl => walk_at "sd"); intro _)
  | ((with_reducible apply c_lmul); (case hp => walk_at "sd"); (case hq => walk_at "sd"); (case hl => walk_at "sd"); intro _)
  | ((with_reducible apply c_map); (case h1 => walk_at "sd"); (case h2 => walk_at "sd"); (case l1 => walk_at "sd"); (case l2 => walk_at "sd"); intro _ _))
local macro_rules | `(tactic| walk_at "s1") => `(tactic| first
  | ((with_reducible apply x_all); (case h => exact allB_map))
  | ((with_reducible apply x_any); (case h => exact anyB_map))
  | ((with_reducible apply x_sum); (case h => exact sumI_map))
  | ((with_reducible apply ew_glob); (case h => assumption))
  | ((with_reducible apply sw_app); (case hi => rfl); (case hl => walk_at "sd"))
  | ((with_reducible apply cw_elt); (case hm => walk_at "sd"))
  | ((with_reducible apply sw_clear); (case hi => rfl))
  | ((with_reducible apply x1_rng); (case hb => walk_at "sd"))
  | ((with_reducible apply x2_rng); (case hb => walk_at "sd"); (case hc => walk_at "sd"))
  | ((with_reducible apply ew_var); (case h => rfl))
  | ((with_reducible apply ew_ixO); (case hi => rfl))
  | ((with_reducible apply ew_tupO); (case hi => rfl))
  | ((with_reducible apply ew_callB); (case hi => rfl))
  | ((with_reducible apply ew_callWB); (case hi => rfl))
  | ((with_reducible apply at0); (case h => rfl))
  | ((with_reducible apply at1); (case h => rfl))
  | ((with_reducible apply at2); (case h => rfl))
  | ((with_reducible apply xi_it); (case h => rfl))
  | ((with_reducible apply x1_it); (case h => rfl))
  | with_reducible refine ew_int ?_
  | with_reducible refine ew_str ?_
  | with_reducible refine ew_non ?_
  | with_reducible refine ew_tup1 ?_
  | with_reducible refine ew_tup2 ?_
  | with_reducible refine ew_tup3 ?_
  | with_reducible refine ew_tup4 ?_
  | with_reducible refine ew_tup ?_
  | with_reducible refine ew_lst0 ?_
  | with_reducible refine ew_lst1 ?_
  | with_reducible refine ew_lst2 ?_
  | with_reducible refine ew_lst3 ?_
  | with_reducible refine ew_lst ?_
  | with_reducible refine ew_add ?_
  | with_reducible refine ew_sub ?_
  | with_reducible refine ew_mul ?_
  | with_reducible refine ew_lt ?_
  | with_reducible refine ew_gt ?_
  | with_reducible refine ew_neg ?_
  | with_reducible refine ew_eq ?_
  | with_reducible refine ew_ne ?_
  | with_reducible refine ew_eqD ?_
  | with_reducible refine ew_isNo ?_
  | with_reducible refine ew_noNo ?_
  | with_reducible refine tw_test ?_
  | with_reducible refine tw_B ?_
  | with_reducible refine tw_yes ?_
  | with_reducible refine tw_not ?_
  | with_reducible refine tw_and ?_
  | with_reducible refine tw_or ?_
  | with_reducible refine ew_if ?_
  | with_reducible refine aw_nil ?_
  | with_reducible refine aw_cons ?_
  | with_reducible refine ew_cP ?_
  | with_reducible refine ew_c0 ?_
  | with_reducible refine ew_cW ?_
  | with_reducible refine ew_len ?_
  | with_reducible refine ew_list ?_
  | with_reducible refine ew_tuple ?_
  | with_reducible refine ew_isi ?_
  | with_reducible refine ow_none ?_
  | with_reducible refine ow_some ?_
  | with_reducible refine ew_slA ?_
  | with_reducible refine ew_catL ?_
  | with_reducible refine ew_catA ?_
  | with_reducible refine ew_lc ?_
  | with_reducible refine ew_inS ?_
  | with_reducible refine iw_list ?_
  | with_reducible refine iw_tup ?_
  | with_reducible refine iw_rng1 ?_
  | with_reducible refine iw_rng2 ?_
  | with_reducible refine iw_zipM ?_
  | with_reducible refine sq_nx ?_
  | with_reducible refine sq_rt ?_
  | with_reducible refine sq_bk ?_
  | with_reducible refine lp_nx ?_
  | with_reducible refine lp_bk ?_
  | with_reducible refine sw_next ?_
  | with_reducible refine sw_brk ?_
  | with_reducible refine sw_if ?_
  | with_reducible refine sw_ret ?_
  | with_reducible refine sw_dropX ?_
  | with_reducible refine sw_for ?_
  | with_reducible refine sw_try ?_
  | with_reducible refine gsc_nil ?_
  | with_reducible refine gsc_cons ?_
  | with_reducible refine gsw_nil ?_
  | with_reducible refine gsw_cons ?_
  | with_reducible refine rE_ok ?_
  | with_reducible refine atm1 ?_
  | with_reducible refine xi_int ?_
  | with_reducible refine xi_bool ?_
  | with_reducible refine xi_str ?_
  | with_reducible refine xi_tup ?_
  | with_reducible refine xi_list ?_
  | with_reducible refine x1_int ?_
  | with_reducible refine sc_int ?_
  | with_reducible refine sc_str ?_
  | with_reducible refine x_ol ?_
  | with_reducible refine atm1M ?_
  | with_reducible refine x_nx ?_
  | with_reducible refine ew_strI ?_
  | with_reducible refine ew_addStr ?_
  | with_reducible refine ew_joinS ?_
  | with_reducible refine ew_fmt ?_
  | with_reducible refine ew_joined ?_
  | with_reducible refine jw_cons ?_
  | with_reducible refine jw_nil ?_
  | with_reducible refine ew_ix ?_
  | with_reducible refine ew_callNW ?_
  | with_reducible refine ew_callN ?_
  | with_reducible refine ew_callN0 ?_
  | with_reducible refine gw_name ?_
  | ((with_reducible refine gc_name ?wa ?_); (case wa => simp))
  | ((with_reducible refine gc_tup ?wa ?_); (case wa => rfl))
  | ((with_reducible refine gw_tup ?wa ?_); (case wa => rfl))
  | with_reducible refine cnd_t ?_
  | with_reducible refine cnd_f ?_
  | with_reducible refine cnd_nt ?_
  | with_reducible refine cnd_nf ?_
  | walk_at "ca"
  | ((with_reducible apply zip_f); (case hx => rfl); (case hy => rfl))
  | ((with_reducible apply zip_t); (case hx => rfl); (case hy => rfl); (case hl => walk_at "sd"))
  | with_reducible refine sw_asg ?_
  | ((with_reducible apply sw_dset); (case hi => rfl))
  | ((with_reducible apply sw_setI); (case hi => rfl))
  | with_reducible refine sw_asgT ?_
  | refine gsw_cons ?_
  | refine gsc_cons ?_
  | refine gsw_nil ?_
  | refine gsc_nil ?_
  | with_reducible exact trivial)
local macro_rules | `(tactic| walk_at "w1") => `(tactic| first | walk_at "s1" | with_reducible refine sw_seqA ?_ | with_reducible refine sw_seqD ?_ | with_reducible refine sw_seqF ?_ | with_reducible refine sw_seqP ?_ | with_reducible refine sw_seqG ?_ | with_reducible refine sw_seqW ?_)
local macro_rules | `(tactic| walk_at "s") => `(tactic| repeat walk_at "s1")
local macro_rules | `(tactic| walk_at "ef") => `(tactic| first
  | with_reducible refine ef_lst0 ?_
  | with_reducible refine ef_lst1 ?_
  | with_reducible refine ef_lst2 ?_
  | with_reducible refine ef_lst3 ?_
  | with_reducible refine ef_lst ?_
  | with_reducible refine ef_lc ?_
  | with_reducible refine ef_list ?_
  | with_reducible refine ef_catL ?_)
local macro_rules | `(tactic| walk_at "wi") => `(tactic| repeat (first | walk_at "w1" | with_reducible refine sw_seq ?_))
local macro_rules | `(tactic| walk_at "w") => `(tactic| repeat walk_at "w1")
section
open PySem PyProof.Rows L2 Evl

section
variable {K : Fg} {cs : Cs} {gs : Gs} {φ : PyData → Prop} {A : Rs → Prop} {ε : Xw → Prop} {w : World}
/-! ### spots in order -/
-- slots of common_below: 0 spots, 1 found, 2 spot, 3 above, 4 below
-- slots of whole_row: 0 spot, 1 common, 2 above, 3 below
-- slots of rising: 0 spots, 1 common, 2 by_worth, 3 spot, 4 key
/-! what a dict by a comprehension holds -/
section
variable {κ β γ : Type} [DecidableEq κ]
end
end


end
section
open PySem PyProof.Rows L2 Evl

section
variable {K : Fg} {cs : Cs} {gs : Gs} {φ : PyData → Prop} {A : Rs → Prop} {ε : Xw → Prop} {w : World}
/-! ### the law's own order -/
-- slots of _law_below: 0 _law_spots_here, 1 _law_found, 2 _law_spot_here, 3 _law_one
-- slots of _law_key: 0 _law_spots_here, 1 _law_below_here, 2 _law_found, 3 _law_spot_here, 4 _law_one
-- slots of _law_rising: 0 _law_spots_here, 1 _law_below_here, 2 _law_keys, 3 _law_found, 4 _law_key_here, 5 _law_spot_here, 6 _law_one
end


end
section
open PySem PyProof.Rows L2 Evl U.Hull

section
variable {K : Fg} {cs : Cs} {gs : Gs} {φ : PyData → Prop} {A : Rs → Prop} {ε : Xw → Prop} {w : World}
/-! ### corners round -/
-- slots of hull_side: 0 spots, 1 found, 2 spot
end


end
section
open PySem PyProof.Rows L2 Evl U.Hull

section
variable {K : Fg} {cs : Cs} {gs : Gs} {φ : PyData → Prop} {A : Rs → Prop} {ε : Xw → Prop} {w : World}
/-- spots of one room, of bounded numbers and bounded many -/
structure SpR (a r : Nat) (ss : List Spot) : Prop where
  hr : r = 1 ∨ r = 2
  gd : ∀ s ∈ ss, Gds a s ∧ s.length = r
  ne : ss ≠ []
  ha : a ≤ 900
  hl : ss.length ≤ 10000
  hb : ∃ N, N ≤ 6900 ∧ CbB a N ss
-- slots of corners_round: 0 spots, 1 row, 2 below, 3 above
end


end
section
open PySem PyProof.Rows L2 Evl U.Hull

section
variable {K : Fg} {cs : Cs} {gs : Gs} {φ : PyData → Prop} {A : Rs → Prop} {ε : Xw → Prop} {w : World}
/-! ### the law's own body -/
noncomputable instance (h r q : Pt) : Decidable (Btw h r q) := by unfold Btw; exact inferInstance
-- slots of _law_between: 0 _law_one, 1 _law_two, 2 _law_spot_here, 3 _law_at
/-! what follows a corner -/
noncomputable instance (P : List Pt) (h q : Pt) : Decidable (Nx P h q) := by unfold Nx; exact inferInstance
-- slots of _law_next: 0 _law_row, 1 _law_here, 2 _law_spot_here, 3 _law_one
theorem eqv_frs' (s t : Spot) : PyData.eqv (frs s) (frs t) = decide (s = t) := eqv_frs s t
end


end
section
open PySem PyProof.Rows L2 Evl U.Hull

section
variable {K : Fg} {cs : Cs} {gs : Gs} {φ : PyData → Prop} {A : Rs → Prop} {ε : Xw → Prop} {w : World}
-- slots of _law_body: 0 _law_spots_here, 1 _law_row, 2 _law_found, 3 _law_step, 4 _law_spot_here
end


end
section
open PySem PyProof.Rows L2 Evl U.Hull

section
variable {K : Fg} {cs : Cs} {gs : Gs} {φ : PyData → Prop} {A : Rs → Prop} {ε : Xw → Prop} {w : World}
/-! ### drawn rooms and spots -/
-- slots of _law_room: 0 _law_bag_here
/-- spots of a room -/
noncomputable def Sps (a r : Nat) (ss : List Spot) : Prop := ∀ s ∈ ss, Gds a s ∧ s.length = r
theorem atI_in {α : Type} {f : α → PyData} {xs : List α} {j : Int} (h0 : 0 ≤ j) (h1 : j < xs.length) : ∃ s ∈ xs, atI (xs.map f) j = some (f s) := by
  obtain ⟨k, rfl⟩ := Int.eq_ofNat_of_zero_le h0
  have hk : k < xs.length := by omega
  exact ⟨xs[k], List.getElem_mem _, atI_nat (by rw [List.getElem?_map, List.getElem?_eq_getElem hk]; rfl)⟩
-- slots of _law_spots: 0 _law_bag_here, 1 _law_rank, 2 _law_limit, 3 _law_many, 4 _law_found, 5 _law_kind, 6 _law_one, 7 _law_two, 8 _law_at
-- slots of _law_wide_spots: 0 _law_bag_here, 1 _law_rank, 2 _law_limit, 3 _law_found, 4 _law_k, 5 _law_at
end


end
section
open PySem PyProof.Rows L2 Evl U.Hull

section
variable {K : Fg} {cs : Cs} {gs : Gs} {φ : PyData → Prop} {A : Rs → Prop} {ε : Xw → Prop} {w : World}
/-! ### sides, land -/
noncomputable abbrev bod (bs : List Spot) : PyData := .tuple (bs.map frs)
-- slots of sides_of: 0 body, 1 at, 2 corner
-- slots of size_of: 0 body
-- slots of land_of: 0 body, 1 found, 2 x, 3 y, 4 right, 5 up
end


end
section
open PySem PyProof.Rows L2 Evl U.Hull

section
variable {K : Fg} {cs : Cs} {gs : Gs} {φ : PyData → Prop} {A : Rs → Prop} {ε : Xw → Prop} {w : World}
-- slots of _law_three_land: 0 _law_one, 1 _law_two, 2 _law_three, 3 _law_first, 4 _law_second, 5 _law_third
/-! what is needed of bodies -/
end


end
section
open PySem PyProof.Rows L2 Evl U.Hull

section
variable {K : Fg} {cs : Cs} {gs : Gs} {φ : PyData → Prop} {A : Rs → Prop} {ε : Xw → Prop} {w : World}
/-! ### bodies in order, faces -/
noncomputable abbrev Body := List Spot
-- slots of in_order: 0 bodies, 1 common, 2 by_worth, 3 body, 4 key, 5 corner, 6 number
end


end
section
open PySem PyProof.Rows L2 Evl U.Hull

section
variable {K : Fg} {cs : Cs} {gs : Gs} {φ : PyData → Prop} {A : Rs → Prop} {ε : Xw → Prop} {w : World}
/-! ### == of data by a type -/
theorem eqv_map {α : Type} [DecidableEq α] {enc : α → PyData} (h : ∀ a b, PyData.eqv (enc a) (enc b) = decide (a = b)) : ∀ xs ys : List α, PyData.eqvAll (xs.map enc) (ys.map enc) = decide (xs = ys)
  | [], [] => rfl
  | [], _ :: _ => rfl
  | _ :: _, [] => rfl
  | x :: xs, y :: ys => by
    show (PyData.eqv (enc x) (enc y) && PyData.eqvAll (xs.map enc) (ys.map enc)) = _
    rw [h, eqv_map h xs ys]
    by_cases h1 : x = y <;> by_cases h2 : xs = ys <;> simp [h1, h2]
theorem eqv_bod (b c : Body) : PyData.eqv (bod b) (bod c) = decide (b = c) := eqv_map eqv_frs' b c
/-! ### keys with places, sorted -/
/-! ### the law's own order of bodies -/
noncomputable def bits (a : Nat) (bs : List Body) : Nat := (bs.map fun b => 1 + b.length * (2 * a)).sum
-- slots of _law_in_order: 0 _law_bodies, 1 _law_limit, 2 _law_body_here, 3 _law_keys, 4 _law_found, 5 _law_key_here, 6 _law_at
end


end
section
open PySem PyProof.Rows L2 Evl U.Hull

section
variable {K : Fg} {cs : Cs} {gs : Gs} {φ : PyData → Prop} {A : Rs → Prop} {ε : Xw → Prop} {w : World}
/-! ### faces -/
-- slots of faces: 0 body, 1 found, 2 corner, 3 side
end


end
section
open PySem PyProof.Rows L2 Evl U.Hull

section
variable {K : Fg} {cs : Cs} {gs : Gs} {φ : PyData → Prop} {A : Rs → Prop} {ε : Xw → Prop} {w : World} {W : WX}
/-! ### the body of some spots -/
-- slots of body_of: 0 spots, 1 room, 2 first, 3 rest, 4 spot
/-! ### lots -/
-- slots of is_small: 0 number, 1 limit
-- slots of bounded: 0 lot, 1 weight, 2 body, 3 corner, 4 one, 5 number
end


end
section
open PySem PyProof.Rows L2 Evl U.Hull

section
variable {K : Fg} {cs : Cs} {gs : Gs} {φ : PyData → Prop} {A : Rs → Prop} {ε : Xw → Prop} {w : World} {W : WX}
/-! ### weights gathered -/
-- slots of gathered: 0 rows, 1 room, 2 weights, 3 left, 4 weight, 5 body
end


end
section
open PySem PyProof.Rows L2 Evl U.Hull

section
variable {K : Fg} {cs : Cs} {gs : Gs} {φ : PyData → Prop} {A : Rs → Prop} {ε : Xw → Prop} {w : World} {W : WX}
-- slots of settled_lot: 0 rows, 1 room
/-! ### lots of rows of spots -/
/-- a row: its weight, its spots, told as a list or a tuple -/
structure RowS where
  w : Int
  t : Bool
  ss : List Spot
-- slots of lot_of: 0 rows, 1 room, 2 found, 3 row, 4 body
end


end
section
open PySem PyProof.Rows L2 Evl U.Hull

section
variable {K : Fg} {cs : Cs} {gs : Gs} {φ : PyData → Prop} {A : Rs → Prop} {ε : Xw → Prop} {w : World} {W : WX}
/-! ### the law's own lot -/
-- slots of _law_lot: 0 _law_rows_here, 1 _law_rank, 2 _law_bodies, 3 _law_weights, 4 _law_corners, 5 _law_body_here, 6 _law_below_here, 7 _law_keys, 8 _law_ranked, 9 _law_weight, 10 _law_spots_here, 11 _law_at, 12 _law_key_here
theorem ixN_nat {n j : Nat} (h : j < n) : ixN n (j : Int) = some j := by
  unfold ixN
  rw [if_pos (by omega), if_pos (by omega), Int.toNat_natCast]
end


end
section
open PySem PyProof.Rows L2 Evl U.Hull

section
variable {K : Fg} {cs : Cs} {gs : Gs} {φ : PyData → Prop} {A : Rs → Prop} {ε : Xw → Prop} {w : World} {W : WX}
/-! ### drawn rows -/
structure DrR (a r C : Nat) (rs : List RowS) : Prop where
  wl : ∀ p ∈ rs, -7 ≤ p.w ∧ p.w ≤ 7
  tf : ∀ p ∈ rs, p.t = false
  sp : ∀ p ∈ rs, Sps a r p.ss ∧ 1 ≤ p.ss.length ∧ p.ss.length ≤ C
-- slots of _law_rows: 0 _law_bag_here, 1 _law_rank, 2 _law_limit, 3 _law_corners, 4 _law_found, 5 _law_at, 6 _law_weight, 7 _law_row
end


end
section
open PySem PyProof.Rows L2 Evl U.Hull

section
variable {K : Fg} {cs : Cs} {gs : Gs} {φ : PyData → Prop} {A : Rs → Prop} {ε : Xw → Prop} {w : World} {W : WX}
/-! ### lots in plain -/
/-! ### two lots -/
-- slots of same_room: 0 one, 1 other
-- slots of added: 0 one, 1 other
-- slots of scaled: 0 lot, 1 number, 2 weight, 3 body
-- slots of told23: 0 _law_one, 1 _law_other, 2 why
/-! ### drawn lots -/
end


end
section
open PySem PyProof.Rows L2 Evl U.Hull

section
variable {K : Fg} {cs : Cs} {gs : Gs} {φ : PyData → Prop} {A : Rs → Prop} {ε : Xw → Prop} {w : World} {W : WX}
/-! ### what a lot sums to -/
-- slots of tally: 0 lot, 1 weight, 2 body
-- slots of land: 0 lot, 1 found, 2 weight, 3 body
-- slots of _law_size: 0 _law_spots_here, 1 _law_body_here, 2 _law_total, 3 _law_at
end


end
section
open PySem PyProof.Rows L2 Evl U.Hull

section
variable {K : Fg} {cs : Cs} {gs : Gs} {φ : PyData → Prop} {A : Rs → Prop} {ε : Xw → Prop} {w : World} {W : WX}
/-! ### lots turned -/
-- slots of faced: 0 rows, 1 found, 2 weight, 3 body, 4 face
-- slots of turned: 0 lot
end


end
section
open U.Hull
/-! ### faces of faces -/
noncomputable def atS (b : Body) (i : Nat) : Spot := (b[i]?).getD []
theorem at_inj {b : Body} (nd : b.Nodup) {i j : Nat} (hi : i < b.length) (hj : j < b.length) (e : atS b i = atS b j) : i = j := qt_of (by simp (disch := with_unfolding_all
  unfold atS at e
  rw [List.getElem?_eq_getElem hi, List.getElem?_eq_getElem hj] at e
  have e : b[i] = b[j] := by simpa using e
  rcases Nat.lt_trichotomy i j with h | h | h
  · exact absurd e (List.pairwise_iff_getElem.mp nd i j hi hj h)
  · exact h
  · exact absurd e.symm (List.pairwise_iff_getElem.mp nd j i hj hi h)
  ) only [↓qt_eq])
theorem nx_lt {n i : Nat} (h : i < n) : (i + 1) % n < n := Nat.mod_lt _ (by omega)
theorem nx_cases {n i : Nat} (h : i < n) : (i + 1 < n ∧ (i + 1) % n = i + 1) ∨ (i + 1 = n ∧ (i + 1) % n = 0) := by
  by_cases e : i + 1 < n
  · exact .inl ⟨e, Nat.mod_eq_of_lt e⟩
  · have : i + 1 = n := by omega
    exact .inr ⟨this, by rw [this, Nat.mod_self]⟩
theorem at_ne {b : Body} (nd : b.Nodup) (h : 3 ≤ b.length) {i : Nat} (hi : i < b.length) : atS b i ≠ atS b ((i + 1) % b.length) := fun e => by
  have := at_inj nd hi (nx_lt hi) e
  rcases nx_cases hi with ⟨h1, h2⟩ | ⟨h1, h2⟩ <;> omega
end
section
open PySem PyProof.Rows L2 Evl U.Hull

section
variable {K : Fg} {cs : Cs} {gs : Gs} {φ : PyData → Prop} {A : Rs → Prop} {ε : Xw → Prop} {w : World} {W : WX}
/-! ### lots turned: calls -/
end


end
section
open U.Hull
/-! ### what a body holds, in plain -/
/-! ### the law's own way -/
noncomputable def T3 (p q u s : Pt) : Prop := tn p q u ≠ 0 ∧ ((0 ≤ tn p q s ∧ 0 ≤ tn q u s ∧ 0 ≤ tn u p s) ∨ (tn p q s ≤ 0 ∧ tn q u s ≤ 0 ∧ tn u p s ≤ 0))
noncomputable instance (p q u s : Pt) : Decidable (T3 p q u s) := by unfold T3; exact inferInstance
end
section
open PySem PyProof.Rows L2 Evl U.Hull

section
variable {K : Fg} {cs : Cs} {gs : Gs} {φ : PyData → Prop} {A : Rs → Prop} {ε : Xw → Prop} {w : World} {W : WX}
/-! ### what a body holds -/
noncomputable def tf (p : Prop) : Bool := @decide p (Classical.propDecidable p)
-- slots of spot_order: 0 one, 1 other, 2 first, 3 second, 4 found
-- slots of between: 0 spot, 1 low, 2 high
-- slots of holds: 0 body, 1 spot, 2 rim, 3 least, 4 start, 5 end
end


end
section
open PySem PyProof.Rows L2 Evl U.Hull

section
variable {K : Fg} {cs : Cs} {gs : Gs} {φ : PyData → Prop} {A : Rs → Prop} {ε : Xw → Prop} {w : World} {W : WX}
/-! ### the law's own way of telling what is within -/
-- slots of _law_in_three: 0 _law_one, 1 _law_two, 2 _law_three, 3 _law_spot_here, 4 _law_sides
-- slots of _law_in: 0 _law_spots_here, 1 _law_spot_here, 2 _law_at, 3 _law_to, 4 _law_k
theorem rng_map (k : Nat) : rngD 0 k = (List.range k).map fun i : Nat => PyData.int i := qt_of (by simp (disch := with_unfolding_all
  apply List.ext_getElem?
  intro i
  rw [List.getElem?_map]
  by_cases h : i < k
  · rw [List.getElem?_eq_getElem (by rw [rngD_len]; exact h), List.getElem?_range h]
    unfold rngD
    simp
  · rw [List.getElem?_eq_none (by rw [rngD_len]; omega), List.getElem?_eq_none (by rw [List.length_range]; omega)]
    rfl
  ) only [↓qt_eq])
end


end
section
open PySem PyProof.Rows L2 Evl U.Hull

section
variable {K : Fg} {cs : Cs} {gs : Gs} {φ : PyData → Prop} {A : Rs → Prop} {ε : Xw → Prop} {w : World} {W : WX}
/-! ### weights at spots -/
-- slots of weight_at: 0 lot, 1 spot, 2 weight, 3 body
-- slots of told21: 0 _law_lot, 1 _law_spot_here, 2 why
-- slots of _law_weight: 0 _law_rows_here, 1 _law_spot_here, 2 _law_weight_here, 3 _law_spots_here
/-! ### spots looked at -/
-- slots of _law_all_spots: 0 _law_rows_here, 1 _law_found, 2 _law_weight_here, 3 _law_spots_here
-- slots of _law_look: 0 _law_bag_here, 1 _law_spots_here, 2 _law_rank, 3 _law_one, 4 _law_two
-- slots of _law_some_spots: 0 _law_bag_here, 1 _law_rows_here, 2 _law_rank, 3 _law_many, 4 _law_spots_here, 5 _law_at
end


end
section
open PySem PyProof.Rows L2 Evl

section
variable {K : Fg} {cs : Cs} {gs : Gs} {φ : PyData → Prop} {A : Rs → Prop} {ε : Xw → Prop}
/-! ### maps that lead -/
noncomputable def P_roomFrom : Pr := fun ds A => ∃ (r : List Fr) (m : List (List Fr)), ds = [mp (r :: m)] ∧ A (.ok (.int ((r.length : Int) - 1)))
noncomputable def t_room_from (K : Fg) : TS := (tRet (tOp rSubI (tCB (rLenQ K) (tCons (tOp (rIx K) (tVar 0) (tC (V.int 0))) tNil)) (tC (V.int 1))))
-- slots of room_from: 0 way
theorem ln_room_from : ∀ ds A, P_roomFrom ds A → ds.length = 1 := fun ds A h => by obtain ⟨_, _, rfl, _⟩ := h; rfl
theorem rd_room_from {ds A} (h : P_roomFrom ds A) : SW K cs W0 (t_room_from K) (frame 1 ds) (rts0 A) := by
  obtain ⟨r, m, rfl, h⟩ := h
  unfold t_room_from
  walk_at "w"
  show A _
  rw [List.length_map]
  exact h
/-- last + steps * ps -/
noncomputable def sumF : Fr → List Fr → List Fr → Fr
  | acc, s :: ss, p :: ps => sumF (addF acc (mulF s p)) ss ps
  | acc, _, _ => acc
theorem sumF_gd {a b : Nat} : ∀ {ss ps : List Fr} {n : Nat} {acc : Fr}, Gds a ss → Gds b ps → Gd n acc → Gd (n + ss.length * (a + b + 1)) (sumF acc ss ps)
  | [], _, n, acc, _, _, h => by simpa [sumF] using h
  | s :: ss, [], n, acc, _, _, h => by
    show Gd _ acc
    exact h.mono (Nat.le_add_right _ _)
  | s :: ss, p :: ps, n, acc, hs, hp, h => by
    have h1 := h.add ((hs s (List.mem_cons_self ..)).mul (hp p (List.mem_cons_self ..)))
    have h2 := sumF_gd (ss := ss) (ps := ps) (fun x hx => hs x (List.mem_cons_of_mem _ hx)) (fun x hx => hp x (List.mem_cons_of_mem _ hx)) h1
    refine h2.mono ?_
    rw [List.length_cons, Nat.succ_mul]
    omega
noncomputable def foldS (acc : Fr) (ps : List (Fr × Fr)) : Fr := ps.foldl (fun t p => addF t (mulF p.1 p.2)) acc
theorem foldS_sum : ∀ (ss ps : List Fr) (acc : Fr), foldS acc (ss.zip ps) = sumF acc ss ps
  | [], _, _ => by simp [foldS, sumF]
  | s :: ss, [], _ => by simp [foldS, sumF]
  | s :: ss, p :: ps, acc => foldS_sum ss ps _
theorem foldS_gd {a b : Nat} : ∀ {ps : List (Fr × Fr)} {n : Nat} {acc : Fr}, (∀ p ∈ ps, Gd a p.1 ∧ Gd b p.2) → Gd n acc → Gd (n + ps.length * (a + b + 1)) (foldS acc ps)
  | [], n, acc, _, h => by simpa [foldS] using h
  | p :: ps, n, acc, hp, h => by
    have h0 := hp p (List.mem_cons_self ..)
    have h1 := h.add (h0.1.mul h0.2)
    have h2 := foldS_gd (ps := ps) (fun x hx => hp x (List.mem_cons_of_mem _ hx)) h1
    refine h2.mono ?_
    rw [List.length_cons, Nat.succ_mul]
    omega
theorem foldS_snoc {acc : Fr} {ps : List (Fr × Fr)} {p : Fr × Fr} : foldS acc (ps ++ [p]) = addF (foldS acc ps) (mulF p.1 p.2) := by simp [foldS]
theorem gw_starF {G : Gam} {γ : Gam → Prop} {i j : Nat} {ss : List Fr} {x : Fr} (hij : i ≠ j) (hi : i < G.length) (hl : ss.length ≤ 10000) (h : γ ((G.set i (.d (.list (ss.map fr)))).set j (.d (fr x)))) : GW K (gStar K (gCons (gName i) (gCons (gName j) gNil))) G (frs (ss ++ [x])) γ := by
  have e : frs (ss ++ [x]) = .tuple (ss.map fr ++ [fr x]) := by unfold frs; rw [List.map_append]; rfl
  rw [e]
  exact gw_starD hij hi (by rw [List.length_map]; exact hl) h
-- slots of summed: 0 row, 1 spot, 2 last, 3 step, 4 one, 5 steps
noncomputable def rowF (r ps : List Fr) : Fr := sumF (r.getLastD (0, 1)) r.dropLast ps
noncomputable def ledF (m : List (List Fr)) (ps : List Fr) : List Fr := m.map fun r => rowF r ps
theorem row_split {r : List Fr} {n : Nat} (h : r.length = n + 1) : ∃ ss x, r = ss ++ [x] ∧ ss.length = n := by
  have hne : r ≠ [] := by intro e; rw [e] at h; simp at h
  exact ⟨r.dropLast, r.getLast hne, (List.dropLast_concat_getLast hne).symm, by simp [h]⟩
theorem rowF_app {ss ps : List Fr} {x : Fr} : rowF (ss ++ [x]) ps = sumF x ss ps := by
  unfold rowF
  rw [List.dropLast_concat]
  simp
theorem rowF_gd {a b st : Nat} {r ps : List Fr} (hr : r.length = st + 1) (ha : Gds a r) (hb : Gds b ps) : Gd (a + st * (a + b + 1)) (rowF r ps) := by
  obtain ⟨ss, x, rfl, hl⟩ := row_split hr
  rw [rowF_app, ← hl]
  exact sumF_gd (fun p hp => ha p (by simp [hp])) hb (ha x (by simp))
noncomputable abbrev xOther : Xw := xWd "OtherRoom"
-- slots of led: 0 way, 1 spot, 2 row
/-! ### the law's own -/
noncomputable def P_lled : Pr := fun ds A => ∃ (a b n st : Nat) (m : List (List Fr)) (ps : List Fr), ds = [mp m, frs ps] ∧ Mp a n st m ∧ n ≤ 100 ∧ (a + st * (a + b + 1) ≤ 1900 ∧ st ≤ 100) ∧ Gds b ps ∧ ps.length = st ∧ A (.ok (frs (ledF m ps)))
noncomputable def t__law_led (K : Fg) : TS := (tSeq (tAsg (tLst tNil) (gName 2))
  (tSeq (tFor (iTup K (tVar 0)) (gName 3) (tSeq (tAsg (tOp (rIx K) (tVar 3) (tUn rNegI (tC (V.int 1)))) (gName 4))
  (tSeq (tFor (iRng1 (tCons (tCB (rLenQ K) (tCons (tVar 1) tNil)) tNil)) (gName 5) (tAsg (tCall (spP K P_add) [] E0 (tCons (tVar 4) (tCons (tCall (spP K P_lmul) [] E0 (tCons (tOp (rIx K) (tVar 3) (tVar 5)) (tCons (tOp (rIx K) (tVar 1) (tVar 5)) tNil))) tNil))) (gName 4)))
  (tDrop (tBM K "list" rAppend (tVar 2) (tCons (tVar 4) tNil))))))
  (tRet (tCB (rTupQ K) (tCons (tVar 2) tNil)))))
-- slots of _law_led: 0 _law_kind, 1 _law_spot_here, 2 _law_found, 3 _law_row, 4 _law_total, 5 _law_at
theorem ln__law_led : ∀ ds A, P_lled ds A → ds.length = 2 := fun ds A h => by obtain ⟨_, _, _, _, _, _, rfl, _⟩ := h; rfl
theorem rd__law_led {ds A} (h : P_lled ds A) : SW K cs W0 (t__law_led K) (frame 6 ds) (rts0 A) := qt_of (by simp (disch := with_unfolding_all
  obtain ⟨a, b, n, st, m, ps, rfl, M, hn2, hf, hb, hp, h⟩ := h
  unfold t__law_led
  refine sw_seq (sw_asgF ?_)
  walk_at "ef"
  walk_at "w"
  refine forP (fun pre G => ∃ e3 e4 e5, G = [.d (mp m), .d (frs ps), .ow (ol ((ledF pre ps).map fr)), e3, e4, e5]) ⟨.un, .un, .un, rfl⟩ ?_ ?_
  · rintro pre x post _ e ⟨e3, e4, e5, rfl⟩
    obtain ⟨hx1, hx2⟩ := M.row x (by rw [e]; simp)
    obtain ⟨ss, y, rfl, hl⟩ := row_split hx1
    have hpl : (List.map fr ps).length = st := by simp [hp]
    walk_at "w"
    have hn : ((List.map fr ps).length : Int).toNat = st := by simp [hp]
    have hz : ∀ i, i ≤ st → i * (a + b + 1) ≤ st * (a + b + 1) := fun i hi => Nat.mul_le_mul_right _ hi
    rw [hn]
    refine forN (fun i G => ∃ e5, G = [.d (mp m), .d (frs ps), .ow (ol ((ledF pre ps).map fr)), .d (frs (ss ++ [y])), .d (fr (foldS y ((ss.zip ps).take i))), e5]) ⟨_, rfl⟩ ?_ ?_
    · rintro i _ hi ⟨e5, rfl⟩
      have hs : ss[i]? = some ss[i] := List.getElem?_eq_getElem (by omega)
      have hs2 : (ss ++ [y])[i]? = some ss[i] := by rw [List.getElem?_append_left (by omega), hs]
      have hq : ps[i]? = some ps[i] := List.getElem?_eq_getElem (by omega)
      have g1 : Gd a ss[i] := hx2 _ (by simp)
      have g2 : Gd b ps[i] := hb _ (by simp)
      have g3 : Gd (a + ((ss.zip ps).take i).length * (a + b + 1)) (foldS y ((ss.zip ps).take i)) := foldS_gd (fun p hp => ⟨hx2 _ (by simp [(List.of_mem_zip (List.mem_of_mem_take hp)).1]), hb _ (List.of_mem_zip (List.mem_of_mem_take hp)).2⟩) (hx2 y (by simp))
      have hz1 := hz i (by omega)
      have hz2 := hz 1 (by omega)
      have hlt : ((ss.zip ps).take i).length = i := by simp; omega
      rw [hlt] at g3
      walk_at "w"
      refine atM hs2 ?_
      walk_at "w"
      refine atM hq ?_
      walk_at "w"
      have e : (ss.zip ps).take (i + 1) = (ss.zip ps).take i ++ [(ss[i], ps[i])] := by
        rw [List.take_succ, (List.getElem?_zip_eq_some (z := (ss[i], ps[i]))).mpr ⟨hs, hq⟩]
        rfl
      rw [e, foldS_snoc]
      exact ⟨_, rfl⟩
    · rintro _ ⟨e5, rfl⟩
      walk_at "w"
      refine sw_app rfl (by simp [ledF]; have := congrArg List.length e; simp at this; have := M.len; omega) ?_
      walk_at "w"
      have e2 : (ledF (pre ++ [ss ++ [y]]) ps).map fr = (ledF pre ps).map fr ++ [fr (sumF y ss ps)] := by simp [ledF, rowF_app]
      rw [e2, ← foldS_sum, List.take_of_length_le (by simp; omega)]
      exact ⟨_, _, _, rfl⟩
  · rintro _ ⟨e3, e4, e5, rfl⟩
    walk_at "w"
    exact h
  ) only [↓qt_eq])
theorem c_lled {a b n st : Nat} {m : List (List Fr)} {ps : List Fr} (M : Mp a n st m) (hn2 : n ≤ 100) (hf : a + st * (a + b + 1) ≤ 1900 ∧ st ≤ 100) (hb : Gds b ps) (hp : ps.length = st) (h : A (.ok (frs (ledF m ps)))) : P_lled [mp m, frs ps] A :=
  ⟨a, b, n, st, m, ps, rfl, M, hn2, hf, hb, hp, h⟩
-- slots of told16: 0 _law_map_rows, 1 _law_spot_here, 2 why
end


end
section
open PySem PyProof.Rows L2 Evl U.Hull

section
variable {K : Fg} {cs : Cs} {gs : Gs} {φ : PyData → Prop} {A : Rs → Prop} {ε : Xw → Prop} {w : World} {W : WX}
/-! ### bodies carried -/
noncomputable def linR (r : List Fr) (p : Pt) : Rat := match r with
  | [k, l] => val l + val k * p.x
  | [k, j, l] => val l + val k * p.x + val j * p.y
  | _ => 0
noncomputable def mapP (m : List (List Fr)) (p : Pt) : Pt := match m with
  | [r] => ⟨linR r p, 0⟩
  | [r, r'] => ⟨linR r p, linR r' p⟩
  | _ => ⟨0, 0⟩
theorem rowF_val {a b st : Nat} {r ps : List Fr} (hst : st = 1 ∨ st = 2) (hr : r.length = st + 1) (gr : Gds a r) (hp : ps.length = st) (gp : Gds b ps) : val (rowF r ps) = linR r (pt ps) := qt_of (by simp (disch := with_unfolding_all
  rcases hst with rfl | rfl
  · match r, hr, ps, hp with
    | [k, l], _, [x], _ =>
      have gk := gr k (by simp)
      have gl := gr l (by simp)
      have gx := gp x (by simp)
      show val (addF l (mulF k x)) = _
      rw [val_add gl (gk.mul gx), val_mul gk gx]
      rfl
  · match r, hr, ps, hp with
    | [k, j, l], _, [x, y], _ =>
      have gk := gr k (by simp)
      have gj := gr j (by simp)
      have gl := gr l (by simp)
      have gx := gp x (by simp)
      have gy := gp y (by simp)
      show val (addF (addF l (mulF k x)) (mulF j y)) = _
      rw [val_add (gl.add (gk.mul gx)) (gj.mul gy), val_add gl (gk.mul gx), val_mul gk gx, val_mul gj gy]
      rfl
  ) only [↓qt_eq])
theorem led_pt {a b n st : Nat} {m : List (List Fr)} {ps : List Fr} (M : Mp a n st m) (hn : n = 1 ∨ n = 2) (hst : st = 1 ∨ st = 2) (hp : ps.length = st) (gp : Gds b ps) : pt (ledF m ps) = mapP m (pt ps) := qt_of (by simp (disch := with_unfolding_all
  have hl := M.len
  have hrow := M.row
  rcases hn with rfl | rfl
  · match m, hl, hrow with
    | [r], _, hrow =>
      have h := hrow r (by simp)
      show Pt.mk (val (rowF r ps)) 0 = _
      rw [rowF_val hst h.1 h.2 hp gp]
      rfl
  · match m, hl, hrow with
    | [r, r'], _, hrow =>
      have h := hrow r (by simp)
      have h' := hrow r' (by simp)
      show Pt.mk (val (rowF r ps)) (val (rowF r' ps)) = _
      rw [rowF_val hst h.1 h.2 hp gp, rowF_val hst h'.1 h'.2 hp gp]
      rfl
  ) only [↓qt_eq])
theorem ledF_gd {a b n st : Nat} {m : List (List Fr)} {ps : List Fr} (M : Mp a n st m) (gp : Gds b ps) : Gds (a + st * (a + b + 1)) (ledF m ps) ∧ (ledF m ps).length = n := by
  refine ⟨fun x hx => ?_, by unfold ledF; rw [List.length_map, M.len]⟩
  obtain ⟨r, hr, rfl⟩ := List.mem_map.mp hx
  obtain ⟨l1, g1⟩ := M.row r hr
  exact rowF_gd l1 g1 gp
-- slots of carried: 0 lot, 1 way, 2 rows, 3 weight, 4 body, 5 corner
-- slots of _law_carried: 0 _law_rows_here, 1 _law_table, 2 _law_weight, 3 _law_spots_here, 4 _law_spot_here
-- slots of told25: 0 _law_lot_here, 1 _law_table, 2 why
end


end
section
open PySem PyProof.Rows L2 Evl U.Hull

section
variable {K : Fg} {cs : Cs} {gs : Gs} {φ : PyData → Prop} {A : Rs → Prop} {ε : Xw → Prop} {w : World} {W : WX}
/-! ### bodies laid -/
-- slots of sum_of: 0 spot, 1 other, 2 one, 3 two
-- slots of laid_bodies: 0 one, 1 other, 2 corner, 3 beside
-- slots of laid: 0 one, 1 other, 2 room, 3 rows, 4 weight, 5 body, 6 times, 7 beside
-- slots of told26: 0 _law_one, 1 _law_other, 2 why
-- slots of _law_sums: 0 _law_spots_here, 1 _law_others, 2 _law_found, 3 _law_spot_here, 4 _law_one, 5 _law_at
-- slots of _law_laid: 0 _law_rows_here, 1 _law_others, 2 _law_found, 3 _law_weight, 4 _law_spots_here, 5 _law_beside, 6 _law_more
/-! ### lots laid, in plain -/
section
variable {r : Nat} {rs qs : List RowS} (hr : r = 1 ∨ r = 2) (h : DrR 14 r 4 rs) (k : DrR 14 r 4 qs) (l1 : rs.length ≤ 4) (l2 : qs.length ≤ 4)
include hr h l1
include k l2
end
end


end
section
open PySem PyProof.Rows L2 Evl U.Hull

section
variable {K : Fg} {cs : Cs} {gs : Gs} {φ : PyData → Prop} {A : Rs → Prop} {ε : Xw → Prop} {w : World} {W : WX}
/-! ### rows with their bounds -/
/-! ### laying in any order -/
end


end
section
open PySem PyProof.Rows L2 Evl U.Hull

section
variable {K : Fg} {cs : Cs} {gs : Gs} {φ : PyData → Prop} {A : Rs → Prop} {ε : Xw → Prop} {w : World} {W : WX}
-- slots of _law_threes: 0 _law_bag_here, 1 _law_rank, 2 _law_limit, 3 _law_found, 4 _law_at, 5 _law_spots, 6 _law_corner
/-! ### straight maps -/
end


end
section
open PySem PyProof.Rows L2 Evl U.Hull

section
variable {K : Fg} {cs : Cs} {gs : Gs} {φ : PyData → Prop} {A : Rs → Prop} {ε : Xw → Prop} {w : World} {W : WX}
/-! ### true bounds: D times the worth is whole, the worth lies from -V to V -/
structure LV (D V : Nat) (f : Fr) : Prop where
  wh : ∃ z : Int, (D : Rat) * val f = (z : Rat)
  lo : -(V : Rat) ≤ val f
  hi : val f ≤ (V : Rat)
-- slots of lspotsL: 0 _law_bag_here, 1 _law_rank, 2 _law_limit, 3 _law_many, 4 _law_found, 5 _law_kind, 6 _law_one, 7 _law_two, 8 _law_at
-- slots of lrowsL: 0 _law_bag_here, 1 _law_rank, 2 _law_limit, 3 _law_corners, 4 _law_found, 5 _law_at, 6 _law_weight, 7 _law_row
end


end
section
open PySem PyProof.Rows L2 Evl U.Hull

section
variable {K : Fg} {cs : Cs} {gs : Gs} {φ : PyData → Prop} {A : Rs → Prop} {ε : Xw → Prop} {w : World} {W : WX}
theorem len2 {α : Type} {l : List α} (h : l.length = 2) : ∃ a b, l = [a, b] := match l, h with | [a, b], _ => ⟨a, b, rfl⟩
theorem len3 {α : Type} {l : List α} (h : l.length = 3) : ∃ a b c, l = [a, b, c] := match l, h with | [a, b, c], _ => ⟨a, b, c, rfl⟩
/-! ### a map behind a map -/
noncomputable def mkStep (made : List Fr) (p : Fr × List Fr) : List Fr := List.zipWith (fun one other => addF one (mulF p.1 other)) made p.2
noncomputable def mkA (acc : List Fr) (ps : List (Fr × List Fr)) : List Fr := ps.foldl mkStep acc
theorem mkA_snoc {acc : List Fr} {ps : List (Fr × List Fr)} {p : Fr × List Fr} : mkA acc (ps ++ [p]) = mkStep (mkA acc ps) p := by simp [mkA]
theorem mkA_len {k : Nat} : ∀ {ps : List (Fr × List Fr)} {acc : List Fr}, acc.length = k → (∀ p ∈ ps, p.2.length = k) → (mkA acc ps).length = k
  | [], _, h, _ => h
  | p :: ps, acc, h, hp => mkA_len (ps := ps) (acc := mkStep acc p) (by unfold mkStep; rw [List.length_zipWith, h, hp p (by simp)]; omega) fun q hq => hp q (by simp [hq])
theorem mkStep_gd {n a b : Nat} {acc : List Fr} {p : Fr × List Fr} (h : Gds n acc) (h1 : Gd b p.1) (h2 : Gds a p.2) : Gds (n + (b + a + 1)) (mkStep acc p) := fun x hx => by
  unfold mkStep at hx
  obtain ⟨i, hi, rfl⟩ := List.getElem_of_mem hx
  rw [List.getElem_zipWith]
  exact ((h _ (List.getElem_mem _)).add (h1.mul (h2 _ (List.getElem_mem _)))).mono (by omega)
theorem mkA_gd {a b : Nat} : ∀ {ps : List (Fr × List Fr)} {n : Nat} {acc : List Fr}, Gds n acc → (∀ p ∈ ps, Gd b p.1 ∧ Gds a p.2) → Gds (n + ps.length * (b + a + 1)) (mkA acc ps)
  | [], n, acc, h, _ => fun x hx => (h x hx).mono (by omega)
  | p :: ps, n, acc, h, hp => fun x hx => by
    have h1 := hp p (by simp)
    have i := mkA_gd (ps := ps) (acc := mkStep acc p) (mkStep_gd h h1.1 h1.2) (fun q hq => hp q (by simp [hq])) x hx
    refine i.mono ?_
    rw [List.length_cons, Nat.succ_mul]
    omega
noncomputable def zrow (st : Nat) : List Fr := List.replicate (st + 1) (0, 1)
theorem zrow_gd (st : Nat) : Gds 1 (zrow st) := fun x hx => by rw [List.eq_of_mem_replicate hx]; exact gd_none
noncomputable def mkM (st : Nat) (m : List (List Fr)) (row : List Fr) : List Fr := mkA (zrow st) (row.dropLast.zip m)
noncomputable def behRow (st : Nat) (m : List (List Fr)) (row : List Fr) : List Fr := (mkM st m row).dropLast ++ [addF ((mkM st m row).getLastD (0, 1)) (row.getLastD (0, 1))]
noncomputable def behF (st : Nat) (m k : List (List Fr)) : List (List Fr) := k.map (behRow st m)
theorem zipm {g : Fr → Fr → Fr} : ∀ {xs ys : List Fr}, ((xs.zip ys).map fun p => fr (g p.1 p.2)) = (List.zipWith g xs ys).map fr
  | [], _ => rfl
  | _ :: _, [] => rfl
  | x :: xs, y :: ys => by rw [List.zip_cons_cons, List.map_cons, zipm, List.zipWith_cons_cons, List.map_cons]
theorem mkM_ok {a b n st : Nat} {m : List (List Fr)} {row : List Fr} (M : Mp a n st m) (hr : row.length = n + 1) (gr : Gds b row) : (mkM st m row).length = st + 1 ∧ Gds (1 + n * (b + a + 1)) (mkM st m row) := qt_of (by simp (disch := with_unfolding_all
  have hz : (row.dropLast.zip m).length = n := by rw [List.length_zip, List.length_dropLast, M.len]; omega
  refine ⟨mkA_len (by simp [zrow]) fun p hp => (M.row _ (List.of_mem_zip hp).2).1, ?_⟩
  have := mkA_gd (a := a) (b := b) (ps := row.dropLast.zip m) (zrow_gd st) fun p hp => ⟨gr _ ((List.dropLast_sublist row).subset (List.of_mem_zip hp).1), (M.row _ (List.of_mem_zip hp).2).2⟩
  rw [hz] at this
  exact this
  ) only [↓qt_eq])
theorem beh_row {a b n st : Nat} {m : List (List Fr)} {row : List Fr} (M : Mp a n st m) (hr : row.length = n + 1) (gr : Gds b row) : (behRow st m row).length = st + 1 ∧ Gds (1 + n * (b + a + 1) + b + 1) (behRow st m row) := qt_of (by simp (disch := with_unfolding_all
  obtain ⟨l1, g1⟩ := mkM_ok M hr gr
  unfold behRow
  refine ⟨by simp; omega, fun x hx => ?_⟩
  obtain ⟨ini, z, e, _⟩ := row_split l1
  obtain ⟨ss, y, e2, _⟩ := row_split hr
  rw [e] at hx g1
  rw [e2] at hx gr
  rw [List.dropLast_concat] at hx
  have z1 : (ini ++ [z]).getLastD (0, 1) = z := by simp
  have z2 : (ss ++ [y]).getLastD (0, 1) = y := by simp
  rw [z1, z2] at hx
  rcases List.mem_append.mp hx with hx | hx
  · exact (g1 x (by simp [hx])).mono (by omega)
  · rw [List.mem_singleton.mp hx]
    exact (g1 z (by simp)).add (gr y (by simp))
  ) only [↓qt_eq])
theorem beh_mp {a b n st n2 : Nat} {m k : List (List Fr)} (M : Mp a n st m) (N : Mp b n2 n k) : Mp (1 + n * (b + a + 1) + b + 1) n2 st (behF st m k) := ⟨by unfold behF; rw [List.length_map]; exact N.len, fun r hr => by
  obtain ⟨q, hq, rfl⟩ := List.mem_map.mp hr
  exact beh_row M (N.row q hq).1 (N.row q hq).2⟩
noncomputable def P_behind : Pr := fun ds A => ∃ (a b n st n2 st2 : Nat) (m k : List (List Fr)), ds = [mp m, mp k] ∧ Mp a n st m ∧ Mp b n2 st2 k ∧ 1 ≤ n ∧ n ≤ 100 ∧ 1 ≤ n2 ∧ n2 ≤ 100 ∧ st ≤ 100 ∧ st2 ≤ 100 ∧ (st2 ≠ n → A (.er xOther)) ∧ (st2 = n → 1 + n * (b + a + 1) + b + 1 ≤ 1900 ∧ A (.ok (mp (behF st m k))))
noncomputable def t_behind (K : Fg) (cs : Cs) (gs : Gs) (W : WX) : TS := (tSeq (tIfS (tTest (tOp rNe (tCall (spW0 K P_roomFrom) [] E0 (tCons (tVar 1) tNil)) (tCB (rLenQ K) (tCons (tVar 0) tNil)))) (tRaiseX (cs "OtherRoom") (spIn K ["word"] (gCw "OtherRoom")) [] tNil W) tNext)
  (tSeq (tAsg (tLst tNil) (gName 2))
  (tSeq (tFor (iTup K (tVar 1)) (gName 3) (tSeq (tAsg (tVar 3) (gStar K (gCons (gName 8) (gCons (gName 5) gNil))))
  (tSeq (tAsg (tLc (iTup K (tOp (rIx K) (tVar 0) (tC (V.int 0)))) (gName 9) tYes (tC (gs "NONE")) [9]) (gName 4))
  (tSeq (tFor (iZipM K false (tCons (tVar 8) (tCons (tVar 0) tNil))) (gTup K 2 (gCons (gName 6) (gCons (gName 7) gNil))) (tAsg (tLc (iZipM K false (tCons (tVar 4) (tCons (tVar 7) tNil))) (gTup K 2 (gCons (gName 9) (gCons (gName 10) gNil))) tYes (tCall (spP K P_plus) [] E0 (tCons (tVar 9) (tCons (tCall (spP K P_times) [] E0 (tCons (tVar 6) (tCons (tVar 10) tNil))) tNil))) [9, 10]) (gName 4)))
  (tSeq (tAsg (tCall (spP K P_plus) [] E0 (tCons (tOp (rIx K) (tVar 4) (tUn rNegI (tC (V.int 1)))) (tCons (tVar 5) tNil))) (gSub (tVar 4) (tUn rNegI (tC (V.int 1))) rSetL))
  (tDrop (tBM K "list" rAppend (tVar 2) (tCons (tCB (rTupQ K) (tCons (tVar 4) tNil)) tNil))))))))
  (tRet (tCB (rTupQ K) (tCons (tVar 2) tNil))))))
-- slots of behind: 0 first, 1 then, 2 found, 3 row, 4 made, 5 last, 6 step, 7 inner, 8 steps, 9 one, 10 other
theorem ln_behind : ∀ ds A, P_behind ds A → ds.length = 2 := fun ds A h => by obtain ⟨_, _, _, _, _, _, _, _, rfl, _⟩ := h; rfl
theorem rd_behind {ds A} (cf : ClsF K cs "OtherRoom" ["word"]) (gN : ∀ H, Dp K H (gs "NONE") (fr (0, 1))) (h : P_behind ds A) (W : WX) : SW K cs W (t_behind K cs gs W) (frame 11 ds) (rts A) := qt_of (by simp (disch := with_unfolding_all
  obtain ⟨a, b, n, st, n2, st2, m, k, rfl, M, N, hn1, hn, hn21, hn2, hst, hst2, h1, h2⟩ := h
  obtain ⟨r0, k', ek⟩ : ∃ r0 k', k = r0 :: k' := by
    cases k with
    | nil => have := N.len; simp at this; omega
    | cons r0 m' => exact ⟨r0, m', rfl⟩
  obtain ⟨f0, m', em⟩ : ∃ f0 m', m = f0 :: m' := by
    cases m with
    | nil => have := M.len; simp at this; omega
    | cons r0 m' => exact ⟨r0, m', rfl⟩
  have l0 := (N.row r0 (by rw [ek]; simp)).1
  have lf := (M.row f0 (by rw [em]; simp)).1
  have lm := M.len
  have lk := N.len
  unfold t_behind
  refine sw_seq ?_
  walk_at "s"
  refine ⟨r0, k', by rw [ek], ?_⟩
  walk_at "s"
  by_cases e : st2 = n
  · obtain ⟨hb, h⟩ := h2 e
    subst e
    refine cnd_F (by simp; omega) ?_
    walk_at "s"
    refine sw_seq (sw_asgF (ef_lst0 ?_))
    walk_at "s"
    refine sw_cut (fun G => ∃ e3 e4 e5 e6 e7 e8, G = [.d (mp m), .d (mp k), .ow (ol ((behF st m k).map frs)), e3, e4, e5, e6, e7, e8, .un, .un]) ?_ ?_
    · walk_at "s"
      refine forP (fun pre G => ∃ e3 e4 e5 e6 e7 e8, G = [.d (mp m), .d (mp k), .ow (ol ((behF st m pre).map frs)), e3, e4, e5, e6, e7, e8, .un, .un]) ⟨_, _, _, _, _, _, rfl⟩ ?_ ?_
      · rintro pre row post _ e ⟨e3, e4, e5, e6, e7, e8, rfl⟩
        obtain ⟨hr1, hr2⟩ := N.row row (by rw [e]; simp)
        have ok := mkM_ok M hr1 hr2
        obtain ⟨ini, z, ez, lz⟩ := row_split ok.1
        obtain ⟨ss, x, rfl, hl⟩ := row_split hr1
        have lp : pre.length ≤ 100 := by have := congrArg List.length e; simp at this; omega
        walk_at "s"
        refine sw_seq (sw_asgT (ew_var rfl (gw_starF (by decide) (by simp) (by omega) ?_)))
        refine sw_seq (sw_asgF (ef_lc ?_))
        walk_at "s"
        refine at0 (z := frs f0) (by rw [em]; rfl) ?_
        walk_at "s"
        refine lcM (f := fr) (xs := f0) (fun _ => fr (0, 1)) (by omega) (unk1 rfl) (fun y my => ?_) ?_
        · walk_at "s"
          rfl
        have ef : f0.map (fun _ => fr (0, 1)) = (zrow st).map fr := by
          unfold zrow
          rw [List.map_replicate, ← lf]
          exact List.map_const' ..
        rw [ef]
        refine sw_cut (fun G => ∃ e6 e7, G = [.d (mp m), .d (mp k), .ow (ol ((behF st m pre).map frs)), .d (frs (ss ++ [x])), .ow (ol ((mkM st m (ss ++ [x])).map fr)), .d (fr x), e6, e7, .d (.list (ss.map fr)), .un, .un]) ?_ ?_
        · walk_at "s"
          rw [zipD_map]
          refine forP (fun pre' G => ∃ e6 e7, G = [.d (mp m), .d (mp k), .ow (ol ((behF st m pre).map frs)), .d (frs (ss ++ [x])), .ow (ol ((mkA (zrow st) pre').map fr)), .d (fr x), e6, e7, .d (.list (ss.map fr)), .un, .un]) ⟨_, _, rfl⟩ ?_ ?_
          · rintro pre' p post' _ e' ⟨e6, e7, rfl⟩
            have mz : ∀ q ∈ ss.zip m, Gd b q.1 ∧ Gds a q.2 ∧ q.2.length = st + 1 := fun q hq => ⟨hr2 _ (by simp [(List.of_mem_zip hq).1]), (M.row _ (List.of_mem_zip hq).2).2, (M.row _ (List.of_mem_zip hq).2).1⟩
            have mp' := mz p (by rw [e']; simp)
            have g1 := mkA_gd (a := a) (b := b) (ps := pre') (zrow_gd st) fun q hq => ⟨(mz q (by rw [e']; simp [hq])).1, (mz q (by rw [e']; simp [hq])).2.1⟩
            have l1 : (mkA (zrow st) pre').length = st + 1 := mkA_len (by simp [zrow]) fun q hq => (mz q (by rw [e']; simp [hq])).2.2
            have lpz : pre'.length + 1 ≤ st2 := by
              have := congrArg List.length e'
              simp at this
              omega
            have hm1 : (pre'.length + 1) * (b + a + 1) ≤ st2 * (b + a + 1) := Nat.mul_le_mul_right _ lpz
            rw [Nat.succ_mul] at hm1
            refine gw_tup rfl (gsw_cons (gw_name (gsw_cons (gw_name (gsw_nil ?_)))))
            refine sw_freeze (i := 4) rfl ?_
            refine sw_asgF (ef_lc ?_)
            walk_at "s"
            rw [zipD_map]
            refine lcM (fun q : Fr × Fr => fr (addF q.1 (mulF p.1 q.2))) (by rw [List.length_zip]; omega) (unk2 rfl rfl) (fun q mq => ?_) ?_
            · have gq1 := g1 q.1 (List.of_mem_zip mq).1
              have gq2 := mp'.2.1 q.2 (List.of_mem_zip mq).2
              have gp1 := mp'.1
              walk_at "s"
              rfl
            refine ⟨.d (fr p.1), .d (frs p.2), ?_⟩
            rw [zipm (g := fun one other => addF one (mulF p.1 other)), mkA_snoc]
            rfl
          · rintro _ ⟨e6, e7, rfl⟩
            exact x_nx ⟨e6, e7, by unfold mkM; rw [List.dropLast_concat]⟩
        rintro _ ⟨e6, e7, rfl⟩
        have okg := ok.2
        rw [ez] at okg ⊢
        have gz : Gd (1 + st2 * (b + a + 1)) z := okg z (by simp)
        have gx : Gd b x := hr2 x (by simp)
        rw [List.map_append]
        refine sw_seq (sw_setI (i := 4) rfl ?_)
        refine ew_cP (aw_cons (ew_ixO (i := 4) rfl ?_))
        walk_at "s"
        refine ⟨fr z, atm (k := 1) (by simp) (by decide) (by simp), ?_⟩
        walk_at "s"
        refine ⟨_, st, rfl, ?_, ?_⟩
        · rw [List.length_append, List.length_map, lz]
          simp [ixN]
          omega
        have eb : behRow st m (ss ++ [x]) = ini ++ [addF z x] := by
          unfold behRow
          rw [ez]
          simp
        have e9 : (behF st m (pre ++ [ss ++ [x]])).map frs = (behF st m pre).map frs ++ [frs (ini ++ [addF z x])] := by
          unfold behF
          rw [List.map_append, List.map_append, List.map_cons, List.map_nil, eb]
          rfl
        have e10 : (ini.map fr ++ [fr z]).set st (fr (addF z x)) = (ini ++ [addF z x]).map fr := by
          rw [← lz]
          simp
        have e11 : ini.map fr ++ List.map fr [z] = ini.map fr ++ [fr z] := rfl
        rw [e9]
        simp only [e11, e10]
        refine sw_app (i := 2) rfl (by rw [List.length_map]; unfold behF; rw [List.length_map]; omega) ?_
        walk_at "s"
        exact ⟨_, _, _, _, _, _, rfl⟩
      · rintro _ ⟨e3, e4, e5, e6, e7, e8, rfl⟩
        exact x_nx ⟨_, _, _, _, _, _, rfl⟩
    rintro _ ⟨e3, e4, e5, e6, e7, e8, rfl⟩
    walk_at "s"
    exact h
  · refine cnd_T (by simp; omega) ?_
    refine sw_raise0 cf rfl ?_
    exact h1 e
  ) only [↓qt_eq])
theorem va {a b c : Nat} {z k p : Fr} (hz : Gd a z) (hk : Gd b k) (hp : Gd c p) : val (addF z (mulF k p)) = val z + val k * val p := by rw [val_add hz (hk.mul hp), val_mul hk hp]
theorem beh_lin {a b n st : Nat} {m : List (List Fr)} {row : List Fr} (M : Mp a n st m) (lr : row.length = n + 1) (gr : Gds b row) (hn : n = 1 ∨ n = 2) (hst : st = 1 ∨ st = 2) (p : Pt) : linR (behRow st m row) p = linR row (mapP m p) := qt_of (by simp (disch := with_unfolding_all
  have lm := M.len
  have hm := M.row
  have g0 := gd_none
  have v0 := val_none
  clear M
  rcases hn with rfl | rfl
  · obtain ⟨f, rfl⟩ := List.length_eq_one_iff.mp lm
    obtain ⟨k, l, rfl⟩ := len2 lr
    obtain ⟨lf, gf⟩ := hm f (by simp)
    have gk := gr k (by simp)
    have gl := gr l (by simp)
    rcases hst with rfl | rfl
    · obtain ⟨x, y, rfl⟩ := len2 lf
      have gx := gf x (by simp)
      have gy := gf y (by simp)
      show val (addF (addF (0, 1) (mulF k y)) l) + val (addF (0, 1) (mulF k x)) * p.x = val l + val k * (val y + val x * p.x)
      rw [val_add (g0.add (gk.mul gy)) gl, va g0 gk gy, va g0 gk gx, v0]
      grind
    · obtain ⟨x, y, z, rfl⟩ := len3 lf
      have gx := gf x (by simp)
      have gy := gf y (by simp)
      have gz := gf z (by simp)
      show val (addF (addF (0, 1) (mulF k z)) l) + val (addF (0, 1) (mulF k x)) * p.x + val (addF (0, 1) (mulF k y)) * p.y = val l + val k * (val z + val x * p.x + val y * p.y)
      rw [val_add (g0.add (gk.mul gz)) gl, va g0 gk gz, va g0 gk gx, va g0 gk gy, v0]
      grind
  · obtain ⟨f, f', rfl⟩ := len2 lm
    obtain ⟨k, j, l, rfl⟩ := len3 lr
    obtain ⟨lf, gf⟩ := hm f (by simp)
    obtain ⟨lf', gf'⟩ := hm f' (by simp)
    have gk := gr k (by simp)
    have gj := gr j (by simp)
    have gl := gr l (by simp)
    rcases hst with rfl | rfl
    · obtain ⟨x, y, rfl⟩ := len2 lf
      obtain ⟨x', y', rfl⟩ := len2 lf'
      have gx := gf x (by simp)
      have gy := gf y (by simp)
      have gx' := gf' x' (by simp)
      have gy' := gf' y' (by simp)
      show val (addF (addF (addF (0, 1) (mulF k y)) (mulF j y')) l) + val (addF (addF (0, 1) (mulF k x)) (mulF j x')) * p.x = val l + val k * (val y + val x * p.x) + val j * (val y' + val x' * p.x)
      rw [val_add ((g0.add (gk.mul gy)).add (gj.mul gy')) gl, va (g0.add (gk.mul gy)) gj gy', va (g0.add (gk.mul gx)) gj gx', va g0 gk gy, va g0 gk gx, v0]
      grind
    · obtain ⟨x, y, z, rfl⟩ := len3 lf
      obtain ⟨x', y', z', rfl⟩ := len3 lf'
      have gx := gf x (by simp)
      have gy := gf y (by simp)
      have gz := gf z (by simp)
      have gx' := gf' x' (by simp)
      have gy' := gf' y' (by simp)
      have gz' := gf' z' (by simp)
      show val (addF (addF (addF (0, 1) (mulF k z)) (mulF j z')) l) + val (addF (addF (0, 1) (mulF k x)) (mulF j x')) * p.x + val (addF (addF (0, 1) (mulF k y)) (mulF j y')) * p.y = val l + val k * (val z + val x * p.x + val y * p.y) + val j * (val z' + val x' * p.x + val y' * p.y)
      rw [val_add ((g0.add (gk.mul gz)).add (gj.mul gz')) gl, va (g0.add (gk.mul gz)) gj gz', va (g0.add (gk.mul gx)) gj gx', va (g0.add (gk.mul gy)) gj gy', va g0 gk gz, va g0 gk gx, va g0 gk gy, v0]
      grind
  ) only [↓qt_eq])
theorem led_beh {a b c n st n2 : Nat} {m k : List (List Fr)} {s : Spot} (M : Mp a n st m) (N : Mp b n2 n k) (hn : n = 1 ∨ n = 2) (hst : st = 1 ∨ st = 2) (g : Gds c s) (hs : s.length = st) : ledF (behF st m k) s = ledF k (ledF m s) := qt_of (by simp (disch := with_unfolding_all
  unfold behF
  show (List.map (behRow st m) k).map (fun r => rowF r s) = k.map fun r => rowF r (ledF m s)
  rw [List.map_map]
  refine List.map_congr_left fun row hr => ?_
  obtain ⟨lr, gr⟩ := N.row row hr
  obtain ⟨lb, gb⟩ := beh_row M lr gr
  obtain ⟨gl, ll⟩ := ledF_gd M g
  show rowF (behRow st m row) s = rowF row (ledF m s)
  refine gd_inj (rowF_gd lb gb g) (rowF_gd lr gr gl) ?_
  rw [rowF_val hst lb gb hs g, rowF_val hn lr gr ll gl, led_pt M hn hst hs g]
  exact beh_lin M lr gr hn hst _
  ) only [↓qt_eq])
/-! ### bounds carried -/
end


end
section
open PySem PyProof.Rows L2 Evl U.Hull

section
variable {K : Fg} {cs : Cs} {gs : Gs} {φ : PyData → Prop} {A : Rs → Prop} {ε : Xw → Prop} {w : World} {W : WX}
/-! ### a spot lies deep where each small step on leads not out -/
end


end
section
open PySem PyProof.Rows L2 Evl U.Hull

section
variable {K : Fg} {cs : Cs} {gs : Gs} {φ : PyData → Prop} {A : Rs → Prop} {ε : Xw → Prop} {w : World} {W : WX}
-- slots of lookL: 0 _law_bag_here, 1 _law_spots_here, 2 _law_rank, 3 _law_one, 4 _law_two
-- slots of someL: 0 _law_bag_here, 1 _law_rows_here, 2 _law_rank, 3 _law_many, 4 _law_spots_here, 5 _law_at
-- slots of wideL: 0 _law_bag_here, 1 _law_rank, 2 _law_limit, 3 _law_found, 4 _law_k, 5 _law_at
-- slots of _law_deep: 0 _law_spots_here, 1 _law_spot_here, 2 _law_tiny, 3 _law_start
end


end
section
open PySem PyProof.Rows L2 Evl U.Hull
/-! ### corners and sides: what lies on a side's line -/
/-! ### Euler: the faces that hold a spot, with their signs -/
end
section
open PySem PyProof.Rows L2 Evl U.Hull
/-! ### what two bodies have in common, plain -/
end
section
open PySem PyProof.Rows L2 Evl U.Hull
/-! ### two bodies of the plane: all that both hold lies between corners and crossings -/
end
section
open PySem PyProof.Rows L2 Evl U.Hull

section
variable {K : Fg} {cs : Cs} {gs : Gs} {φ : PyData → Prop} {A : Rs → Prop} {ε : Xw → Prop} {w : World} {W : WX}
/-! ### what is drawn, told tightly -/
-- slots of lspotsT: 0 _law_bag_here, 1 _law_rank, 2 _law_limit, 3 _law_many, 4 _law_found, 5 _law_kind, 6 _law_one, 7 _law_two, 8 _law_at
-- slots of lrowsT: 0 _law_bag_here, 1 _law_rank, 2 _law_limit, 3 _law_corners, 4 _law_found, 5 _law_at, 6 _law_weight, 7 _law_row
end


end
section
open PySem PyProof.Rows L2 Evl U.Hull

section
variable {K : Fg} {cs : Cs} {gs : Gs} {φ : PyData → Prop} {A : Rs → Prop} {ε : Xw → Prop} {w : World} {W : WX}
/-! ### crossings of small spots are small -/
noncomputable def lv2 (p : Sp2) : Prop := LV 48 6 p.x ∧ LV 48 6 p.y
end


end
section
open PySem PyProof.Rows L2 Evl U.Hull

section
variable {K : Fg} {cs : Cs} {gs : Gs} {φ : PyData → Prop} {A : Rs → Prop} {ε : Xw → Prop} {w : World} {W : WX}
/-! ### the body of all that two hold -/
noncomputable def sp2 (s : Spot) : Sp2 := ⟨(s[0]?).getD (0, 1), (s[1]?).getD (0, 1)⟩
-- slots of common: 0 one, 1 other, 2 found, 3 corner, 4 start, 5 end, 6 other_start, 7 other_end, 8 spot
end


end
section
open PySem PyProof.Rows L2 Evl U.Hull

section
variable {K : Fg} {cs : Cs} {gs : Gs} {φ : PyData → Prop} {A : Rs → Prop} {ε : Xw → Prop} {w : World} {W : WX}
/-! ### lots met -/
-- slots of met: 0 one, 1 other, 2 room, 3 found, 4 weight, 5 body, 6 other_weight, 7 other_body, 8 shared_body
-- slots of told24: 0 _law_one, 1 _law_other, 2 why
end


end
section
open PySem PyProof.Rows L2 Evl U.Hull

section
variable {K : Fg} {cs : Cs} {gs : Gs} {φ : PyData → Prop} {A : Rs → Prop} {ε : Xw → Prop} {w : World} {W : WX}
/-! ### the law's own crossing -/
-- slots of _law_cross: 0 _law_one, 1 _law_two, 2 _law_three, 3 _law_four, 4 _law_first, 5 _law_second, 6 _law_span, 7 _law_step, 8 _law_share
/-! ### the law's own meeting -/
-- slots of _law_meeting: 0 _law_one, 1 _law_other, 2 _law_found, 3 _law_at, 4 _law_to, 5 _law_spot_here
end


end
section
open PySem PyProof.Rows L2 Evl U.Hull
/-! ### the body of what two have in common, plain -/
/-! ### crossings by their values -/
structure Gp (p : Spot × Spot) : Prop where
  g1 : (sp2 p.1).g 100
  g2 : (sp2 p.2).g 100
  l1 : p.1.length = 2
  l2 : p.2.length = 2
  v1 : lv2 (sp2 p.1)
  v2 : lv2 (sp2 p.2)
/-! ### all that both hold -/
end
section
open PySem PyProof.Rows L2 Evl U.Hull

section
variable {K : Fg} {cs : Cs} {gs : Gs} {φ : PyData → Prop} {A : Rs → Prop} {ε : Xw → Prop} {w : World} {W : WX}
/-! ### looks, told tightly; spots of rows of all kinds -/
-- slots of lookT: 0 _law_bag_here, 1 _law_spots_here, 2 _law_rank, 3 _law_one, 4 _law_two
-- slots of allspM: 0 _law_rows_here, 1 _law_found, 2 _law_weight_here, 3 _law_spots_here
-- slots of someM: 0 _law_bag_here, 1 _law_rows_here, 2 _law_rank, 3 _law_many, 4 _law_spots_here, 5 _law_at
end


end
section
open PySem PyProof.Rows L2 Evl U.Hull
/-! ### numbers below, told tightly -/
/-! ### rows of small spots -/
structure TR (r n : Nat) (rs : List RowS) : Prop where
  wl : ∀ p ∈ rs, -7 ≤ p.w ∧ p.w ≤ 7
  sp : ∀ p ∈ rs, Sps 31 r p.ss ∧ 1 ≤ p.ss.length ∧ p.ss.length ≤ 5
  lv : ∀ p ∈ rs, ∀ s ∈ p.ss, ∀ f ∈ s, LV 48 6 f
  ln : rs.length ≤ n
/-! ### the pairs -/
section
variable {r n m : Nat} {rs qs : List RowS} (hr : r = 1 ∨ r = 2) (hn : n ≤ 100) (hm : m ≤ 100) (h1 : TR r n rs) (h2 : TR r m qs)
include hr hn hm h1 h2
end
/-! ### weights of what is met -/
end
section
open PySem PyProof.Rows L2 Evl U.Hull
/-! ### what a body has on a line, plain -/
structure Ln (k : Spot × Spot) : Prop where
  gp : Gp k
  ne : k.1 ≠ k.2
/-! ### times of corners and of crossings -/
end
section
open PySem PyProof.Rows L2 Evl U.Hull

section
variable {K : Fg} {cs : Cs} {gs : Gs} {φ : PyData → Prop} {A : Rs → Prop} {ε : Xw → Prop} {w : World} {W : WX}
/-! ### faces by the law, mirrored bodies -/
-- slots of _law_faces: 0 _law_spots_here, 1 _law_body_here, 2 _law_found, 3 _law_corner, 4 _law_at
-- slots of _law_turned: 0 _law_rows_here, 1 _law_found, 2 _law_weight, 3 _law_spots_here, 4 _law_sign_here, 5 _law_face
/-! ### mirrored -/
-- slots of mirrored: 0 body, 1 corner, 2 one
-- slots of unlaid: 0 body
end


end
section
open PySem PyProof.Rows L2 Evl U.Hull

section
variable {K : Fg} {cs : Cs} {gs : Gs} {φ : PyData → Prop} {A : Rs → Prop} {ε : Xw → Prop} {w : World} {W : WX}
/-! ### the program's spots on a line -/
/-! ### the law's spots on a line -/
structure SB (ss : List Spot) : Prop where
  sp : SpR 31 2 ss
  l5 : ss.length ≤ 100
  lv : ∀ s ∈ ss, ∀ f ∈ s, LV 48 6 f
end


end
section
open PySem PyProof.Rows L2 Evl U.Hull

section
variable {K : Fg} {cs : Cs} {gs : Gs} {φ : PyData → Prop} {A : Rs → Prop} {ε : Xw → Prop} {w : World} {W : WX}
/-! ### sliced -/
-- slots of time_of: 0 spot, 1 step, 2 corner, 3 at
-- slots of slice_of: 0 body, 1 spot, 2 step, 3 ahead, 4 found, 5 at, 6 corner, 7 last, 8 one
/-! the lot -/
-- slots of sliced: 0 lot, 1 spot, 2 step, 3 rows, 4 weight, 5 body, 6 row
end


end
section
open PySem PyProof.Rows L2 Evl U.Hull

section
variable {K : Fg} {cs : Cs} {gs : Gs} {φ : PyData → Prop} {A : Rs → Prop} {ε : Xw → Prop} {w : World} {W : WX}
/-! ### paired -/
-- slots of paired: 0 one, 1 other, 2 rows, 3 weight, 4 body, 5 beside, 6 upright, 7 spot, 8 high
-- slots of lpair28: 0 _law_one, 1 _law_other, 2 why
-- slots of lslice28: 0 _law_lot_here, 1 _law_spot_here, 2 _law_step, 3 why
end


end
section
open PySem PyProof.Rows L2 Evl U.Hull

section
variable {K : Fg} {cs : Cs} {gs : Gs} {φ : PyData → Prop} {A : Rs → Prop} {ε : Xw → Prop} {w : World} {W : WX}
/-! ### the law's own times -/
-- slots of _law_times: 0 _law_spots_here, 1 _law_spot_here, 2 _law_ahead, 3 _law_found, 4 _law_at, 5 _law_to, 6 _law_near, 7 _law_one, 8 _law_two, 9 _law_cut
end


end
section
open PySem PyProof.Rows L2 Evl U.Hull

section
variable {K : Fg} {cs : Cs} {gs : Gs} {φ : PyData → Prop} {A : Rs → Prop} {ε : Xw → Prop} {w : World} {W : WX}
-- slots of someT: 0 _law_bag_here, 1 _law_rows_here, 2 _law_rank, 3 _law_many, 4 _law_spots_here, 5 _law_at
/-! ### rows paired, plain -/
/-! ### rows sliced, plain -/
section
variable {k : Spot × Spot} {rs : List RowS} (hL : Ln k) (hS : ∀ p ∈ rs, SB p.ss ∧ p.ss.length ≤ 5) (hn : rs.length ≤ 5)
include hL hS hn
end
end


end
section
open PySem PyProof.Rows L2 Evl U.Hull
/-! ### Euler on a line: places less open stretches -/
end
section
open PySem PyProof.Rows L2 Evl U.Hull

section
variable {K : Fg} {cs : Cs} {gs : Gs} {φ : PyData → Prop} {A : Rs → Prop} {ε : Xw → Prop} {w : World} {W : WX}
/-! ### the law's tally on a line -/
-- slots of _law_both: 0 _law_rows_here, 1 _law_others, 2 _law_spot_here
-- slots of _law_line_tally: 0 _law_rows_here, 1 _law_others, 2 _law_one, 3 _law_two, 4 _law_cuts, 5 _law_places, 6 _law_total, 7 _law_at, 8 _law_weight_here, 9 _law_spots_here, 10 _law_gap, 11 _law_place
end


end
section
open PySem PyProof.Rows L2 Evl U.Hull
/-! ### lines as three whole numbers, plain -/
end
section
open PySem PyProof.Rows L2 Evl U.Hull

section
variable {K : Fg} {cs : Cs} {gs : Gs} {φ : PyData → Prop} {A : Rs → Prop} {ε : Xw → Prop} {w : World} {W : WX}
/-! ### lines, read -/
-- slots of line_by: 0 lean, 1 spot, 2 divisor, 3 right, 4 up, 5 last, 6 below
-- slots of line_through: 0 spot, 1 other, 2 right, 3 up
-- slots of told48: 0 _law_one, 1 _law_two, 2 why
end


end
section
open PySem PyProof.Rows L2 Evl U.Hull

section
variable {K : Fg} {cs : Cs} {gs : Gs} {φ : PyData → Prop} {A : Rs → Prop} {ε : Xw → Prop} {w : World} {W : WX}
/-! ### the law's line -/
-- slots of _law_line: 0 _law_one, 1 _law_two, 2 _law_first, 3 _law_second, 4 _law_a, 5 _law_b, 6 _law_c, 7 _law_divisor
end


end
section
open PySem PyProof.Rows L2 Evl U.Hull

section
variable {K : Fg} {cs : Cs} {gs : Gs} {φ : PyData → Prop} {A : Rs → Prop} {ε : Xw → Prop} {w : World} {W : WX}
/-! ### what a line hits -/
/-! readings -/
-- slots of side_on: 0 line, 1 corner, 2 found
-- slots of _law_side: 0 _law_line_here, 1 _law_spot_here, 2 _law_place, 3 _law_gap
-- slots of line_tally: 0 lot, 1 line, 2 found, 3 weight, 4 body, 5 seen, 6 corner
-- slots of flat48: 0 _law_lot, 1 _law_line_here, 2 why
-- slots of _law_line_weight: 0 _law_rows_here, 1 _law_line_here, 2 _law_total, 3 _law_weight_here, 4 _law_spots_here, 5 _law_sides, 6 _law_spot_here
end


end
section
open PySem PyProof.Rows L2 Evl
/-! ### lists of one's own within a list of one's own -/
noncomputable abbrev WL (Wd : Addr → Prop) (as : List Addr) : Addr → Prop := fun a => Wd a ∨ a ∈ as
structure Nst (K : Fg) (Wd : Addr → Prop) (B : Bt) (ad : Nat → Addr) (H0 H : Hp) (σ : St) (G : Gam) (i : Nat) (a0 : Addr) (as : List Addr) (xss : List (List PyData)) : Prop where
  S : Sta K (WL Wd (a0 :: as)) B ad H0 H σ G
  sl : σ[i]? = some (some (.ref a0))
  un : G[i]? = some .un
  o0 : H a0 = some (.lst (as.map V.ref))
  nd : (a0 :: as).Nodup
  len : as.length = xss.length
  row : ∀ (j : Nat) (a : Addr), as[j]? = some a → ∃ vs xs, xss[j]? = some xs ∧ H a = some (.lst vs) ∧ DpAll K (less H (Zs (WL Wd (a0 :: as)) B ad G)) vs xs
  fr : ∀ a ∈ a0 :: as, H0 a = none ∧ ¬ InB B a ∧ ¬ Wd a
section
variable {K : Fg} {cs : Cs} {W : WX} {Wd : Addr → Prop} {B : Bt} {ad : Nat → Addr} {H0 H H2 : Hp} {σ : St} {G G' : Gam} {i : Nat} {a0 : Addr} {as : List Addr} {xss : List (List PyData)} {φ : PyData → Prop}
theorem Sta.sub {W1 W2 : Addr → Prop} (S : Sta K W2 B ad H0 H σ G) (hw : ∀ a, W1 a → W2 a) : Sta K W1 B ad H0 H σ G ∧ Ex (less H (Zs W2 B ad G)) (less H (Zs W1 B ad G)) := qt_of (by simp (disch := with_unfolding_all
  have ex : Ex (less H (Zs W2 B ad G)) (less H (Zs W1 B ad G)) := less_sub fun a z => z.elim (fun z => .inl (hw a z)) .inr
  refine ⟨⟨S.len, fun i e h => ?_, S.inj, fun i c h => ⟨(S.sep i c h).1, (S.sep i c h).2.1, fun z => (S.sep i c h).2.2 (hw _ z)⟩, S.base, S.bag, fun a z => S.wd a (hw a z), fun p hp => (S.tab p hp).mono ex rfl⟩, ex⟩
  obtain ⟨u, g1, g2⟩ := S.at_ i e h
  exact ⟨u, g1, g2.mono ex fun _ _ _ q => q⟩
  ) only [↓qt_eq])
theorem wl_snoc {p : Addr} : (fun a => WL Wd as a ∨ a = p) = WL Wd (as ++ [p]) := funext fun a => propext (by
  show (Wd a ∨ a ∈ as) ∨ a = p ↔ Wd a ∨ a ∈ as ++ [p]
  rw [List.mem_append, List.mem_singleton, or_assoc])
theorem Nst.ev (N : Nst K Wd B ad H0 H σ G i a0 as xss) {te : TE} (h : EW K cs W te G φ noX) {Q : VK}
    (q : ∀ x v H2, φ x → Nst K Wd B ad H0 H2 σ G i a0 as xss → Dp K (less H2 (Zs (WL Wd (a0 :: as)) B ad G)) v x → Ex (less H (Zs (WL Wd (a0 :: as)) B ad G)) (less H2 (Zs (WL Wd (a0 :: as)) B ad G)) → Q v H2) : te σ H Q :=
  h _ B ad H0 H σ N.S Q (fun x px v H2 S2 xb d => q x v H2 px ⟨S2, N.sl, N.un, xb _ _ N.o0 (N.fr a0 List.mem_cons_self).2.1, N.nd, N.len, fun j a ja => by
    obtain ⟨vs, xs, e1, e2, e3⟩ := N.row j a ja
    exact ⟨vs, xs, e1, xb _ _ e2 (N.fr a (List.mem_cons_of_mem _ (List.mem_of_getElem? ja))).2.1, dpa_mono (Xb.lz xb) e3⟩, N.fr⟩ d (Xb.lz xb)) xp_no
theorem Nst.asg (N : Nst K Wd B ad H0 H σ G i a0 as xss) {k : Nat} {v : V} {x : PyData} (hk : k ≠ i) (d : Dp K (less H (Zs (WL Wd (a0 :: as)) B ad G)) v x) :
    Nst K Wd B ad H0 H (σ.set k (some v)) (G.set k (.d x)) i a0 as xss ∧ Ex (less H (Zs (WL Wd (a0 :: as)) B ad G)) (less H (Zs (WL Wd (a0 :: as)) B ad (G.set k (.d x)))) := qt_of (by simp (disch := with_unfolding_all
  have ex : Ex (less H (Zs (WL Wd (a0 :: as)) B ad G)) (less H (Zs (WL Wd (a0 :: as)) B ad (G.set k (.d x)))) := less_sub fun a z => Zs.set_of (fun _ z => by cases z) z
  refine ⟨⟨N.S.setD d, by rw [List.getElem?_set_ne hk]; exact N.sl, by rw [List.getElem?_set_ne hk]; exact N.un, N.o0, N.nd, N.len, fun j a ja => ?_, N.fr⟩, ex⟩
  obtain ⟨vs, xs, e1, e2, e3⟩ := N.row j a ja
  exact ⟨vs, xs, e1, e2, dpa_mono ex e3⟩
  ) only [↓qt_eq])
/-- a row grows -/
theorem Nst.grow (N : Nst K Wd B ad H0 H σ G i a0 as xss) {r : Nat} {a : Addr} {vs : List V} {xs : List PyData} {v : V} {x : PyData} (ha : as[r]? = some a) (hx : xss[r]? = some xs) (ho : H a = some (.lst vs)) (hd : DpAll K (less H (Zs (WL Wd (a0 :: as)) B ad G)) vs xs) (d : Dp K (less H (Zs (WL Wd (a0 :: as)) B ad G)) v x) :
    Nst K Wd B ad H0 (upd H a (.lst (vs ++ [v]))) σ G i a0 as (xss.set r (xs ++ [x])) ∧ Ex (less H (Zs (WL Wd (a0 :: as)) B ad G)) (less (upd H a (.lst (vs ++ [v]))) (Zs (WL Wd (a0 :: as)) B ad G)) := qt_of (by simp (disch := with_unfolding_all
  have am : a ∈ as := List.mem_of_getElem? ha
  have am' : a ∈ a0 :: as := List.mem_cons_of_mem _ am
  obtain ⟨S2, e2⟩ := N.S.foreign (o := .lst (vs ++ [v])) (p := a) (.inr am') (N.fr a am').1 (N.fr a am').2.1
  have ne0 : a0 ≠ a := fun z => (List.nodup_cons.mp N.nd).1 (z ▸ am)
  refine ⟨⟨S2, N.sl, N.un, by rw [upd_ne ne0]; exact N.o0, N.nd, by rw [List.length_set]; exact N.len, fun j b jb => ?_, N.fr⟩, by rw [e2]; exact Ex.refl _⟩
  rw [e2]
  by_cases z : j = r
  · subst z
    rw [ha] at jb
    cases jb
    have jl : j < xss.length := by rw [← N.len]; exact (List.getElem?_eq_some_iff.mp ha).1
    exact ⟨_, _, List.getElem?_set_self jl, upd_same, dpa_app hd (.cons d .nil)⟩
  · have nb : b ≠ a := fun q => by
      subst q
      obtain ⟨l1, q1⟩ := List.getElem?_eq_some_iff.mp ha
      obtain ⟨l2, q2⟩ := List.getElem?_eq_some_iff.mp jb
      have pw := List.pairwise_iff_getElem.mp (List.nodup_cons.mp N.nd).2
      rcases Nat.lt_or_ge j r with y | y
      · exact pw j r l2 l1 y (q2.trans q1.symm)
      · exact pw r j l1 l2 (by omega) (q1.trans q2.symm)
    obtain ⟨us, ys, g1, g2, g3⟩ := N.row j b jb
    exact ⟨us, ys, by rw [List.getElem?_set_ne (Ne.symm z)]; exact g1, by rw [upd_ne nb]; exact g2, g3⟩
  ) only [↓qt_eq])
/-- from now on all stays as it is -/
theorem Nst.done (N : Nst K Wd B ad H0 H σ G i a0 as xss) : Sta K Wd B ad H0 H σ (G.set i (.d (.list (xss.map PyData.list)))) ∧ Ex (less H (Zs (WL Wd (a0 :: as)) B ad G)) (less H (Zs Wd B ad (G.set i (.d (.list (xss.map PyData.list)))))) := qt_of (by simp (disch := with_unfolding_all
  obtain ⟨S1, e1⟩ := N.S.sub (W1 := Wd) fun a z => .inl z
  have nz : ∀ a ∈ a0 :: as, ¬ Zs Wd B ad G a := fun a ha z => by
    rcases z with z | ⟨j, c, g, rfl⟩ | z
    · exact (N.fr a ha).2.2 z
    · exact (N.S.sep j c g).2.2 (.inr ha)
    · exact (N.fr a ha).2.1 z
  have d : Dp K (less H (Zs Wd B ad G)) (.ref a0) (.list (xss.map PyData.list)) := by
    refine .lst (sq_of (less_of (nz a0 List.mem_cons_self) N.o0)) ?_
    have key : ∀ (bs : List Addr) (yss : List (List PyData)), bs.length = yss.length → (∀ (j : Nat) (a : Addr), bs[j]? = some a → a ∈ as ∧ ∃ vs xs, yss[j]? = some xs ∧ H a = some (.lst vs) ∧ DpAll K (less H (Zs (WL Wd (a0 :: as)) B ad G)) vs xs) → DpAll K (less H (Zs Wd B ad G)) (bs.map V.ref) (yss.map PyData.list) := by
      intro bs
      induction bs with
      | nil => intro yss hl _; cases yss with
        | nil => exact .nil
        | cons y ys => simp at hl
      | cons b bs ih =>
        intro yss hl hr
        cases yss with
        | nil => simp at hl
        | cons y ys =>
          obtain ⟨m, vs, xs, g1, g2, g3⟩ := hr 0 b rfl
          cases g1
          exact .cons (.lst (sq_of (less_of (nz b (List.mem_cons_of_mem _ m)) g2)) (dpa_mono e1 g3)) (ih ys (by simpa using hl) fun j a ja => hr (j + 1) a ja)
    exact key as xss N.len fun j a ja => ⟨List.mem_of_getElem? ja, N.row j a ja⟩
  have il : i < σ.length := by rw [N.S.len]; exact (List.getElem?_eq_some_iff.mp N.un).1
  have es : σ.set i (some (.ref a0)) = σ := by
    obtain ⟨l, e⟩ := List.getElem?_eq_some_iff.mp N.sl
    rw [← e, List.set_getElem_self]
  have S2 := S1.setD (i := i) d
  rw [es] at S2
  exact ⟨S2, e1.trans (less_sub fun a z => Zs.set_of (fun _ z => by cases z) z)⟩
  ) only [↓qt_eq])
/-! ### statements beside such lists -/
noncomputable def NW (K : Fg) (cs : Cs) (W : WX) (ts : TS) (G : Gam) (i : Nat) (xss : List (List PyData)) (Ψ : Gam → List (List PyData) → Prop) : Prop :=
  ∀ Wd B ad H0 H σ (D : Ends) a0 as, Nst K Wd B ad H0 H σ G i a0 as xss →
    (∀ G' xss', Ψ G' xss' → ∀ H' σ', Nst K Wd B ad H0 H' σ' G' i a0 as xss' → Ex (less H (Zs (WL Wd (a0 :: as)) B ad G)) (less H' (Zs (WL Wd (a0 :: as)) B ad G')) → D.nx σ' H') → ts D σ H
variable {Ψ : Gam → List (List PyData) → Prop} {tu tv tb : TS} {te tf : TE} {k : Nat}
theorem nw_seq (h : NW K cs W tu G i xss fun G' xss' => NW K cs W tv G' i xss' Ψ) : NW K cs W (tSeq tu tv) G i xss Ψ := fun Wd B ad H0 H σ D a0 as N q =>
  h Wd B ad H0 H σ _ a0 as N fun G' xss' h2 H' σ' N2 e => h2 Wd B ad H0 H' σ' D a0 as N2 fun G3 x3 p H3 σ3 N3 e3 => q G3 x3 p H3 σ3 N3 (e.trans e3)
theorem nw_asg (hk : k ≠ i) (h : EW K cs W te G (fun x => Ψ (G.set k (.d x)) xss) noX) : NW K cs W (tAsg te (gName k)) G i xss Ψ := fun Wd B ad H0 H σ D a0 as N q =>
  N.ev h fun x v H2 p N2 d e => q _ _ p H2 _ (N2.asg hk d).1 (e.trans (N2.asg hk d).2)
theorem nw_app {r : Nat} {xs : List PyData} (hr : xss[r]? = some xs) (hl : xs.length ≤ 1000) (h1 : EW K cs W te G (fun x => x = .int r) noX) (h2 : EW K cs W tf G (fun y => Ψ G (xss.set r (xs ++ [y]))) noX) :
    NW K cs W (tDrop (tBM K "list" rAppend (tOp (rIx K) (tVar i) te) (tCons tf tNil))) G i xss Ψ := fun Wd B ad H0 H σ D a0 as N q => by
  refine ⟨_, N.sl, ?_⟩
  refine N.ev h1 fun x v H1 ex N1 d e1 => ?_
  subst ex
  cases d
  have rl : r < as.length := by rw [N.len]; exact (List.getElem?_eq_some_iff.mp hr).1
  have ra : as[r]? = some as[r] := List.getElem?_eq_getElem rl
  refine .inl ⟨a0, as.map V.ref, (r : Int), .ref as[r], rfl, rfl, SqL.of N1.o0, atI_nat (by rw [List.getElem?_map, ra]; rfl), ?_⟩
  obtain ⟨vs, ys, g1, g2, g3⟩ := N1.row r _ ra
  refine ⟨.inl ⟨rfl, vs, SqL.of g2⟩, ?_⟩
  refine N1.ev h2 fun y v H3 p N2 d e2 => ?_
  obtain ⟨us, zs, g4, g5, g6⟩ := N2.row r _ ra
  rw [hr] at g4
  cases g4
  refine ⟨as[r], us, v, rfl, rfl, g5, ?_, ?_⟩
  · rw [dpa_len g6]; exact Nat.lt_of_le_of_lt hl (by decide)
  · exact q _ _ p _ _ (N2.grow ra hr g5 g6 d).1 ((e1.trans e2).trans (N2.grow ra hr g5 g6 d).2)
theorem nw_for (hk : k ≠ i) (h : EW K cs W te G (fun x => ∃ n : Nat, x = .int n ∧ n ≤ 1000000 ∧ ∃ I : Nat → Gam → List (List PyData) → Prop, I 0 G xss ∧ (∀ j G' xss', j < n → I j G' xss' → NW K cs W tb (G'.set k (.d (.int (j : Int)))) i xss' (I (j + 1))) ∧ ∀ G' xss', I n G' xss' → Ψ G' xss') noX) :
    NW K cs W (tFor (iRng1 (tCons te tNil)) (gName k) tb) G i xss Ψ := fun Wd B ad H0 H σ D a0 as N q => by
  refine N.ev h fun x v H1 ⟨n, ex, hn, I, i0, hs, hd⟩ N1 d e1 => ?_
  subst ex
  cases d
  refine ⟨(n : Int), rfl, by omega, by omega, ?_⟩
  refine ⟨fun j m σ' H' => m = n - j ∧ j ≤ n ∧ ∃ G' xss', I j G' xss' ∧ Nst K Wd B ad H0 H' σ' G' i a0 as xss' ∧ Ex (less H (Zs (WL Wd (a0 :: as)) B ad G)) (less H' (Zs (WL Wd (a0 :: as)) B ad G')), ⟨n, rfl, Nat.zero_le _, G, xss, i0, N1, e1⟩, ?_⟩
  rintro j m σ' H' ⟨rfl, hj, G', xss', hI, N', e'⟩
  by_cases hlt : j < n
  · refine .inr ⟨by show j < (n : Int).toNat; omega, fun σ3 H3 => ∃ G3 xss3, I (j + 1) G3 xss3 ∧ Nst K Wd B ad H0 H3 σ3 G3 i a0 as xss3 ∧ Ex (less H (Zs (WL Wd (a0 :: as)) B ad G)) (less H3 (Zs (WL Wd (a0 :: as)) B ad G3)), fun σ3 H3 ⟨G3, x3, a, b, c⟩ => ⟨n - (j + 1), by omega, rfl, hlt, G3, x3, a, b, c⟩, ?_⟩
    rintro x H'' ⟨rfl, rfl⟩
    have dj : Dp K (less H'' (Zs (WL Wd (a0 :: as)) B ad G')) (.int (0 + (j : Int))) (.int (j : Int)) := by rw [Int.zero_add]; exact .int _
    exact hs j G' xss' hlt hI Wd B ad H0 H'' _ _ a0 as (N'.asg hk dj).1 fun G3 x3 p H3 σ3 N3 e3 => ⟨G3, x3, p, N3, (e'.trans (N'.asg hk dj).2).trans e3⟩
  · have en : j = n := by omega
    subst en
    exact .inl ⟨by show (j : Int).toNat ≤ j; omega, q _ _ (hd _ _ hI) _ _ N' e'⟩
/-- a list of new empty lists -/
theorem nest_lc (S : Sta K Wd B ad H0 H σ G) {χ : List PyData → Prop} (h : EW K cs W te G (fun x => ∃ ds, x = .tuple ds ∧ ds.length ≤ 1000 ∧ χ ds) noX) {Q : VK}
    (q : ∀ ds, χ ds → ∀ a0 as H2, as.length = ds.length → Sta K (WL Wd (a0 :: as)) B ad H0 H2 σ G → Ex (less H (Zs Wd B ad G)) (less H2 (Zs (WL Wd (a0 :: as)) B ad G)) → H2 a0 = some (.lst (as.map V.ref)) → (a0 :: as).Nodup → (∀ a ∈ as, H2 a = some (.lst [])) →
      (∀ a ∈ a0 :: as, H0 a = none ∧ ¬ InB B a ∧ ¬ Wd a) → Q (.ref a0) H2) : tLc (iTup K te) (gName k) tYes (tLst tNil) [k] σ H Q :=
  h Wd B ad H0 H σ S _ (fun x ⟨ds, e, hn, p⟩ v H1 S1 e1 d1 => by
    subst e
    obtain ⟨a, vs, rfl, g, ok⟩ := dp_itT d1
    refine ⟨a, rfl, ⟨vs, ex_t less_ex g⟩, fun Dl hD => ?_⟩
    obtain ⟨L0, el0⟩ := S1.lend (o := .lst []) hD
    obtain ⟨f1, f2, f3⟩ := S1.fresh hD
    have ew1 : (fun a => Wd a ∨ a = Dl) = WL Wd [Dl] := funext fun a => by
      show _ = (Wd a ∨ a ∈ [Dl])
      rw [List.mem_singleton]
    rw [ew1] at L0 el0
    refine ⟨fun i m H' => m = ds.length - i ∧ i ≤ ds.length ∧ ∃ as : List Addr, as.length = i ∧ Sta K (WL Wd (Dl :: as)) B ad H0 H' σ G ∧ Ex (less H1 (Zs Wd B ad G)) (less H' (Zs (WL Wd (Dl :: as)) B ad G)) ∧ H' Dl = some (.lst (as.map V.ref)) ∧ (Dl :: as).Nodup ∧
      (∀ a ∈ as, H' a = some (.lst [])) ∧ ∀ a ∈ Dl :: as, H0 a = none ∧ ¬ InB B a ∧ ¬ Wd a, ⟨ds.length, rfl, Nat.zero_le _, [], rfl, L0, by rw [el0]; exact Ex.refl _, upd_same, by simp, (fun a ha => by cases ha), fun a ha => ?_⟩, ?_⟩
    · rw [List.mem_singleton.mp ha]
      exact ⟨f1, f2, fun z => f3 (.inl z)⟩
    rintro i m H' ⟨rfl, hi, as, al, S', e', o', nd, emp, fr⟩
    obtain ⟨k1, k2, k3⟩ := ok H' (Zs (WL Wd (Dl :: as)) B ad G) S'.there e' i
    by_cases hlt : i < ds.length
    · have hx : ds[i]? = some ds[i] := List.getElem?_eq_getElem hlt
      refine .inr ⟨k1 _ hx, fun H' => ∃ as : List Addr, as.length = i + 1 ∧ Sta K (WL Wd (Dl :: as)) B ad H0 H' σ G ∧ Ex (less H1 (Zs Wd B ad G)) (less H' (Zs (WL Wd (Dl :: as)) B ad G)) ∧ H' Dl = some (.lst (as.map V.ref)) ∧ (Dl :: as).Nodup ∧
        (∀ a ∈ as, H' a = some (.lst [])) ∧ ∀ a ∈ Dl :: as, H0 a = none ∧ ¬ InB B a ∧ ¬ Wd a, fun H3 h3 => ⟨ds.length - (i + 1), by omega, rfl, hlt, h3⟩, fun v H'' hyl => ?_⟩
      obtain ⟨ex, dx⟩ := k3 v H'' hyl
      have S2 := S'.ext ex
      refine ⟨by simp [wipe, List.set_set], ?_⟩
      unfold tYes
      dsimp only
      try rw [if_pos rfl]
      refine ⟨Nat.zero_le _, fun p hp => ?_⟩
      obtain ⟨S3, e3⟩ := S2.lend (o := .lst []) hp
      obtain ⟨g1, g2, g3⟩ := S2.fresh hp
      rw [wl_snoc] at S3 e3
      have np : p ∉ Dl :: as := fun z => g3 (.inl (.inr z))
      have nD : Dl ≠ p := fun z => np (z ▸ List.mem_cons_self)
      have o3 : upd H'' p (.lst []) Dl = some (.lst (as.map V.ref)) := by rw [upd_ne nD]; exact ex _ _ o'
      refine ⟨as.map V.ref, o3, by rw [List.length_map]; exact Nat.lt_of_le_of_lt (show as.length ≤ 1000 by omega) (by decide), ?_⟩
      obtain ⟨S4, e4⟩ := S3.foreign (o := .lst (as.map V.ref ++ [.ref p])) (p := Dl) (.inr (by simp)) f1 f2
      refine ⟨as ++ [p], by simp [al], S4, ?_, ?_, ?_, ?_, ?_⟩
      · have z : Ex (less H1 (Zs Wd B ad G)) (less H'' (Zs (WL Wd (Dl :: as)) B ad G)) := e'.trans (less_mono ex)
        rw [← e3, ← e4] at z
        exact z
      · rw [upd_same]; simp
      · have := List.nodup_append.mpr ⟨nd, List.nodup_cons.mpr ⟨List.not_mem_nil, List.nodup_nil⟩, fun a ha b hb z => np (by have e := List.mem_singleton.mp hb; subst e; subst z; exact ha)⟩
        exact this
      · intro b hb
        have nb : b ≠ Dl := by
          rintro rfl
          rcases List.mem_append.mp hb with z | z
          · exact (List.nodup_cons.mp nd).1 z
          · exact nD (List.mem_singleton.mp z)
        rw [upd_ne nb]
        rcases List.mem_append.mp hb with z | z
        · rw [upd_ne (show b ≠ p from fun y => np (by rw [← y]; exact List.mem_cons_of_mem _ z))]
          exact ex _ _ (emp b z)
        · rw [List.mem_singleton.mp z, upd_same]
      · intro b hb
        rcases List.mem_append.mp (show b ∈ (Dl :: as) ++ [p] from hb) with z | z
        · exact fr b z
        · rw [List.mem_singleton.mp z]
          exact ⟨g1, g2, fun y => g3 (.inl (.inl y))⟩
    · have en : i = ds.length := by omega
      subst en
      exact .inl ⟨k2 (Nat.le_refl _), q ds p Dl as H' al S' ((Xb.lz e1).trans e') o' nd emp fr⟩) xp_no
theorem sw_nest {Φ : Out → Prop} {tz : TS} (hi : i < G.length) (h : EW K cs W te G (fun x => ∃ ds, x = .tuple ds ∧ ds.length ≤ 1000 ∧ NW K cs W tu (G.set i .un) i (ds.map fun _ => []) (fun G' xss' => SW K cs W tz (G'.set i (.d (.list (xss'.map PyData.list)))) Φ)) noX) :
    SW K cs W (tSeq (tAsg (tLc (iTup K te) (gName k) tYes (tLst tNil) [k]) (gName i)) (tSeq tu tz)) G Φ := fun Wd B ad H0 H σ D S q => by
  show tLc (iTup K te) (gName k) tYes (tLst tNil) [k] σ H fun x H1 => tu { D with nx := tz D } (σ.set i (some x)) H1
  refine nest_lc S h fun ds p a0 as H2 al S2 e2 o2 nd emp fr => ?_
  have ex : Ex (less H2 (Zs (WL Wd (a0 :: as)) B ad G)) (less H2 (Zs (WL Wd (a0 :: as)) B ad (G.set i .un))) := less_sub fun a z => Zs.set_of (fun _ z => by cases z) z
  have N : Nst K Wd B ad H0 H2 (σ.set i (some (.ref a0))) (G.set i .un) i a0 as (ds.map fun _ => []) :=
    ⟨S2.setU, List.getElem?_set_self (by rw [S.len]; exact hi), List.getElem?_set_self hi, o2, nd, by rw [List.length_map]; exact al, fun j a ja => by
      have jl : j < ds.length := by rw [← al]; exact (List.getElem?_eq_some_iff.mp ja).1
      exact ⟨[], [], by rw [List.getElem?_map, List.getElem?_eq_getElem jl]; rfl, emp a (List.mem_of_getElem? ja), .nil⟩, fr⟩
  refine p Wd B ad H0 H2 _ _ a0 as N fun G' xss' hz H' σ' N' e' => ?_
  obtain ⟨S3, e3⟩ := N'.done
  exact hz Wd B ad H0 H' σ' D S3 fun o po => (q o po).mono (((e2.trans ex).trans e').trans e3)
end


end
section
open PySem PyProof.Rows L2 Evl U.Hull

section
variable {K : Fg} {cs : Cs} {gs : Gs} {φ : PyData → Prop} {A : Rs → Prop} {ε : Xw → Prop} {w : World} {W : WX}
/-! ### the law's map behind a map -/
noncomputable def P_lends : Pr := fun ds A => ∃ (a b n st n2 : Nat) (m k : List (List Fr)), ds = [mp m, mp k, .int (st : Int)] ∧ Mp a n st m ∧ Mp b n2 n k ∧ (n = 1 ∨ n = 2) ∧ (st = 1 ∨ st = 2) ∧ (n2 = 1 ∨ n2 = 2) ∧ a ≤ 200 ∧ a + b ≤ 200 ∧ A (.ok (mp (behF st m k)))
noncomputable def t__law_ends (K : Fg) : TS := (tSeq (tAsg (tCB (rTupQ K) (tCons (tLc (iRng1 (tCons (tVar 2) tNil)) (gName 6) tYes (tTup (tCons (tC (V.int 0)) (tCons (tC (V.int 1)) tNil))) [6]) tNil)) (gName 3))
  (tSeq (tAsg (tCall (spW0 K P_lled) [] E0 (tCons (tVar 1) (tCons (tCall (spW0 K P_lled) [] E0 (tCons (tVar 0) (tCons (tVar 3) tNil))) tNil))) (gName 4))
  (tSeq (tAsg (tLc (iTup K (tVar 1)) (gName 9) tYes (tLst tNil) [9]) (gName 5))
  (tSeq (tFor (iRng1 (tCons (tVar 2) tNil)) (gName 6) (tSeq (tAsg (tOp (rCatA K) (tOp (rCatA K) (tSl (rSlA K) (tVar 3) tNoPart (tPart (tVar 6))) (tTup (tCons (tTup (tCons (tC (V.int 1)) (tCons (tC (V.int 1)) tNil))) tNil))) (tSl (rSlA K) (tVar 3) (tPart (tOp rAddI (tVar 6) (tC (V.int 1)))) tNoPart)) (gName 7))
  (tSeq (tAsg (tCall (spW0 K P_lled) [] E0 (tCons (tVar 1) (tCons (tCall (spW0 K P_lled) [] E0 (tCons (tVar 0) (tCons (tVar 7) tNil))) tNil))) (gName 8))
  (tFor (iRng1 (tCons (tCB (rLenQ K) (tCons (tVar 1) tNil)) tNil)) (gName 9) (tDrop (tBM K "list" rAppend (tOp (rIx K) (tVar 5) (tVar 9)) (tCons (tCall (spP K P_lsub) [] E0 (tCons (tOp (rIx K) (tVar 8) (tVar 9)) (tCons (tOp (rIx K) (tVar 4) (tVar 9)) tNil))) tNil)))))))
  (tRet (tCB (rTupQ K) (tCons (tLc (iRng1 (tCons (tCB (rLenQ K) (tCons (tVar 1) tNil)) tNil)) (gName 9) tYes (tCB (rTupQ K) (tCons (tOp (rCatL K) (tOp (rIx K) (tVar 5) (tVar 9)) (tLst (tCons (tOp (rIx K) (tVar 4) (tVar 9)) tNil))) tNil)) [9]) tNil)))))))
-- slots of _law_ends: 0 _law_first, 1 _law_then, 2 _law_start, 3 _law_none, 4 _law_last, 5 _law_found, 6 _law_at, 7 _law_unit, 8 _law_there, 9 _law_row
theorem ln__law_ends : ∀ ds A, P_lends ds A → ds.length = 3 := fun ds A h => by obtain ⟨_, _, _, _, _, _, _, rfl, _⟩ := h; rfl
noncomputable def unitF (st i : Nat) : List Fr := List.replicate i (0, 1) ++ (1, 1) :: List.replicate (st - (i + 1)) (0, 1)
noncomputable def zeroF (st : Nat) : List Fr := List.replicate st (0, 1)
theorem zero_last {b st : Nat} {r : List Fr} (hst : st = 1 ∨ st = 2) (lr : r.length = st + 1) (gr : Gds b r) (z0 : Gds 1 (zeroF st)) : r.take st ++ [rowF r (zeroF st)] = r := qt_of (by simp (disch := with_unfolding_all
  have hv := rowF_val hst lr gr (by simp [zeroF]) z0
  have hg := rowF_gd lr gr z0
  rcases hst with rfl | rfl
  · obtain ⟨x, y, rfl⟩ := len2 lr
    have : rowF [x, y] (zeroF 1) = y := gd_inj hg (gr y (by simp)) (by
      rw [hv]
      show val y + val x * val (0, 1) = val y
      rw [val_none]; grind)
    rw [this]; rfl
  · obtain ⟨x, y, z, rfl⟩ := len3 lr
    have : rowF [x, y, z] (zeroF 2) = z := gd_inj hg (gr z (by simp)) (by
      rw [hv]
      show val z + val x * val (0, 1) + val y * val (0, 1) = val z
      rw [val_none]; grind)
    rw [this]; rfl
  ) only [↓qt_eq])
theorem unit_col {b st i : Nat} {r : List Fr} (hst : st = 1 ∨ st = 2) (lr : r.length = st + 1) (gr : Gds b r) (z0 : Gds 1 (zeroF st)) (u0 : Gds 1 (unitF st i)) (hi : i < st) : r[i]? = some (subF (rowF r (unitF st i)) (rowF r (zeroF st))) := qt_of (by simp (disch := with_unfolding_all
  have hv := rowF_val hst lr gr (by simp [zeroF]) z0
  have hg := rowF_gd lr gr z0
  have hv' := rowF_val hst lr gr (by simp [unitF]; omega) u0
  have hg' := rowF_gd lr gr u0
  have hs := val_sub hg' hg
  rw [hv, hv'] at hs
  have il : i < r.length := by omega
  rw [List.getElem?_eq_getElem il]
  refine congrArg some (gd_inj (gr _ (List.getElem_mem _)) (hg'.sub hg) ?_)
  rw [hs]
  rcases hst with rfl | rfl
  · obtain ⟨x, y, rfl⟩ := len2 lr
    obtain rfl : i = 0 := by omega
    show val x = (val y + val x * val (1, 1)) - (val y + val x * val (0, 1))
    rw [val_none, val_one]; grind
  · obtain ⟨x, y, z, rfl⟩ := len3 lr
    have : i = 0 ∨ i = 1 := by omega
    rcases this with rfl | rfl
    · show val x = (val z + val x * val (1, 1) + val y * val (0, 1)) - (val z + val x * val (0, 1) + val y * val (0, 1))
      rw [val_none, val_one]; grind
    · show val y = (val z + val x * val (0, 1) + val y * val (1, 1)) - (val z + val x * val (0, 1) + val y * val (0, 1))
      rw [val_none, val_one]; grind
  ) only [↓qt_eq])
noncomputable def RowsAt (c : List (List Fr)) (i j : Nat) (xss : List (List PyData)) : Prop := xss.length = c.length ∧ ∀ (q : Nat) (r : List Fr), c[q]? = some r → xss[q]? = some ((r.take (if q < j then i + 1 else i)).map fr)
theorem rows_step {c : List (List Fr)} {i j : Nat} {xss : List (List PyData)} {r : List Fr} {x : Fr} (h : RowsAt c i j xss) (hq : c[j]? = some r) (hc : r[i]? = some x) : RowsAt c i (j + 1) (xss.set j ((r.take i).map fr ++ [fr x])) := by
  refine ⟨by rw [List.length_set]; exact h.1, fun q s hs => ?_⟩
  by_cases z : q = j
  · subst z
    rw [hq] at hs
    cases hs
    rw [List.getElem?_set_self (by rw [h.1]; exact (List.getElem?_eq_some_iff.mp hq).1), if_pos (Nat.lt_succ_self q), List.take_succ, hc]
    simp
  · rw [List.getElem?_set_ne (Ne.symm z), h.2 q s hs]
    by_cases y : q < j
    · rw [if_pos y, if_pos (by omega)]
    · rw [if_neg y, if_neg (by omega)]
theorem rows_end {c : List (List Fr)} {i n : Nat} {xss : List (List PyData)} (h : RowsAt c i n xss) (hn : c.length = n) : RowsAt c (i + 1) 0 xss := by
  refine ⟨h.1, fun q s hs => ?_⟩
  have := (List.getElem?_eq_some_iff.mp hs).1
  rw [h.2 q s hs, if_pos (by omega), if_neg (by omega)]
theorem sw_opq {t1 t2 t3 : TS} {G : Gam} {Φ : Out → Prop} (h : ∀ r, r = t3 → SW K cs W (tSeq t1 (tSeq t2 r)) G Φ) : SW K cs W (tSeq t1 (tSeq t2 t3)) G Φ := h _ rfl
theorem rd__law_ends {ds A} (h : P_lends ds A) : SW K cs W0 (t__law_ends K) (frame 10 ds) (rts0 A) := qt_of (by simp (disch := with_unfolding_all
  obtain ⟨a, b, n, st, n2, m, k, rfl, M, N, hn, hst, hn2, ha, hb, h⟩ := h
  have z0 : Gds 1 (zeroF st) := fun x hx => by rw [List.eq_of_mem_replicate hx]; exact gd_none
  have u0 : ∀ i, Gds 1 (unitF st i) := fun i x hx => by
    unfold unitF at hx
    rcases List.mem_append.mp hx with z | z
    · rw [List.eq_of_mem_replicate z]; exact gd_none
    · rcases List.mem_cons.mp z with rfl | z
      · exact gd_one
      · rw [List.eq_of_mem_replicate z]; exact gd_none
  have C := beh_mp M N
  have mz : ∀ {x y : Nat}, x ≤ 2 → y ≤ 300 → x * y ≤ 600 := fun h1 h2 => Nat.le_trans (Nat.mul_le_mul h1 h2) (by decide)
  unfold t__law_ends
  refine sw_opq fun r hr => ?_
  refine sw_seq ?_
  walk_at "w"
  rw [show ((st : Int)).toNat = st from Int.toNat_natCast st, rng_map]
  refine lcM (fun _ => fr (0, 1)) (by rw [List.length_range]; omega) (unk1 rfl) (fun y my => ?_) ?_
  · walk_at "w"
    rfl
  walk_at "w"
  have ez : (List.range st).map (fun _ => fr (0, 1)) = (zeroF st).map fr := by
    unfold zeroF
    rw [List.map_replicate]
    have := List.map_const' (l := List.range st) (b := fr (0, 1))
    rw [List.length_range] at this
    exact this
  rw [ez]
  have ma : st * (a + 1 + 1) ≤ 600 := mz (by omega) (by omega)
  obtain ⟨gz, lz⟩ := ledF_gd M z0
  refine c_lled M (by omega) ⟨by omega, by omega⟩ z0 (by simp [zeroF]) ?_
  walk_at "w"
  have mb : n * (b + (a + st * (a + 1 + 1)) + 1) ≤ 2 * 801 := Nat.mul_le_mul (by omega) (by omega)
  refine c_lled N (by omega) ⟨by omega, by omega⟩ gz lz ?_
  walk_at "w"
  subst hr
  refine sw_nest (i := 5) ?_ ?_
  · show 5 < 10
    decide
  walk_at "w"
  refine ⟨by rw [List.length_map, N.len]; omega, ?_⟩
  rw [← led_beh M N hn hst z0 (by simp [zeroF])]
  refine nw_for (by decide) ?_
  walk_at "w"
  refine ⟨st, rfl, by omega, fun i G xss => (∃ e6 e7 e8 e9, G = [.d (mp m), .d (mp k), .d (.int (st : Int)), .d (frs (zeroF st)), .d (frs (ledF (behF st m k) (zeroF st))), .un, e6, e7, e8, e9]) ∧ RowsAt (behF st m k) i 0 xss, ⟨⟨_, _, _, _, rfl⟩, ?_⟩, ?_, ?_⟩
  · refine ⟨by simp [behF], fun q r hq => ?_⟩
    have ql : q < k.length := by
      have := (List.getElem?_eq_some_iff.mp hq).1
      simpa [behF] using this
    rw [if_neg (Nat.not_lt_zero q), List.take_zero, List.getElem?_map, List.getElem?_map, List.getElem?_eq_getElem ql]
    rfl
  · rintro i G xss hi ⟨⟨e6, e7, e8, e9, rfl⟩, hx⟩
    refine nw_seq (nw_asg (by decide) ?_)
    walk_at "w"
    have c1 : cutD ((zeroF st).map fr) none (some (i : Int)) = (List.replicate i ((0, 1) : Fr)).map fr := by
      rcases hst with rfl | rfl
      · obtain rfl : i = 0 := by omega
        rfl
      · have : i = 0 ∨ i = 1 := by omega
        rcases this with rfl | rfl <;> rfl
    have c2 : cutD ((zeroF st).map fr) (some ((i : Int) + 1)) none = (List.replicate (st - (i + 1)) ((0, 1) : Fr)).map fr := by
      rcases hst with rfl | rfl
      · obtain rfl : i = 0 := by omega
        rfl
      · have : i = 0 ∨ i = 1 := by omega
        rcases this with rfl | rfl <;> rfl
    rw [c1]
    refine ⟨by simp; omega, ?_⟩
    walk_at "w"
    rw [c2]
    refine ⟨by simp; omega, ?_⟩
    have eu : (List.replicate i ((0, 1) : Fr)).map fr ++ [PyData.tuple [.int 1, .int 1]] ++ (List.replicate (st - (i + 1)) ((0, 1) : Fr)).map fr = (unitF st i).map fr := by
      unfold unitF
      rw [List.map_append, List.map_cons, List.append_assoc]
      rfl
    rw [eu]
    obtain ⟨gu, lu⟩ := ledF_gd M (u0 i)
    have lun : (unitF st i).length = st := by simp [unitF]; omega
    refine nw_seq (nw_asg (by decide) ?_)
    walk_at "w"
    refine c_lled M (by omega) ⟨by omega, by omega⟩ (u0 i) lun ?_
    walk_at "w"
    refine c_lled N (by omega) ⟨by omega, by omega⟩ gu lu ?_
    walk_at "w"
    rw [← led_beh M N hn hst (u0 i) lun]
    refine nw_for (by decide) ?_
    walk_at "w"
    have mC : n * (b + a + 1) ≤ 2 * 201 := Nat.mul_le_mul (by omega) (by omega)
    refine ⟨n2, by rw [List.length_map, N.len], by omega, fun j G xss => (∃ e9, G = [.d (mp m), .d (mp k), .d (.int (st : Int)), .d (frs (zeroF st)), .d (frs (ledF (behF st m k) (zeroF st))), .un, .d (.int (i : Int)), .d (frs (unitF st i)), .d (frs (ledF (behF st m k) (unitF st i))), e9]) ∧ RowsAt (behF st m k) i j xss, ⟨⟨_, rfl⟩, hx⟩, ?_, ?_⟩
    · rintro j G xss' hj ⟨⟨e9, rfl⟩, hx⟩
      have jl : j < (behF st m k).length := by rw [C.len]; exact hj
      have hq : (behF st m k)[j]? = some (behF st m k)[j] := List.getElem?_eq_getElem jl
      have hr := C.row _ (List.mem_of_getElem? hq)
      have hx2 := hx.2 j _ hq
      rw [if_neg (Nat.lt_irrefl j)] at hx2
      have g1 := rowF_gd hr.1 hr.2 z0
      have g2 := rowF_gd hr.1 hr.2 (u0 i)
      have mB : st * (1 + n * (b + a + 1) + b + 1 + 1 + 1) ≤ 2 * 610 := Nat.mul_le_mul (by omega) (by omega)
      have hl1 : (ledF (behF st m k) (unitF st i))[j]? = some (rowF (behF st m k)[j] (unitF st i)) := by
        unfold ledF
        rw [List.getElem?_map, hq]
        rfl
      have hl2 : (ledF (behF st m k) (zeroF st))[j]? = some (rowF (behF st m k)[j] (zeroF st)) := by
        unfold ledF
        rw [List.getElem?_map, hq]
        rfl
      refine nw_app hx2 (by simp; omega) ?_ ?_
      · walk_at "w"
        rfl
      · walk_at "w"
        refine atM hl1 ?_
        walk_at "w"
        refine atM hl2 ?_
        walk_at "w"
        exact ⟨⟨_, rfl⟩, rows_step hx hq (unit_col hst hr.1 hr.2 z0 (u0 i) hi)⟩
    · rintro G xss' ⟨⟨e9, rfl⟩, hx⟩
      exact ⟨⟨_, _, _, _, rfl⟩, rows_end hx C.len⟩
  · rintro G xss ⟨⟨e6, e7, e8, e9, rfl⟩, hx⟩
    refine sw_wk (G1 := [.d (mp m), .d (mp k), .d (.int (st : Int)), .d (frs (zeroF st)), .d (frs (ledF (behF st m k) (zeroF st))), .d (.list (xss.map PyData.list)), e6, e7, e8, .un]) (.cons (.cons (.cons (.cons (.cons (.cons (.cons (.cons (.cons (.drop .nil)))))))))) ?_
    walk_at "w"
    refine ⟨by rw [List.length_map, N.len]; omega, ?_⟩
    rw [Int.toNat_natCast, List.length_map, N.len, rng_map]
    refine lcM (fun q : Nat => frs ((behF st m k).getD q [])) (by rw [List.length_range]; omega) (unk1 rfl) (fun q mq => ?_) ?_
    · have ql : q < (behF st m k).length := by rw [C.len]; exact List.mem_range.mp mq
      have hq : (behF st m k)[q]? = some (behF st m k)[q] := List.getElem?_eq_getElem ql
      have hr := C.row _ (List.mem_of_getElem? hq)
      have hx2 := hx.2 q _ hq
      rw [if_neg (Nat.not_lt_zero q)] at hx2
      walk_at "w"
      refine atM hx2 ?_
      walk_at "w"
      have hl : (ledF (behF st m k) (zeroF st))[q]? = some (rowF (behF st m k)[q] (zeroF st)) := by
        unfold ledF
        rw [List.getElem?_map, hq]
        rfl
      refine atM hl ?_
      walk_at "w"
      refine ⟨by simp; omega, ?_⟩
      walk_at "w"
      show PyData.tuple (((behF st m k)[q].take st).map fr ++ [fr (rowF (behF st m k)[q] (zeroF st))]) = _
      have e := zero_last hst hr.1 hr.2 z0
      have e2 : ((behF st m k)[q].take st).map fr ++ [fr (rowF (behF st m k)[q] (zeroF st))] = (behF st m k)[q].map fr := by
        rw [← List.map_singleton (f := fr), ← List.map_append, e]
      rw [e2, List.getD_eq_getElem?_getD, hq]
      rfl
    · walk_at "w"
      have e : (List.range n2).map (fun q => frs ((behF st m k).getD q [])) = (behF st m k).map frs := by
        refine List.ext_getElem? fun q => ?_
        rw [List.getElem?_map, List.getElem?_map]
        by_cases z : q < n2
        · have z2 : q < (behF st m k).length := by rw [C.len]; exact z
          rw [List.getElem?_range z]
          show some (frs ((behF st m k).getD q [])) = _
          rw [List.getD_eq_getElem?_getD, List.getElem?_eq_getElem z2]
          rfl
        · rw [List.getElem?_eq_none (by simp; omega), List.getElem?_eq_none (by rw [C.len]; omega)]
          rfl
      rw [e]
      exact h
  ) only [↓qt_eq])
end


end
section
open PySem PyProof.Rows L2 Evl U.Hull

section
variable {K : Fg} {cs : Cs} {gs : Gs} {φ : PyData → Prop} {A : Rs → Prop} {ε : Xw → Prop} {w : World} {W : WX}
-- slots of told17: 0 _law_first, 1 _law_then, 2 why
end


end
section
open PySem PyProof.Rows L2 Evl U.Hull

section
variable {K : Fg} {cs : Cs} {gs : Gs} {φ : PyData → Prop} {A : Rs → Prop} {ε : Xw → Prop} {w : World} {W : WX}
/-! ### texts as rows of signs -/
noncomputable abbrev tx (l : List Nat) : Str := ⟨l.toArray⟩
theorem tx_of (z : Str) : z = tx (TL.tl z) := (TL.mk_tl z).symm
theorem tx_len (l : List Nat) : (tx l).length = l.length := by show l.toArray.size = _; simp
theorem tx_app (l m : List Nat) : tx l ++ tx m = tx (l ++ m) := TL.ext_tl (by rw [TL.tl_append])
theorem tx_stroke : ("/" : Str) = tx [47] := TL.ext_tl (by rw [TL.tl_ofString] <;> rfl)
/-! ### whole numbers in figures -/
-- slots of figures_of: 0 text, 1 most, 2 sign
/-! ### a whole number with its sign -/
-- slots of whole_in: 0 text, 1 most, 2 found
/-! ### a fraction -/
-- slots of part_in: 0 text, 1 most, 2 above, 3 below, 4 first, 5 stroke, 6 second
end


end
section
open PySem PyProof.Rows L2 Evl U.Hull

section
variable {K : Fg} {cs : Cs} {gs : Gs} {φ : PyData → Prop} {A : Rs → Prop} {ε : Xw → Prop} {w : World} {W : WX}
/-! ### read_part, by the program and by the law -/
-- slots of read_part: 0 text, 1 found
-- slots of _law_read: 0 _law_text, 1 why
end


end
section
open PySem PyProof.Rows L2 Evl U.Hull

section
variable {K : Fg} {cs : Cs} {gs : Gs} {φ : PyData → Prop} {A : Rs → Prop} {ε : Xw → Prop} {w : World} {W : WX}
/-! ### the first stroke, how many there are -/
/-! ### by the law -/
-- slots of _law_count: 0 _law_text, 1 _law_sign
end


end
section
open PySem PyProof.Rows L2 Evl U.Hull

section
variable {K : Fg} {cs : Cs} {gs : Gs} {φ : PyData → Prop} {A : Rs → Prop} {ε : Xw → Prop} {w : World} {W : WX}
/-! ### what is due by the law -/
-- slots of _law_due: 0 _law_text, 1 _law_at, 2 _law_first, 3 _law_below, 4 _law_signed, 5 _law_above
end


end
section
open PySem PyProof.Rows L2 Evl U.Hull

section
variable {K : Fg} {cs : Cs} {gs : Gs} {φ : PyData → Prop} {A : Rs → Prop} {ε : Xw → Prop} {w : World} {W : WX}
/-! ### how a fraction is written -/
noncomputable def intL (i : Int) : List Nat := if i < 0 then 45 :: TL.numL i.natAbs else TL.numL i.natAbs
theorem str_int (i : Int) : Str.ofString (toString i) = tx (intL i) := qt_of (by simp (disch := with_unfolding_all
  refine TL.ext_tl ?_
  show _ = intL i
  unfold intL
  by_cases h : i < 0
  · rw [if_pos h]
    obtain ⟨n, rfl⟩ : ∃ n : Nat, i = -((n + 1 : Nat) : Int) := ⟨i.natAbs - 1, by omega⟩
    rw [TL.tl_ofString]
    have e : toString (-((n + 1 : Nat) : Int)) = "-" ++ toString ((n + 1 : Nat) : Int) := rfl
    rw [e, String.toList_append, List.map_append]
    have e2 := TL.tl_num (n + 1)
    rw [TL.tl_ofString] at e2
    rw [e2, Int.natAbs_neg, Int.natAbs_natCast]
    rfl
  · rw [if_neg h]
    have e2 := TL.tl_num i.natAbs
    rw [show ((i.natAbs : Nat) : Int) = i by omega] at e2
    exact e2
  ) only [↓qt_eq])
noncomputable def partT (p : Fr) : List Nat := if p.2 = 1 then intL p.1 else intL p.1 ++ 47 :: intL p.2
theorem intL_len {i : Int} (h : i.natAbs < 10 ^ 700) : (intL i).length ≤ 701 := by
  have := TL.numL_len (k := 700) (by decide) h
  unfold intL
  split
  · rw [List.length_cons]; omega
  · omega
theorem log_small {i : Int} (h : i.natAbs < 10 ^ 500) : i.natAbs.log2 < 1920 := by
  by_cases z : i.natAbs = 0
  · rw [z]; decide
  · rw [Nat.log2_lt z]
    exact Nat.lt_trans h (by decide +kernel)
noncomputable def P_partText : Pr := fun ds A => ∃ p : Fr, ds = [fr p] ∧ p.1.natAbs < 10 ^ 500 ∧ p.2.natAbs < 10 ^ 500 ∧ A (.ok (.str (tx (partT p))))
noncomputable def t_part_text (K : Fg) : TS := (tRet (tIf (tTest (tOp rEq (tOp (rIx K) (tVar 0) (tC (V.int 1))) (tC (V.int 1)))) (tFmt (tOp (rIx K) (tVar 0) (tC (V.int 0)))) (tJoined [(tFmt (tOp (rIx K) (tVar 0) (tC (V.int 0)))), (tC (V.str "/")), (tFmt (tOp (rIx K) (tVar 0) (tC (V.int 1))))])))
-- slots of part_text: 0 one
theorem ln_part_text : ∀ ds A, P_partText ds A → ds.length = 1 := fun ds A h => by obtain ⟨_, rfl, _⟩ := h; rfl
theorem rd_part_text {ds A} (h : P_partText ds A) : SW K cs W0 (t_part_text K) (frame 1 ds) (rts0 A) := qt_of (by simp (disch := with_unfolding_all
  obtain ⟨p, rfl, h1, h2, q⟩ := h
  have l1 := intL_len (Nat.lt_trans h1 (Nat.pow_lt_pow_right (by decide) (show 500 < 700 by decide)))
  have l2 := intL_len (Nat.lt_trans h2 (Nat.pow_lt_pow_right (by decide) (show 500 < 700 by decide)))
  unfold partT at q
  unfold t_part_text
  walk_at "w"
  refine cnd_d (fun e => ?_) (fun e => ?_)
  · rw [if_pos e] at q
    walk_at "w"
    refine .inr ⟨_, rfl, log_small h1, ?_⟩
    rw [str_int]
    exact q
  · rw [if_neg e] at q
    walk_at "w"
    refine .inr ⟨_, rfl, log_small h1, ?_⟩
    rw [str_int]
    have sz : ∀ m : List Nat, m.length ≤ 5000 → (tx m).length ≤ sizeLine := fun m hm => by rw [tx_len]; exact Nat.le_trans hm (by decide)
    have e0 : Str.empty = tx [] := rfl
    refine ⟨_, rfl, by rw [e0, tx_app]; exact sz _ (by simp; omega), ?_⟩
    rw [e0, tx_app, List.nil_append]
    walk_at "w"
    rw [tx_stroke, tx_app]
    refine ⟨sz _ (by simp; omega), ?_⟩
    walk_at "w"
    refine .inr ⟨_, rfl, log_small h2, ?_⟩
    rw [str_int]
    refine ⟨_, rfl, by rw [tx_app]; exact sz _ (by simp; omega), ?_⟩
    rw [tx_app]
    walk_at "w"
    rw [List.append_assoc]
    exact q
  ) only [↓qt_eq])
end


end
section
/-! Likeness of deeper data. -/
open PySem PyProof.Rows L2 Evl
end
end
section
local macro_rules | `(tactic| walk_at "sd") => `(tactic| first | with_reducible assumption | omega | rfl | decide | assumption | exact Gd.mono (by assumption) (by first | decide | omega) | (simp only [List.length_map, List.length_append, List.length_cons, List.length_nil]; omega) | (simp; done))
local macro_rules | `(tactic| walk_at "ca") => `(tactic| first
  | ((with_reducible apply c_pull); (case h0 => walk_at "sd"); (case h1 => walk_at "sd"); intro _ _ _)
  | ((with_reducible apply c_entry); intro _ _)
  | ((with_reducible apply c_plus); (case hp => walk_at "sd"); (case hq => walk_at "sd"); (case hl => walk_at "sd"); intro _)
  | ((with_reducible apply c_times); (case hp => walk_at "sd"); (case hq => walk_at "sd"); (case hl => walk_at "sd"); intro _)
  | ((with_reducible apply c_ladd); (case hp => walk_at "sd"); (case hq => walk_at "sd"); (case hl => walk_at "sd"); intro _)
  | ((with_reducible apply c_lsub); (case hp => walk_at "sd"); (case hq => walk_at "sd"); (case hl => walk_at "sd"); intro _)
  | ((with_reducible apply c_lmul); (case hp => walk_at "sd"); (case hq => walk_at "sd"); (case hl => walk_at "sd"); intro _)
  | ((with_reducible apply c_map); (case h1 => walk_at "sd"); (case h2 => walk_at "sd"); (case l1 => walk_at "sd"); (case l2 => walk_at "sd"); intro _ _))
local macro_rules | `(tactic| walk_at "keo") => `(tactic| first
  | ((with_reducible apply ew_ixO); (case hi => rfl))
  | with_reducible refine ew_add ?_
  | with_reducible refine ew_sub ?_
  | with_reducible refine ew_mul ?_
  | with_reducible refine ew_lt ?_
  | with_reducible refine ew_gt ?_
  | with_reducible refine ew_eq ?_
  | with_reducible refine ew_ne ?_
  | with_reducible refine ew_eqD ?_
  | with_reducible refine ew_isNo ?_
  | with_reducible refine ew_noNo ?_
  | with_reducible refine ew_catL ?_
  | with_reducible refine ew_catA ?_
  | with_reducible refine ew_inS ?_
  | with_reducible refine ew_addStr ?_
  | with_reducible refine ew_ix ?_)
local macro_rules | `(tactic| walk_at "keb") => `(tactic| first
  | ((with_reducible apply ew_tupO); (case hi => rfl))
  | with_reducible refine ew_len ?_
  | with_reducible refine ew_list ?_
  | with_reducible refine ew_tuple ?_
  | with_reducible refine ew_isi ?_
  | with_reducible refine ew_strI ?_)
local macro_rules | `(tactic| walk_at "kec") => `(tactic| first
  | ((with_reducible apply ew_glob); (case h => assumption))
  | with_reducible refine ew_int ?_
  | with_reducible refine ew_str ?_
  | with_reducible refine ew_non ?_)
local macro_rules | `(tactic| walk_at "kev") => `(tactic| first
  | ((with_reducible apply ew_var); (case h => rfl)))
local macro_rules | `(tactic| walk_at "kex") => `(tactic| first
  | ((with_reducible apply ew_callB); (case hi => rfl))
  | ((with_reducible apply ew_callWB); (case hi => rfl))
  | with_reducible refine ew_tup1 ?_
  | with_reducible refine ew_tup2 ?_
  | with_reducible refine ew_tup3 ?_
  | with_reducible refine ew_tup4 ?_
  | with_reducible refine ew_tup ?_
  | with_reducible refine ew_lst0 ?_
  | with_reducible refine ew_lst1 ?_
  | with_reducible refine ew_lst2 ?_
  | with_reducible refine ew_lst3 ?_
  | with_reducible refine ew_lst ?_
  | with_reducible refine ew_neg ?_
  | with_reducible refine ew_if ?_
  | with_reducible refine ew_cP ?_
  | with_reducible refine ew_c0 ?_
  | with_reducible refine ew_cW ?_
  | with_reducible refine ew_slA ?_
  | with_reducible refine ew_lc ?_
  | with_reducible refine ew_joinS ?_
  | with_reducible refine ew_fmt ?_
  | with_reducible refine ew_joined ?_
  | with_reducible refine ew_callNW ?_
  | with_reducible refine ew_callN ?_
  | with_reducible refine ew_callN0 ?_)
local macro_rules | `(tactic| walk_at "kew") => `(tactic| first
  | ((with_reducible show EW _ _ _ (tVar _) _ _ _); walk_at "kev")
  | ((with_reducible show EW _ _ _ (tOp _ _ _) _ _ _); walk_at "keo")
  | ((with_reducible show EW _ _ _ (tC _) _ _ _); walk_at "kec")
  | ((with_reducible show EW _ _ _ (tCB _ _) _ _ _); walk_at "keb")
  | walk_at "kex")
local macro_rules | `(tactic| walk_at "ksw") => `(tactic| first
  | ((with_reducible apply sw_app); (case hi => rfl); (case hl => walk_at "sd"))
  | ((with_reducible apply sw_clear); (case hi => rfl))
  | with_reducible refine sw_next ?_
  | with_reducible refine sw_brk ?_
  | with_reducible refine sw_if ?_
  | with_reducible refine sw_ret ?_
  | with_reducible refine sw_dropX ?_
  | with_reducible refine sw_for ?_
  | with_reducible refine sw_try ?_
  | with_reducible refine sw_asg ?_
  | ((with_reducible apply sw_dset); (case hi => rfl))
  | ((with_reducible apply sw_setI); (case hi => rfl))
  | with_reducible refine sw_asgT ?_)
local macro_rules | `(tactic| walk_at "ktw") => `(tactic| first
  | with_reducible refine tw_test ?_
  | with_reducible refine tw_B ?_
  | with_reducible refine tw_yes ?_
  | with_reducible refine tw_not ?_
  | with_reducible refine tw_and ?_
  | with_reducible refine tw_or ?_)
local macro_rules | `(tactic| walk_at "kaw") => `(tactic| first
  | with_reducible refine aw_nil ?_
  | with_reducible refine aw_cons ?_)
local macro_rules | `(tactic| walk_at "kiw") => `(tactic| first
  | with_reducible refine iw_list ?_
  | with_reducible refine iw_tup ?_
  | with_reducible refine iw_rng1 ?_
  | with_reducible refine iw_rng2 ?_
  | with_reducible refine iw_zipM ?_)
local macro_rules | `(tactic| walk_at "kow") => `(tactic| first
  | with_reducible refine ow_none ?_
  | with_reducible refine ow_some ?_)
local macro_rules | `(tactic| walk_at "km") => `(tactic| first
  | ((with_reducible apply x_all); (case h => exact allB_map))
  | ((with_reducible apply x_any); (case h => exact anyB_map))
  | ((with_reducible apply x_sum); (case h => exact sumI_map))
  | ((with_reducible apply cw_elt); (case hm => walk_at "sd"))
  | ((with_reducible apply x1_rng); (case hb => walk_at "sd"))
  | ((with_reducible apply x2_rng); (case hb => walk_at "sd"); (case hc => walk_at "sd"))
  | ((with_reducible apply at0); (case h => rfl))
  | ((with_reducible apply at1); (case h => rfl))
  | ((with_reducible apply at2); (case h => rfl))
  | ((with_reducible apply xi_it); (case h => rfl))
  | ((with_reducible apply x1_it); (case h => rfl))
  | with_reducible refine sq_nx ?_
  | with_reducible refine sq_rt ?_
  | with_reducible refine sq_bk ?_
  | with_reducible refine lp_nx ?_
  | with_reducible refine lp_bk ?_
  | with_reducible refine gsc_nil ?_
  | with_reducible refine gsc_cons ?_
  | with_reducible refine gsw_nil ?_
  | with_reducible refine gsw_cons ?_
  | with_reducible refine rE_ok ?_
  | with_reducible refine atm1 ?_
  | with_reducible refine xi_int ?_
  | with_reducible refine xi_bool ?_
  | with_reducible refine xi_str ?_
  | with_reducible refine xi_tup ?_
  | with_reducible refine xi_list ?_
  | with_reducible refine x1_int ?_
  | with_reducible refine sc_int ?_
  | with_reducible refine sc_str ?_
  | with_reducible refine x_ol ?_
  | with_reducible refine atm1M ?_
  | with_reducible refine x_nx ?_
  | with_reducible refine jw_cons ?_
  | with_reducible refine jw_nil ?_
  | with_reducible refine gw_name ?_
  | ((with_reducible refine gc_name ?wa ?_); (case wa => simp))
  | ((with_reducible refine gc_tup ?wa ?_); (case wa => rfl))
  | ((with_reducible refine gw_tup ?wa ?_); (case wa => rfl))
  | with_reducible refine cnd_t ?_
  | with_reducible refine cnd_f ?_
  | with_reducible refine cnd_nt ?_
  | with_reducible refine cnd_nf ?_
  | walk_at "ca"
  | ((with_reducible apply zip_f); (case hx => rfl); (case hy => rfl))
  | ((with_reducible apply zip_t); (case hx => rfl); (case hy => rfl); (case hl => walk_at "sd"))
  | refine gsw_cons ?_
  | refine gsc_cons ?_
  | refine gsw_nil ?_
  | refine gsc_nil ?_
  | with_reducible exact trivial)
local macro_rules | `(tactic| walk_at "s1") => `(tactic| first
  | ((with_reducible show EW _ _ _ _ _ _ _); walk_at "kew")
  | ((with_reducible show SW _ _ _ _ _ _); walk_at "ksw")
  | ((with_reducible show TW _ _ _ _ _ _ _); walk_at "ktw")
  | ((with_reducible show AW _ _ _ _ _ _ _); walk_at "kaw")
  | ((with_reducible show IW _ _ _ _ _ _ _); walk_at "kiw")
  | ((with_reducible show OW _ _ _ _ _ _ _); walk_at "kow")
  | walk_at "km")
local macro_rules | `(tactic| walk_at "w1") => `(tactic| first | ((with_reducible show SW _ _ _ _ _ _); first | walk_at "ksw" | with_reducible refine sw_seqA ?_ | with_reducible refine sw_seqD ?_ | with_reducible refine sw_seqF ?_ | with_reducible refine sw_seqP ?_ | with_reducible refine sw_seqG ?_ | with_reducible refine sw_seqW ?_) | walk_at "s1")
local macro_rules | `(tactic| walk_at "s") => `(tactic| repeat walk_at "s1")
local macro_rules | `(tactic| walk_at "ef") => `(tactic| first
  | with_reducible refine ef_lst0 ?_
  | with_reducible refine ef_lst1 ?_
  | with_reducible refine ef_lst2 ?_
  | with_reducible refine ef_lst3 ?_
  | with_reducible refine ef_lst ?_
  | with_reducible refine ef_lc ?_
  | with_reducible refine ef_list ?_
  | with_reducible refine ef_catL ?_)
local macro_rules | `(tactic| walk_at "wi") => `(tactic| repeat (first | walk_at "w1" | with_reducible refine sw_seq ?_))
local macro_rules | `(tactic| walk_at "w") => `(tactic| repeat walk_at "w1")
section
/-! Trees: their form, parts, rows. -/
open PySem PyProof.Rows L2 Evl

inductive Tr where
  | nm (s : Str)
  | tm (n : Int) (t : Tr)
  | tn (t : Tr)
  | cy (m : List (List Fr)) (t : Tr)
  | pr (w : Str) (t u : Tr)
namespace Tr
noncomputable def enc : Tr → PyData
  | nm s => .tuple [.str "name", .str s]
  | tm n t => .tuple [.str "times", .int n, enc t]
  | tn t => .tuple [.str "turn", enc t]
  | cy m t => .tuple [.str "carry", mp m, enc t]
  | pr w t u => .tuple [.str w, enc t, enc u]
noncomputable def kids : Tr → List Tr
  | nm _ => []
  | tm _ t => [t]
  | tn t => [t]
  | cy _ t => [t]
  | pr _ t u => [t, u]
noncomputable def depth : Tr → Nat
  | nm _ => 0
  | tm _ t => depth t + 1
  | tn t => depth t + 1
  | cy _ t => depth t + 1
  | pr _ t u => max (depth t) (depth u) + 1
/-- the words of two trees -/
noncomputable def pairs : List Str := ["add", "take", "meet", "least", "most", "lay"]
/-- its words and maps are such -/
noncomputable def Wf : Tr → Prop
  | nm _ => True
  | tm _ t => Wf t
  | tn t => Wf t
  | cy m t => (∃ gl st, Mp 10 gl st m ∧ 0 < gl ∧ gl ≤ 2 ∧ 0 < st ∧ st ≤ 2) ∧ Wf t
  | pr w t u => w ∈ pairs ∧ Wf t ∧ Wf u
theorem kid_depth {t k : Tr} (m : k ∈ t.kids) : k.depth < t.depth := qt_of (by simp (disch := with_unfolding_all
  cases t with
  | nm s => cases m
  | tm n t => rw [List.mem_singleton.mp m]; exact Nat.lt_succ_self _
  | tn t => rw [List.mem_singleton.mp m]; exact Nat.lt_succ_self _
  | cy n t => rw [List.mem_singleton.mp m]; exact Nat.lt_succ_self _
  | pr w t u =>
    rcases List.mem_cons.mp m with rfl | m
    · show _ < max _ _ + 1; omega
    · rw [List.mem_singleton.mp m]; show _ < max _ _ + 1; omega
  ) only [↓qt_eq])
noncomputable def word : Tr → Str
  | nm _ => "name"
  | tm _ _ => "times"
  | tn _ => "turn"
  | cy _ _ => "carry"
  | pr w _ _ => w
noncomputable def rest : Tr → List PyData
  | nm s => [.str s]
  | tm n t => [.int n, enc t]
  | tn t => [enc t]
  | cy m t => [mp m, enc t]
  | pr _ t u => [enc t, enc u]
theorem enc_eq (t : Tr) : t.enc = .tuple (.str t.word :: t.rest) := by cases t <;> rfl
theorem pairs_ne {w : Str} (h : w ∈ pairs) : w ≠ "name" ∧ w ≠ "times" ∧ w ≠ "carry" ∧ w ≠ "turn" := by
  simp only [pairs, List.mem_cons, List.not_mem_nil, or_false] at h
  rcases h with rfl | rfl | rfl | rfl | rfl | rfl <;> exact ⟨by decide, by decide, by decide, by decide⟩
end Tr
theorem eqv_strD (i j : Str) : PyData.eqv (.str i) (.str j) = decide (i = j) := by
  unfold PyData.eqv
  by_cases h : i = j
  · simp [h]
  · simp [h]
theorem in2 {w a b : Str} {P Q : Prop} (hs : SeqAt.shaped (.str w) = true) (hl : SeqAt.shaped (.list [.str a, .str b]) = true) (h1 : (w = a ∨ w = b) → P) (h2 : ¬ (w = a ∨ w = b) → Q) : SeqAt.shaped (.str w) = true ∧ SeqAt.shaped (.list [.str a, .str b]) = true ∧ ∃ c, PyData.bool (if false = true then !([PyData.str a, .str b].any fun z => PyData.eqv z (.str w)) else [PyData.str a, .str b].any fun z => PyData.eqv z (.str w)) = .bool c ∧ Cnd c P Q := qt_of (by simp (disch := with_unfolding_all
  refine ⟨hs, hl, _, rfl, ?_⟩
  rw [if_neg (by decide)]
  simp only [List.any_cons, List.any_nil, eqv_strD, Bool.or_false]
  by_cases e1 : w = a
  · rw [decide_eq_true e1.symm]; exact cnd_t (h1 (.inl e1))
  · rw [decide_eq_false (fun z => e1 z.symm), Bool.false_or]
    by_cases e2 : w = b
    · rw [decide_eq_true e2.symm]; exact cnd_t (h1 (.inr e2))
    · rw [decide_eq_false (fun z => e2 z.symm)]; exact cnd_f (h2 fun z => z.elim e1 e2)
  ) only [↓qt_eq])
theorem in3 {w a b c : Str} {P Q : Prop} (hs : SeqAt.shaped (.str w) = true) (hl : SeqAt.shaped (.list [.str a, .str b, .str c]) = true) (h1 : (w = a ∨ w = b ∨ w = c) → P) (h2 : ¬ (w = a ∨ w = b ∨ w = c) → Q) : SeqAt.shaped (.str w) = true ∧ SeqAt.shaped (.list [.str a, .str b, .str c]) = true ∧ ∃ d, PyData.bool (if false = true then !([PyData.str a, .str b, .str c].any fun z => PyData.eqv z (.str w)) else [PyData.str a, .str b, .str c].any fun z => PyData.eqv z (.str w)) = .bool d ∧ Cnd d P Q := qt_of (by simp (disch := with_unfolding_all
  refine ⟨hs, hl, _, rfl, ?_⟩
  rw [if_neg (by decide)]
  simp only [List.any_cons, List.any_nil, eqv_strD, Bool.or_false]
  by_cases e1 : w = a
  · rw [decide_eq_true e1.symm]; exact cnd_t (h1 (.inl e1))
  · rw [decide_eq_false (fun z => e1 z.symm), Bool.false_or]
    by_cases e2 : w = b
    · rw [decide_eq_true e2.symm]; exact cnd_t (h1 (.inr (.inl e2)))
    · rw [decide_eq_false (fun z => e2 z.symm), Bool.false_or]
      by_cases e3 : w = c
      · rw [decide_eq_true e3.symm]; exact cnd_t (h1 (.inr (.inr e3)))
      · rw [decide_eq_false (fun z => e3 z.symm)]; exact cnd_f (h2 fun z => z.elim e1 fun z => z.elim e2 e3)
  ) only [↓qt_eq])
section
variable {K : Fg} {cs : Cs} {gs : Gs} {φ : PyData → Prop} {A : Rs → Prop} {ε : Xw → Prop} {w : World}
-- slots of inner_of: 0 tree, 1 word, 2 rest
-- slots of row_of: 0 tree
/-! the parts, in the order of their ends -/
-- slots of parts_of: 0 tree, 1 found, 2 inner
/-! rows -/
-- slots of rows_of: 0 tree, 1 one
/-! the names, as they come first -/
-- slots of names_in: 0 tree, 1 found, 2 one
/-! the law's own -/
-- slots of _law_inner: 0 _law_tree_here
-- slots of _law_row: 0 _law_tree_here
-- slots of _law_parts: 0 _law_tree_here, 1 _law_found, 2 _law_inner_here
end


end
section
/-! Trees drawn. -/
open PySem PyProof.Rows L2 Evl

namespace Tr
/-- its names stand in a list -/
noncomputable def Ns (ns : List Str) : Tr → Prop
  | nm s => s ∈ ns
  | tm _ t => Ns ns t
  | tn t => Ns ns t
  | cy _ t => Ns ns t
  | pr _ t u => Ns ns t ∧ Ns ns u
end Tr
section
variable {K : Fg} {cs : Cs} {gs : Gs} {φ : PyData → Prop} {A : Rs → Prop} {ε : Xw → Prop} {w : World}
theorem menu_at {xs : List PyData} {v : Int} (h0 : 0 ≤ v) (h1 : v < xs.length) : ∃ z ∈ xs, atI xs v = some z := by
  obtain ⟨k, rfl⟩ := Int.eq_ofNat_of_zero_le h0
  have hk : k < xs.length := by omega
  exact ⟨xs[k], List.getElem_mem _, atI_nat (List.getElem?_eq_getElem hk)⟩
-- slots of _law_tree: 0 _law_bag_here, 1 _law_deep, 2 _law_names, 3 _law_kind, 4 _law_word, 5 _law_number, 6 _law_table
/-! trees whose rooms fit -/
noncomputable def Tr.Fit (nps : List (Str × Int)) : Nat → Tr → Prop
  | r, .nm s => (s, (r : Int)) ∈ nps
  | r, .tm n t => n.natAbs ≤ 4 ^ 1 ∧ Tr.Fit nps r t
  | r, .tn t => Tr.Fit nps r t
  | r, .cy m t => ∃ st, Mp 10 r st m ∧ (st = 1 ∨ st = 2) ∧ Tr.Fit nps st t
  | r, .pr _ t u => Tr.Fit nps r t ∧ Tr.Fit nps r u
theorem Tr.Fit.ns {nps : List (Str × Int)} : ∀ {t : Tr} {r : Nat}, t.Fit nps r → t.Ns (nps.map (·.1))
  | .nm s, r, h => List.mem_map.mpr ⟨_, h, rfl⟩
  | .tm _ t, r, h => Tr.Fit.ns (t := t) h.2
  | .tn t, r, h => Tr.Fit.ns (t := t) h
  | .cy _ t, r, ⟨_, _, _, h⟩ => Tr.Fit.ns (t := t) h
  | .pr _ t u, r, ⟨h1, h2⟩ => ⟨Tr.Fit.ns h1, Tr.Fit.ns h2⟩
noncomputable def npD (p : Str × Int) : PyData := .tuple [.str p.1, .int p.2]
noncomputable def unitM (r : Nat) : List (List Fr) := (List.range r).map fun i => ((List.range (r + 1)).map fun _ => ((0, 1) : Fr)).set i (1, 1)
theorem unitM_mp {r : Nat} (hr : r = 1 ∨ r = 2) : Mp 10 r r (unitM r) := qt_of (by simp (disch := with_unfolding_all
  have g0 : Gd 10 ((0, 1) : Fr) := gd_none.mono (by decide)
  have g1 : Gd 10 ((1, 1) : Fr) := ⟨⟨by unfold Bd; decide, by unfold Bd; decide⟩, by decide, by decide⟩
  rcases hr with rfl | rfl
  · refine ⟨rfl, fun q hq => ?_⟩
    rw [show unitM 1 = [[(1, 1), (0, 1)]] from rfl] at hq
    rw [List.mem_singleton.mp hq]
    exact ⟨rfl, fun x hx => by rcases List.mem_cons.mp hx with rfl | hx; exact g1; rw [List.mem_singleton.mp hx]; exact g0⟩
  · refine ⟨rfl, fun q hq => ?_⟩
    rw [show unitM 2 = [[(1, 1), (0, 1), (0, 1)], [(0, 1), (1, 1), (0, 1)]] from rfl] at hq
    have k : q = [(1, 1), (0, 1), (0, 1)] ∨ q = [(0, 1), (1, 1), (0, 1)] := by simpa using hq
    rcases k with rfl | rfl
    · exact ⟨rfl, fun x hx => by simp only [List.mem_cons, List.not_mem_nil, or_false] at hx; rcases hx with rfl | rfl | rfl; exact g1; exact g0; exact g0⟩
    · exact ⟨rfl, fun x hx => by simp only [List.mem_cons, List.not_mem_nil, or_false] at hx; rcases hx with rfl | rfl | rfl; exact g0; exact g1; exact g0⟩
  ) only [↓qt_eq])
noncomputable def P_lunit : Pr := fun ds A => ∃ r : Nat, ds = [.int r] ∧ (r = 1 ∨ r = 2) ∧ A (.ok (mp (unitM r)))
noncomputable def t__law_unit (K : Fg) : TS := (tSeq (tAsg (tLst tNil) (gName 1))
  (tSeq (tFor (iRng1 (tCons (tVar 0) tNil)) (gName 2) (tSeq (tAsg (tLc (iRng1 (tCons (tOp rAddI (tVar 0) (tC (V.int 1))) tNil)) (gName 4) tYes (tTup (tCons (tC (V.int 0)) (tCons (tC (V.int 1)) tNil))) [4]) (gName 3))
  (tSeq (tAsg (tTup (tCons (tC (V.int 1)) (tCons (tC (V.int 1)) tNil))) (gSub (tVar 3) (tVar 2) rSetL))
  (tDrop (tBM K "list" rAppend (tVar 1) (tCons (tCB (rTupQ K) (tCons (tVar 3) tNil)) tNil))))))
  (tRet (tCB (rTupQ K) (tCons (tVar 1) tNil)))))
-- slots of _law_unit: 0 _law_rank_here, 1 _law_found, 2 _law_at, 3 _law_row_here, 4 _law_to
theorem ln__law_unit : ∀ ds A, P_lunit ds A → ds.length = 1 := fun ds A h => by obtain ⟨_, rfl, _⟩ := h; rfl
theorem rd__law_unit {ds A} (h : P_lunit ds A) : SW K cs W0 (t__law_unit K) (frame 5 ds) (rts0 A) := qt_of (by simp (disch := with_unfolding_all
  obtain ⟨r, rfl, hr, h⟩ := h
  unfold t__law_unit
  refine sw_seq (sw_asgF (ef_lst0 ?_))
  walk_at "s"
  refine sw_seq ?_
  walk_at "s"
  have hr2 : r ≤ 2 := by omega
  refine forN (k := r) (fun i G => ∃ x y, G = [.d (.int r), .ow (ol ((((List.range i).map fun i => ((List.range (r + 1)).map fun _ => ((0, 1) : Fr)).set i (1, 1))).map frs)), x, y, .un]) ⟨_, _, rfl⟩ ?_ ?_
  · rintro i _ hi ⟨x, y, rfl⟩
    refine gw_name ?_
    refine sw_seq (sw_asgF (ef_lc ?_))
    refine iw_rng1 ?_
    walk_at "s"
    rw [show ((r : Int) + 1).toNat = r + 1 from by omega]
    refine lcM (f := fun i : Nat => .int (0 + (i : Int))) (fun _ => fr (0, 1)) (by rw [List.length_range]; omega) (unk1 rfl) (fun k hk => ?_) ?_
    · refine gc_name (by simp) ?_
      walk_at "w"
      rfl
    refine sw_seq (sw_setI (i := 3) rfl ?_)
    walk_at "s"
    refine ⟨_, _, rfl, ixN_nat (j := i) (by rw [List.length_map, List.length_range]; omega), ?_⟩
    refine sw_app (i := 1) (xs := (((List.range i).map fun i => ((List.range (r + 1)).map fun _ => ((0, 1) : Fr)).set i (1, 1))).map frs) rfl (by rw [List.length_map, List.length_map, List.length_range]; omega) ?_
    refine ew_tupO (i := 3) rfl ?_
    have e : ((List.range (r + 1)).map fun _ => fr ((0, 1) : Fr)).set i (PyData.tuple [.int 1, .int 1]) = (((List.range (r + 1)).map fun _ => ((0, 1) : Fr)).set i (1, 1)).map fr := by
      rw [List.map_set, List.map_map]
      rfl
    rw [e]
    exact ⟨_, _, by rw [List.range_succ (n := i), List.map_append, List.map_append]; rfl⟩
  · rintro _ ⟨x, y, rfl⟩
    refine sw_ret (ew_tupO (i := 1) rfl ?_)
    exact h
  ) only [↓qt_eq])
noncomputable def P_lfit : Nat → Pr
  | 0 => fun _ _ => False
  | n + 1 => fun ds A => ∃ (d r : Nat) (nps : List (Str × Int)), ds = [.int d, .int r, .list (nps.map npD)] ∧ d ≤ n ∧ n ≤ 7 ∧ (r = 1 ∨ r = 2) ∧ nps.length ≤ 1000 ∧ (∀ q : Nat, q = 1 ∨ q = 2 → ∃ p ∈ nps, p.2 = (q : Int)) ∧ ∀ t : Tr, t.Wf → t.depth ≤ d → t.Fit nps r → A (.ok t.enc)
noncomputable def t__law_fit_tree (K : Fg) (n : Nat) : TS := (tSeq (tAsg (tCall (spB K P_pull) [] E0 (tCons (tVar 0) (tCons (tC (V.int 13)) tNil))) (gName 4))
  (tSeq (tIfS (tOr (tTest (tOp rEq (tVar 1) (tC (V.int 0)))) (tTest (tOp rLtI (tVar 4) (tC (V.int 2))))) (tSeq (tAsg (tLc (iList K (tVar 3)) (gTup K 2 (gCons (gName 10) (gCons (gName 11) gNil))) (tTest (tOp rEq (tVar 11) (tVar 2))) (tVar 10) [10, 11]) (gName 7))
  (tIfS (tTest (tOp rGtI (tCB (rLenQ K) (tCons (tVar 7) tNil)) (tC (V.int 0)))) (tRet (tTup (tCons (tC (V.str "name")) (tCons (tOp (rIx K) (tVar 7) (tCall (spB K P_pull) [] E0 (tCons (tVar 0) (tCons (tCB (rLenQ K) (tCons (tVar 7) tNil)) tNil)))) tNil)))) tNext)) tNext)
  (tSeq (tIfS (tTest (tOp rEq (tVar 1) (tC (V.int 0)))) (tRet (tTup (tCons (tC (V.str "carry")) (tCons (tCall (spB K P_map) [] E0 (tCons (tVar 0) (tCons (tOp rSubI (tC (V.int 3)) (tVar 2)) (tCons (tVar 2) tNil)))) (tCons (tTup (tCons (tC (V.str "name")) (tCons (tOp (rIx K) (tLc (iList K (tVar 3)) (gTup K 2 (gCons (gName 10) (gCons (gName 11) gNil))) (tTest (tOp rNe (tVar 11) (tVar 2))) (tVar 10) [10, 11]) (tC (V.int 0))) tNil))) tNil))))) tNext)
  (tSeq (tIfS (tTest (tOp rLtI (tVar 4) (tC (V.int 5)))) (tRet (tTup (tCons (tC (V.str "times")) (tCons (tOp (rIx K) (tLst (tCons (tC (V.int 2)) (tCons (tUn rNegI (tC (V.int 1))) (tCons (tC (V.int 1)) (tCons (tUn rNegI (tC (V.int 3))) (tCons (tC (V.int 0)) tNil)))))) (tCall (spB K P_pull) [] E0 (tCons (tVar 0) (tCons (tC (V.int 5)) tNil)))) (tCons (tCall (spWB K (P_lfit n)) [] E0 (tCons (tVar 0) (tCons (tOp rSubI (tVar 1) (tC (V.int 1))) (tCons (tVar 2) (tCons (tVar 3) tNil))))) tNil))))) tNext)
  (tSeq (tIfS (tTest (tOp rLtI (tVar 4) (tC (V.int 7)))) (tRet (tTup (tCons (tC (V.str "turn")) (tCons (tCall (spWB K (P_lfit n)) [] E0 (tCons (tVar 0) (tCons (tOp rSubI (tVar 1) (tC (V.int 1))) (tCons (tVar 2) (tCons (tVar 3) tNil))))) tNil)))) tNext)
  (tSeq (tIfS (tTest (tOp rLtI (tVar 4) (tC (V.int 9)))) (tSeq (tAsg (tOp rAddI (tC (V.int 1)) (tCall (spB K P_pull) [] E0 (tCons (tVar 0) (tCons (tC (V.int 2)) tNil)))) (gName 8))
  (tSeq (tAsg (tCall (spB K P_map) [] E0 (tCons (tVar 0) (tCons (tVar 8) (tCons (tVar 2) tNil)))) (gName 9))
  (tSeq (tIfS (tAnd (tTest (tOp rEq (tVar 8) (tVar 2))) (tTest (tOp rEq (tCall (spB K P_pull) [] E0 (tCons (tVar 0) (tCons (tC (V.int 3)) tNil))) (tC (V.int 0))))) (tAsg (tCall (spW0 K P_lunit) [] E0 (tCons (tVar 2) tNil)) (gName 9)) tNext)
  (tRet (tTup (tCons (tC (V.str "carry")) (tCons (tVar 9) (tCons (tCall (spWB K (P_lfit n)) [] E0 (tCons (tVar 0) (tCons (tOp rSubI (tVar 1) (tC (V.int 1))) (tCons (tVar 8) (tCons (tVar 3) tNil))))) tNil)))))))) tNext)
  (tSeq (tAsg (tOp (rIx K) (tLst (tCons (tC (V.str "add")) (tCons (tC (V.str "take")) (tCons (tC (V.str "meet")) (tCons (tC (V.str "lay")) tNil))))) (tCall (spB K P_pull) [] E0 (tCons (tVar 0) (tCons (tC (V.int 4)) tNil)))) (gName 5))
  (tSeq (tAsg (tCall (spWB K (P_lfit n)) [] E0 (tCons (tVar 0) (tCons (tOp rSubI (tVar 1) (tC (V.int 1))) (tCons (tVar 2) (tCons (tVar 3) tNil))))) (gName 6))
  (tRet (tTup (tCons (tVar 5) (tCons (tVar 6) (tCons (tCall (spWB K (P_lfit n)) [] E0 (tCons (tVar 0) (tCons (tOp rSubI (tVar 1) (tC (V.int 1))) (tCons (tVar 2) (tCons (tVar 3) tNil))))) tNil)))))))))))))
-- slots of _law_fit_tree: 0 _law_bag_here, 1 _law_deep, 2 _law_rank_here, 3 _law_names, 4 _law_kind, 5 _law_word, 6 _law_first, 7 _law_fitting, 8 _law_start, 9 _law_table, 10 _law_name, 11 _law_size
theorem ln__law_fit_tree {n : Nat} : ∀ ds A, P_lfit (n + 1) ds A → ds.length + 1 = 4 := fun ds A h => by obtain ⟨_, _, _, rfl, _⟩ := h; rfl
theorem rd__law_fit_tree {n : Nat} {ds A} (h : P_lfit (n + 1) ds A) : SW K cs W0 (t__law_fit_tree K n) (.bag :: frame 11 ds) (rts0 A) := qt_of (by simp (disch := with_unfolding_all
  obtain ⟨d, r, nps, rfl, hd, hn, hr, n1, hf, h⟩ := h
  have hfl : ((nps.filter fun p => decide (p.2 = (r : Int))).map fun p => PyData.str p.1).length = (nps.filter fun p => decide (p.2 = (r : Int))).length := List.length_map ..
  have hf0 : 0 < (nps.filter fun p => decide (p.2 = (r : Int))).length := by
    obtain ⟨p, hp, e⟩ := hf r hr
    exact List.length_pos_of_mem (List.mem_filter.mpr ⟨hp, by simpa using e⟩)
  have hfu : (nps.filter fun p => decide (p.2 = (r : Int))).length ≤ 1000 := Nat.le_trans (List.length_filter_le ..) n1
  have hnm : ∀ v : Int, 0 ≤ v → v < (((nps.filter fun p => decide (p.2 = (r : Int))).map fun p => PyData.str p.1).length : Int) → ∃ z, atI ((nps.filter fun p => decide (p.2 = (r : Int))).map fun p => PyData.str p.1) v = some z ∧ A (.ok (.tuple [.str "name", z])) := fun v v0 v1 => by
    rw [hfl] at v1
    obtain ⟨p, hp, e⟩ := atI_in (f := fun p : Str × Int => PyData.str p.1) v0 v1
    obtain ⟨hp, e2⟩ := List.mem_filter.mp hp
    have e2 : p.2 = (r : Int) := by simpa using e2
    exact ⟨_, e, h (.nm p.1) trivial (Nat.zero_le _) (by show (p.1, (r : Int)) ∈ nps; rw [← e2]; exact hp)⟩
  have again : ∀ {m q : Nat} {ψ : PyData → Prop}, n = m → d ≠ 0 → (q = 1 ∨ q = 2) → (∀ t : Tr, t.Wf → t.depth + 1 ≤ d → t.Fit nps q → ψ t.enc) → P_lfit m [.int ((d : Int) - 1), .int q, .list (nps.map npD)] (rE ψ noX) := fun {m q ψ} en hd0 hq k => by
    subst en
    obtain ⟨m', rfl⟩ : ∃ m', n = m' + 1 := ⟨n - 1, by omega⟩
    exact ⟨d - 1, q, nps, by rw [show ((d : Int) - 1) = ((d - 1 : Nat) : Int) from by omega], by omega, by omega, hq, n1, hf, fun t w hd2 hs => k t w (by omega) hs⟩
  unfold t__law_fit_tree
  walk_at "wi"
  refine cnd_b (fun e => cnd_t ?_) (fun e => ?_)
  · walk_at "w"
    refine lcF (f := npD) (fun p => decide (p.2 = (r : Int))) (fun p => .str p.1) (by omega) (unk2 rfl rfl) (fun p hp => ?_) ?_
    · refine gc_tup rfl (gsc_cons (gc_name (by simp) (gsc_cons (gc_name (by simp) (gsc_nil ?_)))))
      walk_at "w"
      exact ⟨rfl, fun _ => by walk_at "w"; rfl⟩
    refine ⟨_, rfl, ?_⟩
    walk_at "wi"
    refine cnd_yes (by rw [hfl]; omega) ?_
    walk_at "w"
    rename_i v0 v1
    obtain ⟨z, ez, az⟩ := hnm _ v0 v1
    exact ⟨z, ez, by walk_at "w"; exact az⟩
  · have d0 : d ≠ 0 := by simpa using e
    walk_at "w"
    refine cnd_b (fun e2 => ?_) (fun e2 => ?_)
    · walk_at "w"
      refine lcF (f := npD) (fun p => decide (p.2 = (r : Int))) (fun p => .str p.1) (by omega) (unk2 rfl rfl) (fun p hp => ?_) ?_
      · refine gc_tup rfl (gsc_cons (gc_name (by simp) (gsc_cons (gc_name (by simp) (gsc_nil ?_)))))
        walk_at "w"
        exact ⟨rfl, fun _ => by walk_at "w"; rfl⟩
      refine ⟨_, rfl, ?_⟩
      walk_at "wi"
      refine cnd_yes (by rw [hfl]; omega) ?_
      walk_at "w"
      rename_i v0 v1
      obtain ⟨z, ez, az⟩ := hnm _ v0 v1
      exact ⟨z, ez, by walk_at "w"; exact az⟩
    · walk_at "wi"
      refine cnd_no (by omega) ?_
      walk_at "wi"
      refine cnd_b (fun e3 => ?_) (fun e3 => ?_)
      · walk_at "w"
        refine ⟨by decide, _, rfl, ?_⟩
        walk_at "w"
        rename_i v0 v1
        obtain ⟨z, mz, ez⟩ := menu_at (xs := [PyData.int 2, PyData.int (-1), PyData.int 1, PyData.int (-3), PyData.int 0]) v0 v1
        refine ⟨z, ez, ?_⟩
        obtain ⟨i, rfl, hi⟩ : ∃ i : Int, z = .int i ∧ i.natAbs ≤ 4 ^ 1 := by
          simp only [List.mem_cons, List.not_mem_nil, or_false] at mz
          rcases mz with rfl | rfl | rfl | rfl | rfl <;> exact ⟨_, rfl, by decide⟩
        walk_at "w"
        refine again rfl d0 hr fun t tw td ts => ?_
        walk_at "w"
        exact h (.tm i t) tw td ⟨hi, ts⟩
      · walk_at "wi"
        refine cnd_b (fun e4 => ?_) (fun e4 => ?_)
        · walk_at "w"
          refine again rfl d0 hr fun t tw td ts => ?_
          walk_at "w"
          exact h (.tn t) tw td ts
        · walk_at "wi"
          refine cnd_b (fun e5 => ?_) (fun e5 => ?_)
          · walk_at "w"
            rename_i vk k0 k1 vs s0 s1 m hm
            refine sw_cut (fun G => ∃ m', Mp 10 r (1 + vs).toNat m' ∧ G = ((((En.bag :: frame 11 [PyData.int ↑d, PyData.int ↑r, PyData.list (List.map npD nps)]).set 4 (En.d (PyData.int vk))).set 8 (En.d (PyData.int (1 + vs)))).set 9 (En.d (mp m')))) ?_ ?_
            · have hm : Mp 10 r (1 + vs).toNat m := hm
              have keep : ∃ m', Mp 10 r (1 + vs).toNat m' ∧ ((((En.bag :: frame 11 [PyData.int ↑d, PyData.int ↑r, PyData.list (List.map npD nps)]).set 4 (En.d (PyData.int vk))).set 8 (En.d (PyData.int (1 + vs)))).set 9 (En.d (mp m))) = ((((En.bag :: frame 11 [PyData.int ↑d, PyData.int ↑r, PyData.list (List.map npD nps)]).set 4 (En.d (PyData.int vk))).set 8 (En.d (PyData.int (1 + vs)))).set 9 (En.d (mp m'))) := ⟨m, hm, rfl⟩
              walk_at "wi"
              refine cnd_b (fun e6 => ?_) (fun e6 => ?_)
              · have e6 : 1 + vs = (r : Int) := by simpa using e6
                walk_at "wi"
                refine cnd_b (fun e7 => ?_) (fun e7 => ?_)
                · walk_at "w"
                  refine ⟨r, rfl, hr, ?_⟩
                  exact ⟨_, rfl, unitM r, by rw [show (1 + vs).toNat = r from by omega]; exact unitM_mp hr, rfl⟩
                · walk_at "w"
                  exact keep
              · walk_at "w"
                exact keep
            · rintro _ ⟨m', hm', rfl⟩
              walk_at "w"
              obtain ⟨st, hst⟩ : ∃ st : Nat, 1 + vs = (st : Int) := ⟨(1 + vs).toNat, by omega⟩
              rw [hst] at hm' ⊢
              have hm' : Mp 10 r st m' := hm'
              have s12 : st = 1 ∨ st = 2 := by omega
              refine again rfl d0 s12 fun t tw td ts => ?_
              walk_at "w"
              exact h (.cy m' t) ⟨⟨r, st, hm', by omega, by omega, by omega, by omega⟩, tw⟩ td ⟨st, hm', s12, ts⟩
          · walk_at "w"
            refine ⟨by decide, _, rfl, ?_⟩
            walk_at "w"
            rename_i v0 v1
            obtain ⟨z, mz, ez⟩ := menu_at (xs := [PyData.str "add", PyData.str "take", PyData.str "meet", PyData.str "lay"]) v0 v1
            refine ⟨z, ez, ?_⟩
            obtain ⟨i, rfl, hi⟩ : ∃ i, z = .str i ∧ i ∈ Tr.pairs := by
              simp only [List.mem_cons, List.not_mem_nil, or_false] at mz
              rcases mz with rfl | rfl | rfl | rfl <;> exact ⟨_, rfl, by decide⟩
            walk_at "w"
            refine again rfl d0 hr fun t tw td ts => ?_
            walk_at "w"
            refine again rfl d0 hr fun u uw ud us => ?_
            walk_at "w"
            exact h (.pr i t u) ⟨hi, tw, uw⟩ (by show max _ _ + 1 ≤ d; omega) ⟨ts, us⟩
  ) only [↓qt_eq])
theorem c_lfit {n d r : Nat} {nps : List (Str × Int)} (hd : d ≤ n) (hn : n ≤ 7) (hr : r = 1 ∨ r = 2) (n1 : nps.length ≤ 1000) (hf : ∀ q : Nat, q = 1 ∨ q = 2 → ∃ p ∈ nps, p.2 = (q : Int)) (h : ∀ t : Tr, t.Wf → t.depth ≤ d → t.Fit nps r → φ t.enc) : P_lfit (n + 1) [.int d, .int r, .list (nps.map npD)] (rE φ ε) := ⟨d, r, nps, rfl, hd, hn, hr, n1, hf, h⟩
end


end
section
/-! Settling a tree, plain. -/
open PySem PyProof.Rows L2 Evl
namespace Tr
noncomputable abbrev Free (w : Str) : Prop := w = "add" ∨ w = "take" ∨ w = "lay"
noncomputable abbrev Bnd (w : Str) : Prop := w = "meet" ∨ w = "lay"
noncomputable abbrev Unit1 (m : List (List Fr)) : Prop := m = unitM 1 ∨ m = unitM 2
noncomputable def stOf (m : List (List Fr)) : Nat := (m.headD []).length - 1
/-- what a rule does at the top -/
noncomputable def rTwice : Tr → Option Tr
  | tn (tn x) => some x
  | _ => none
noncomputable def rOnce : Tr → Option Tr
  | tm n x => if n = 1 then some x else none
  | _ => none
noncomputable def rProduct : Tr → Option Tr
  | tm n (tm m x) => some (tm (n * m) x)
  | _ => none
noncomputable def rStill : Tr → Option Tr
  | cy m x => if Unit1 m then some x else none
  | _ => none
noncomputable def rOnward : Tr → Option Tr
  | cy m (cy k x) => some (cy (behF (stOf k) k m) x)
  | _ => none
noncomputable def rTurncarry : Tr → Option Tr
  | tn (cy m x) => some (cy m (tn x))
  | _ => none
noncomputable def rTurntimes : Tr → Option Tr
  | tn (tm n x) => some (tm n (tn x))
  | _ => none
noncomputable def rCarrytimes : Tr → Option Tr
  | cy m (tm n x) => some (tm n (cy m x))
  | _ => none
noncomputable def rTurnpair : Tr → Option Tr
  | tn (pr w x y) => if Free w then some (pr w (tn x) (tn y)) else none
  | _ => none
noncomputable def rCarrypair : Tr → Option Tr
  | cy m (pr w x y) => if Free w then some (pr w (cy m x) (cy (if w = "lay" then straightM m else m) y)) else none
  | _ => none
noncomputable def rLeft : Tr → Option Tr
  | pr w (tm n x) y => if Bnd w then some (tm n (pr w x y)) else none
  | _ => none
noncomputable def rRight : Tr → Option Tr
  | pr w x (tm n y) => if Bnd w then some (tm n (pr w x y)) else none
  | _ => none
/-- a map behind a map of another room -/
noncomputable def Clash : Tr → Prop
  | cy m (cy k _) => stOf m ≠ k.length
  | _ => False
noncomputable instance : DecidablePred Clash := fun t => by
  unfold Clash
  split
  · exact inferInstance
  · exact inferInstance
noncomputable def ruleL : List (Str × (Tr → Option Tr)) := [("twice", rTwice), ("once", rOnce), ("product", rProduct), ("still", rStill), ("onward", rOnward), ("turncarry", rTurncarry), ("turntimes", rTurntimes), ("carrytimes", rCarrytimes), ("turnpair", rTurnpair), ("carrypair", rCarrypair), ("left", rLeft), ("right", rRight)]
/-- the first rule that fits -/
noncomputable def first (t : Tr) : List (Str × (Tr → Option Tr)) → Except Unit (Option (Str × Tr))
  | [] => .ok none
  | (w, f) :: l => if w = "onward" ∧ Clash t then .error () else match f t with
    | some x => .ok (some (w, x))
    | none => first t l
noncomputable def top (t : Tr) : Except Unit (Option (Str × Tr)) := first t ruleL
/-- a step within, or at the top -/
noncomputable def inK (c : Tr → Tr) (r : Except Unit (Option (Str × Tr))) (e : Except Unit (Option (Str × Tr))) : Except Unit (Option (Str × Tr)) := match r with
  | .error u => .error u
  | .ok (some p) => .ok (some (p.1, c p.2))
  | .ok none => e
noncomputable def step : Tr → Except Unit (Option (Str × Tr))
  | nm s => .ok none
  | tm n t => inK (tm n) (step t) (top (tm n t))
  | tn t => inK tn (step t) (top (tn t))
  | cy m t => inK (cy m) (step t) (top (cy m t))
  | pr w t u => inK (fun x => pr w x u) (step t) (inK (pr w t) (step u) (top (pr w t u)))
theorem top_nm {s : Str} : top (nm s) = .ok none := by
  unfold top ruleL first
  rfl
/-! what each step does -/
inductive St : Str → Tr → Tr → Prop where
  | twice {x} : St "twice" (tn (tn x)) x
  | once {x} : St "once" (tm 1 x) x
  | product {n m x} : St "product" (tm n (tm m x)) (tm (n * m) x)
  | still {m x} : Unit1 m → St "still" (cy m x) x
  | onward {m k x} : stOf m = k.length → St "onward" (cy m (cy k x)) (cy (behF (stOf k) k m) x)
  | turncarry {m x} : St "turncarry" (tn (cy m x)) (cy m (tn x))
  | turntimes {n x} : St "turntimes" (tn (tm n x)) (tm n (tn x))
  | carrytimes {m n x} : St "carrytimes" (cy m (tm n x)) (tm n (cy m x))
  | turnpair {w x y} : Free w → St "turnpair" (tn (pr w x y)) (pr w (tn x) (tn y))
  | carrypair {m w x y} : Free w → St "carrypair" (cy m (pr w x y)) (pr w (cy m x) (cy (if w = "lay" then straightM m else m) y))
  | left {w n x y} : Bnd w → St "left" (pr w (tm n x) y) (tm n (pr w x y))
  | right {w n x y} : Bnd w → St "right" (pr w x (tm n y)) (tm n (pr w x y))
  | tm {r n t u} : St r t u → St r (tm n t) (tm n u)
  | tn {r t u} : St r t u → St r (tn t) (tn u)
  | cy {r m t u} : St r t u → St r (cy m t) (cy m u)
  | prL {r w t u v} : St r t u → St r (pr w t v) (pr w u v)
  | prR {r w t u v} : St r t u → St r (pr w v t) (pr w v u)
theorem top_st {t : Tr} {r : Str} {u : Tr} (h : top t = .ok (some (r, u))) : St r t u := qt_of (by simp (disch := with_unfolding_all
  have key : ∀ l : List (Str × (Tr → Option Tr)), (∀ p ∈ l, ∀ x, (p.1 = "onward" → ¬ Clash t) → p.2 t = some x → St p.1 t x) → first t l = .ok (some (r, u)) → St r t u := fun l => by
    induction l with
    | nil => intro _ h; cases h
    | cons p l ih =>
      intro hl h
      have h : (if p.1 = "onward" ∧ Clash t then .error () else match p.2 t with | some x => .ok (some (p.1, x)) | none => first t l) = Except.ok (some (r, u)) := h
      split at h
      · cases h
      · rename_i hc
        split at h
        · rename_i x e
          cases h
          exact hl p List.mem_cons_self u (fun z c => hc ⟨z, c⟩) e
        · exact ih (fun p hp => hl p (List.mem_cons_of_mem _ hp)) h
  refine key ruleL (fun p hp x hc e => ?_) h
  simp only [ruleL, List.mem_cons, List.not_mem_nil, or_false] at hp
  rcases hp with rfl | rfl | rfl | rfl | rfl | rfl | rfl | rfl | rfl | rfl | rfl | rfl
  · simp only [rTwice] at e; split at e <;> cases e; exact .twice
  · simp only [rOnce] at e
    split at e
    · split at e
      · rename_i z; cases e; subst z; exact .once
      · cases e
    · cases e
  · simp only [rProduct] at e; split at e <;> cases e; exact .product
  · simp only [rStill] at e
    split at e
    · split at e
      · rename_i z; cases e; exact .still z
      · cases e
    · cases e
  · simp only [rOnward] at e; split at e <;> cases e; exact .onward (Classical.byContradiction fun z => hc rfl z)
  · simp only [rTurncarry] at e; split at e <;> cases e; exact .turncarry
  · simp only [rTurntimes] at e; split at e <;> cases e; exact .turntimes
  · simp only [rCarrytimes] at e; split at e <;> cases e; exact .carrytimes
  · simp only [rTurnpair] at e
    split at e
    · split at e
      · rename_i z; cases e; exact .turnpair z
      · cases e
    · cases e
  · simp only [rCarrypair] at e
    split at e
    · split at e
      · rename_i z; cases e; exact .carrypair z
      · cases e
    · cases e
  · simp only [rLeft] at e
    split at e
    · split at e
      · rename_i z; cases e; exact .left z
      · cases e
    · cases e
  · simp only [rRight] at e
    split at e
    · split at e
      · rename_i z; cases e; exact .right z
      · cases e
    · cases e
  ) only [↓qt_eq])
theorem inK_some {c : Tr → Tr} {a e : Except Unit (Option (Str × Tr))} {r : Str} {u : Tr} (h : inK c a e = .ok (some (r, u))) : (∃ x, a = .ok (some (r, x)) ∧ u = c x) ∨ (a = .ok none ∧ e = .ok (some (r, u))) := by
  unfold inK at h
  split at h
  · cases h
  · rename_i p; cases h; exact .inl ⟨p.2, rfl, rfl⟩
  · exact .inr ⟨rfl, h⟩
theorem step_st : ∀ {t : Tr} {r : Str} {u : Tr}, step t = .ok (some (r, u)) → St r t u
  | nm s, _, _, h => by cases h
  | tm n t, r, u, h => by
    rcases inK_some (show inK _ _ _ = _ from h) with ⟨x, e, rfl⟩ | ⟨_, e⟩
    · exact .tm (step_st e)
    · exact top_st e
  | tn t, r, u, h => by
    rcases inK_some (show inK _ _ _ = _ from h) with ⟨x, e, rfl⟩ | ⟨_, e⟩
    · exact .tn (step_st e)
    · exact top_st e
  | cy m t, r, u, h => by
    rcases inK_some (show inK _ _ _ = _ from h) with ⟨x, e, rfl⟩ | ⟨_, e⟩
    · exact .cy (step_st e)
    · exact top_st e
  | pr w t v, r, u, h => by
    rcases inK_some (show inK _ _ _ = _ from h) with ⟨x, e, rfl⟩ | ⟨_, e⟩
    · exact .prL (step_st e)
    · rcases inK_some e with ⟨x, e2, rfl⟩ | ⟨_, e2⟩
      · exact .prR (step_st e2)
      · exact top_st e2
/-! a measure -/
noncomputable def sz : Tr → Nat
  | nm _ => 1
  | tm _ t => sz t + 1
  | tn t => 2 * sz t
  | cy _ t => 2 * sz t + 1
  | pr _ t u => sz t + sz u + 2
noncomputable def nT : Tr → Nat
  | nm _ => 0
  | tm _ t => nT t + 1
  | tn t => nT t
  | cy _ t => nT t
  | pr _ t u => nT t + nT u
noncomputable def bP : Tr → Nat
  | nm _ => 0
  | tm _ t => bP t
  | tn t => bP t
  | cy _ t => bP t
  | pr w t u => bP t + bP u + if Bnd w then nT t + nT u else 0
theorem sz_pos : ∀ t : Tr, 1 ≤ sz t
  | nm _ => Nat.le_refl _
  | tm _ t => Nat.le_add_left ..
  | tn t => by have := sz_pos t; show 1 ≤ 2 * sz t; omega
  | cy _ t => Nat.le_add_left ..
  | pr _ t u => by show 1 ≤ sz t + sz u + 2; omega
theorem St.less {r : Str} {t u : Tr} (h : St r t u) : sz u ≤ sz t ∧ nT u ≤ nT t ∧ bP u ≤ bP t ∧ sz u + bP u < sz t + bP t := qt_of (by simp (disch := with_unfolding_all
  induction h with
  | @twice x => have := sz_pos x; simp only [sz, nT, bP]; omega
  | once => simp only [sz, nT, bP]; omega
  | product => simp only [sz, nT, bP]; omega
  | @still m x _ => have := sz_pos x; simp only [sz, nT, bP]; omega
  | @onward m k x _ => have := sz_pos x; simp only [sz, nT, bP]; omega
  | turncarry => simp only [sz, nT, bP]; omega
  | turntimes => simp only [sz, nT, bP]; omega
  | carrytimes => simp only [sz, nT, bP]; omega
  | turnpair _ => simp only [sz, nT, bP]; omega
  | carrypair _ => simp only [sz, nT, bP]; omega
  | left z => simp only [sz, nT, bP, if_pos z]; omega
  | right z => simp only [sz, nT, bP, if_pos z]; omega
  | tm _ ih => simp only [sz, nT, bP]; omega
  | tn _ ih => simp only [sz, nT, bP]; omega
  | cy _ ih => simp only [sz, nT, bP]; omega
  | @prL r w t u v _ ih => simp only [sz, nT, bP]; split <;> omega
  | @prR r w t u v _ ih => simp only [sz, nT, bP]; split <;> omega
  ) only [↓qt_eq])
/-- the depth, the numbers left out -/
noncomputable def dz : Tr → Nat
  | nm _ => 0
  | tm _ t => dz t
  | tn t => dz t + 1
  | cy _ t => dz t + 1
  | pr _ t u => max (dz t) (dz u) + 1
theorem St.dz {r : Str} {t u : Tr} (h : St r t u) : Tr.dz u ≤ Tr.dz t := by
  induction h <;> simp only [Tr.dz] at * <;> omega
theorem depth_dz : ∀ t : Tr, t.depth ≤ dz t + nT t
  | nm _ => Nat.le_refl _
  | tm _ t => by have := depth_dz t; show t.depth + 1 ≤ dz t + (nT t + 1); omega
  | tn t => by have := depth_dz t; show t.depth + 1 ≤ dz t + 1 + nT t; omega
  | cy _ t => by have := depth_dz t; show t.depth + 1 ≤ dz t + 1 + nT t; omega
  | pr _ t u => by
    have h1 := depth_dz t
    have h2 := depth_dz u
    show max t.depth u.depth + 1 ≤ max (dz t) (dz u) + 1 + (nT t + nT u)
    omega
theorem dz_depth : ∀ t : Tr, dz t ≤ t.depth
  | nm _ => Nat.le_refl _
  | tm _ t => Nat.le_succ_of_le (dz_depth t)
  | tn t => Nat.succ_le_succ (dz_depth t)
  | cy _ t => Nat.succ_le_succ (dz_depth t)
  | pr _ t u => by
    have h1 := dz_depth t
    have h2 := dz_depth u
    show max (dz t) (dz u) + 1 ≤ max t.depth u.depth + 1
    omega
theorem sz_depth : ∀ t : Tr, sz t + 2 ≤ 3 * 2 ^ t.depth
  | nm _ => by show 1 + 2 ≤ 3 * 2 ^ 0; decide
  | tm _ t => by have := sz_depth t; show sz t + 1 + 2 ≤ 3 * 2 ^ (t.depth + 1); rw [Nat.pow_succ]; omega
  | tn t => by have := sz_depth t; show 2 * sz t + 2 ≤ 3 * 2 ^ (t.depth + 1); rw [Nat.pow_succ]; omega
  | cy _ t => by have := sz_depth t; show 2 * sz t + 1 + 2 ≤ 3 * 2 ^ (t.depth + 1); rw [Nat.pow_succ]; omega
  | pr _ t u => by
    have h1 := sz_depth t
    have h2 := sz_depth u
    have m1 : 2 ^ t.depth ≤ 2 ^ max t.depth u.depth := Nat.pow_le_pow_right (by decide) (Nat.le_max_left ..)
    have m2 : 2 ^ u.depth ≤ 2 ^ max t.depth u.depth := Nat.pow_le_pow_right (by decide) (Nat.le_max_right ..)
    show sz t + sz u + 2 + 2 ≤ 3 * 2 ^ (max t.depth u.depth + 1)
    rw [Nat.pow_succ]
    omega
theorem nT_depth : ∀ t : Tr, nT t + 1 ≤ 2 ^ t.depth
  | nm _ => by show 0 + 1 ≤ 2 ^ 0; decide
  | tm _ t => by have := nT_depth t; show nT t + 1 + 1 ≤ 2 ^ (t.depth + 1); rw [Nat.pow_succ]; omega
  | tn t => by have := nT_depth t; show nT t + 1 ≤ 2 ^ (t.depth + 1); rw [Nat.pow_succ]; omega
  | cy _ t => by have := nT_depth t; show nT t + 1 ≤ 2 ^ (t.depth + 1); rw [Nat.pow_succ]; omega
  | pr _ t u => by
    have h1 := nT_depth t
    have h2 := nT_depth u
    have m1 : 2 ^ t.depth ≤ 2 ^ max t.depth u.depth := Nat.pow_le_pow_right (by decide) (Nat.le_max_left ..)
    have m2 : 2 ^ u.depth ≤ 2 ^ max t.depth u.depth := Nat.pow_le_pow_right (by decide) (Nat.le_max_right ..)
    show nT t + nT u + 1 ≤ 2 ^ (max t.depth u.depth + 1)
    rw [Nat.pow_succ]
    omega
theorem bP_depth : ∀ t : Tr, bP t ≤ t.depth * 2 ^ t.depth
  | nm _ => by show 0 ≤ _; exact Nat.zero_le _
  | tm _ t => by have := bP_depth t; show bP t ≤ (t.depth + 1) * 2 ^ (t.depth + 1); exact Nat.le_trans this (Nat.mul_le_mul (Nat.le_succ _) (Nat.pow_le_pow_right (by decide) (Nat.le_succ _)))
  | tn t => by have := bP_depth t; show bP t ≤ (t.depth + 1) * 2 ^ (t.depth + 1); exact Nat.le_trans this (Nat.mul_le_mul (Nat.le_succ _) (Nat.pow_le_pow_right (by decide) (Nat.le_succ _)))
  | cy _ t => by have := bP_depth t; show bP t ≤ (t.depth + 1) * 2 ^ (t.depth + 1); exact Nat.le_trans this (Nat.mul_le_mul (Nat.le_succ _) (Nat.pow_le_pow_right (by decide) (Nat.le_succ _)))
  | pr w t u => by
    have h1 := bP_depth t
    have h2 := bP_depth u
    have n1 := nT_depth t
    have n2 := nT_depth u
    have m1 : 2 ^ t.depth ≤ 2 ^ max t.depth u.depth := Nat.pow_le_pow_right (by decide) (Nat.le_max_left ..)
    have m2 : 2 ^ u.depth ≤ 2 ^ max t.depth u.depth := Nat.pow_le_pow_right (by decide) (Nat.le_max_right ..)
    have k1 : t.depth * 2 ^ t.depth ≤ max t.depth u.depth * 2 ^ max t.depth u.depth := Nat.mul_le_mul (Nat.le_max_left ..) m1
    have k2 : u.depth * 2 ^ u.depth ≤ max t.depth u.depth * 2 ^ max t.depth u.depth := Nat.mul_le_mul (Nat.le_max_right ..) m2
    have : bP (pr w t u) ≤ bP t + bP u + (nT t + nT u) := by
      show bP t + bP u + (if Bnd w then nT t + nT u else 0) ≤ _
      split <;> omega
    refine Nat.le_trans this ?_
    show _ ≤ (max t.depth u.depth + 1) * 2 ^ (max t.depth u.depth + 1)
    generalize max t.depth u.depth = d at *
    rw [Nat.pow_succ, Nat.succ_mul, ← Nat.mul_assoc]
    omega
/-- the whole walk: the steps, and the end or a refusal -/
inductive Run : Tr → List (Str × Tr) → Option Tr → Prop where
  | fin {t} : step t = .ok none → Run t [] (some t)
  | bad {t} : step t = .error () → Run t [] none
  | go {t r u p e} : step t = .ok (some (r, u)) → Run u p e → Run t ((r, u) :: p) e
theorem run_ex : ∀ (n : Nat) (t : Tr), sz t + bP t ≤ n → ∃ p e, Run t p e ∧ p.length ≤ n
  | 0, t, h => by have := sz_pos t; omega
  | n + 1, t, h => by
    cases e : step t with
    | error u => cases u; exact ⟨[], none, .bad e, Nat.zero_le _⟩
    | ok o =>
      cases o with
      | none => exact ⟨[], _, .fin e, Nat.zero_le _⟩
      | some q =>
        obtain ⟨r, u⟩ := q
        have := (step_st e).less
        obtain ⟨p, x, h1, h2⟩ := run_ex n u (by omega)
        exact ⟨_, _, .go e h1, by rw [List.length_cons]; omega⟩
end Tr


end
section
/-! Settling keeps a tree well formed. -/
open PySem PyProof.Rows L2 Evl
namespace Tr
noncomputable def fb : Nat → Nat
  | 0 => 10
  | 1 => 10
  | 2 => 54
  | 3 => 186
  | _ => 582
theorem fb_add : ∀ {j i : Nat}, 0 < j → 0 < i → j + i ≤ 4 → 1 + 2 * (fb j + fb i + 1) + fb j + 1 ≤ fb (j + i) := by
  have key : ∀ j ∈ [1, 2, 3], ∀ i ∈ [1, 2, 3], j + i ≤ 4 → 1 + 2 * (fb j + fb i + 1) + fb j + 1 ≤ fb (j + i) := by decide
  intro j i h1 h2 h3
  exact key j (by simp; omega) i (by simp; omega) h3
theorem fb_le : ∀ {j : Nat}, fb j ≤ 582 := fun {j} => by
  unfold fb
  split <;> omega
/-- maps and words are such, and (if so wanted) rooms agree -/
noncomputable def Gw (ok : Bool) (nps : List (Str × Int)) : Nat → Nat → Tr → Prop
  | _, r, nm s => s ∈ nps.map (·.1) ∧ (ok = true → (s, (r : Int)) ∈ nps)
  | k, r, tm _ t => Gw ok nps k r t
  | k, r, tn t => Gw ok nps k r t
  | k, r, cy m t => ∃ j gl st r', 0 < j ∧ j ≤ k ∧ Mp (fb j) gl st m ∧ (gl = 1 ∨ gl = 2) ∧ (st = 1 ∨ st = 2) ∧ (ok = true → gl = r ∧ r' = st) ∧ Gw ok nps (k - j) r' t
  | k, r, pr w t u => w ∈ pairs ∧ Gw ok nps k r t ∧ Gw ok nps k r u
variable {ok : Bool} {nps : List (Str × Int)}
theorem Gw.mono : ∀ {t : Tr} {k k' r : Nat}, k ≤ k' → Gw ok nps k r t → Gw ok nps k' r t
  | nm s, k, k', r, _, g => g
  | tm _ t, k, k', r, h, g => Gw.mono (t := t) h g
  | tn t, k, k', r, h, g => Gw.mono (t := t) h g
  | cy m t, k, k', r, h, ⟨j, gl, st, r', h1, h2, h3, h4, h5, h6, h7⟩ => ⟨j, gl, st, r', h1, Nat.le_trans h2 h, h3, h4, h5, h6, Gw.mono (Nat.sub_le_sub_right h j) h7⟩
  | pr w t u, k, k', r, h, ⟨a, b, c⟩ => ⟨a, Gw.mono h b, Gw.mono h c⟩
theorem Gw.any : ∀ {t : Tr} {k r r' : Nat}, Gw false nps k r t → Gw false nps k r' t
  | nm s, k, r, r', g => ⟨g.1, fun z => by cases z⟩
  | tm _ t, k, r, r', g => Gw.any (t := t) g
  | tn t, k, r, r', g => Gw.any (t := t) g
  | cy m t, k, r, r', ⟨j, gl, st, q, h1, h2, h3, h4, h5, h6, h7⟩ => ⟨j, gl, st, q, h1, h2, h3, h4, h5, (fun z => by cases z), h7⟩
  | pr w t u, k, r, r', ⟨a, b, c⟩ => ⟨a, b.any, c.any⟩
theorem stOf_mp {b gl st : Nat} {m : List (List Fr)} (M : Mp b gl st m) (h : gl = 1 ∨ gl = 2) : stOf m = st := by
  cases m with
  | nil => have := M.len; simp at this; omega
  | cons a l => have := (M.row a List.mem_cons_self).1; unfold stOf; rw [List.headD_cons, this]; rfl
theorem mp_mono {a b gl st : Nat} {m : List (List Fr)} (M : Mp a gl st m) (h : a ≤ b) : Mp b gl st m := ⟨M.len, fun r hr => ⟨(M.row r hr).1, fun x hx => ((M.row r hr).2 x hx).mono h⟩⟩
theorem straight_mp {b gl st : Nat} {m : List (List Fr)} (hb : 1 ≤ b) (M : Mp b gl st m) : Mp b gl st (straightM m) := ⟨by unfold straightM; rw [List.length_map]; exact M.len, fun r hr => by
  obtain ⟨q, hq, rfl⟩ := List.mem_map.mp hr
  have h1 := (M.row q hq).1
  refine ⟨by simp; omega, fun x hx => ?_⟩
  rcases List.mem_append.mp hx with hx | hx
  · exact (M.row q hq).2 x ((List.dropLast_sublist q).subset hx)
  · rw [List.mem_singleton.mp hx]; exact gd_none.mono hb⟩
theorem fb_pos {j : Nat} : 1 ≤ fb j := by unfold fb; split <;> omega
theorem unit_mp {b gl st : Nat} {m : List (List Fr)} (M : Mp b gl st m) (u : Unit1 m) : gl = st := qt_of (by simp (disch := with_unfolding_all
  rcases u with rfl | rfl
  · have h1 := M.len
    have h2 := (M.row [(1, 1), (0, 1)] (by decide)).1
    have : (unitM 1).length = 1 := rfl
    simp at h2
    omega
  · have h1 := M.len
    have h2 := (M.row [(1, 1), (0, 1), (0, 1)] (by decide)).1
    have : (unitM 2).length = 2 := rfl
    simp at h2
    omega
  ) only [↓qt_eq])
theorem St.gw {x : Str} {t u : Tr} (h : St x t u) : ∀ {k r : Nat}, k ≤ 4 → Gw ok nps k r t → Gw ok nps k r u := by
  induction h with
  | twice => exact fun _ g => g
  | once => exact fun _ g => g
  | product => exact fun _ g => g
  | @still m x z =>
    rintro k r hk ⟨j, gl, st, r', h1, h2, h3, h4, h5, h6, h7⟩
    have := unit_mp h3 z
    cases ok with
    | true =>
      obtain ⟨e1, e2⟩ := h6 rfl
      rw [e2, ← this, e1] at h7
      exact h7.mono (Nat.sub_le ..)
    | false => exact (h7.mono (Nat.sub_le ..)).any
  | @onward m k x z =>
    rintro K r hk ⟨j, gl, st, r', h1, h2, h3, h4, h5, h6, i, gl', st', r'', g1, g2, g3, g4, g5, g6, g7⟩
    have e1 := stOf_mp h3 h4
    have e2 := stOf_mp g3 g4
    have e3 := g3.len
    have e4 : st = gl' := by omega
    subst e4
    have B := beh_mp g3 h3
    rw [e2]
    refine ⟨j + i, gl, st', r'', by omega, by omega, mp_mono B ?_, h4, g5, fun z => ⟨(h6 z).1, (g6 z).2⟩, by rw [Nat.sub_add_eq]; exact g7⟩
    have := fb_add h1 g1 (by omega)
    have : st * (fb j + fb i + 1) ≤ 2 * (fb j + fb i + 1) := Nat.mul_le_mul_right _ (by omega)
    omega
  | turncarry => exact fun _ g => g
  | turntimes => exact fun _ g => g
  | carrytimes => exact fun _ g => g
  | turnpair _ => exact fun _ g => g
  | @carrypair m w x y z =>
    rintro k r hk ⟨j, gl, st, r', h1, h2, h3, h4, h5, h6, h7, h8, h9⟩
    refine ⟨h7, ⟨j, gl, st, r', h1, h2, h3, h4, h5, h6, h8⟩, j, gl, st, r', h1, h2, ?_, h4, h5, h6, h9⟩
    split
    · exact straight_mp fb_pos h3
    · exact h3
  | left _ => exact fun _ g => g
  | right _ => exact fun _ g => g
  | tm _ ih => exact fun hk g => ih hk g
  | tn _ ih => exact fun hk g => ih hk g
  | cy _ ih =>
    rintro k r hk ⟨j, gl, st, r', h1, h2, h3, h4, h5, h6, h7⟩
    exact ⟨j, gl, st, r', h1, h2, h3, h4, h5, h6, ih (by omega) h7⟩
  | prL _ ih => exact fun hk g => ⟨g.1, ih hk g.2.1, g.2.2⟩
  | prR _ ih => exact fun hk g => ⟨g.1, g.2.1, ih hk g.2.2⟩
/-- its numbers are small -/
noncomputable def Nw : Nat → Tr → Prop
  | _, nm _ => True
  | s, tm n t => ∃ j, j ≤ s ∧ n.natAbs ≤ 4 ^ j ∧ Nw (s - j) t
  | s, tn t => Nw s t
  | s, cy _ t => Nw s t
  | s, pr _ t u => ∃ j, j ≤ s ∧ Nw j t ∧ Nw (s - j) u
theorem Nw.mono : ∀ {t : Tr} {s s' : Nat}, s ≤ s' → Nw s t → Nw s' t
  | nm _, _, _, _, _ => trivial
  | tm n t, s, s', h, ⟨j, h1, h2, h3⟩ => ⟨j, Nat.le_trans h1 h, h2, Nw.mono (Nat.sub_le_sub_right h j) h3⟩
  | tn t, s, s', h, g => Nw.mono (t := t) h g
  | cy _ t, s, s', h, g => Nw.mono (t := t) h g
  | pr _ t u, s, s', h, ⟨j, h1, h2, h3⟩ => ⟨j, Nat.le_trans h1 h, h2, Nw.mono (Nat.sub_le_sub_right h j) h3⟩
theorem St.nw {x : Str} {t u : Tr} (h : St x t u) : ∀ {s : Nat}, Nw s t → Nw s u := by
  induction h with
  | twice => exact fun g => g
  | once => exact fun ⟨j, h1, h2, h3⟩ => h3.mono (Nat.sub_le ..)
  | @product n m x =>
    rintro s ⟨j, h1, h2, i, g1, g2, g3⟩
    refine ⟨j + i, by omega, ?_, by rw [Nat.sub_add_eq]; exact g3⟩
    rw [Int.natAbs_mul, Nat.pow_add]
    exact Nat.mul_le_mul h2 g2
  | still _ => exact fun g => g
  | onward _ => exact fun g => g
  | turncarry => exact fun g => g
  | turntimes => exact fun g => g
  | carrytimes => exact fun g => g
  | turnpair _ => exact fun g => g
  | carrypair _ => exact fun g => g
  | left _ =>
    rintro s ⟨j, h1, ⟨i, g1, g2, g3⟩, h3⟩
    exact ⟨i, by omega, g2, j - i, by omega, g3, h3.mono (by omega)⟩
  | right _ =>
    rintro s ⟨j, h1, h2, ⟨i, g1, g2, g3⟩⟩
    exact ⟨i, by omega, g2, j, by omega, h2, g3.mono (by omega)⟩
  | tm _ ih => exact fun ⟨j, h1, h2, h3⟩ => ⟨j, h1, h2, ih h3⟩
  | tn _ ih => exact fun g => ih g
  | cy _ ih => exact fun g => ih g
  | prL _ ih => exact fun ⟨j, h1, h2, h3⟩ => ⟨j, h1, ih h2, h3⟩
  | prR _ ih => exact fun ⟨j, h1, h2, h3⟩ => ⟨j, h1, h2, ih h3⟩
/-- where rooms agree nothing is refused -/
theorem Gw.clash {t : Tr} {k r : Nat} (g : Gw true nps k r t) : ¬ Clash t := qt_of (by simp (disch := with_unfolding_all
  intro c
  cases t with
  | cy m t =>
    cases t with
    | cy k x =>
      obtain ⟨j, gl, st, r', h1, h2, h3, h4, h5, h6, i, gl', st', r'', g1, g2, g3, g4, g5, g6, g7⟩ := g
      have e1 := stOf_mp h3 h4
      have e3 := g3.len
      have := (h6 rfl).2
      have := (g6 rfl).1
      exact c (by omega)
    | _ => exact c
  | _ => exact c
  ) only [↓qt_eq])
theorem first_ok {t : Tr} (h : ¬ Clash t) : ∀ l : List (Str × (Tr → Option Tr)), ∃ o, first t l = .ok o
  | [] => ⟨_, rfl⟩
  | p :: l => by
    show ∃ o, (if p.1 = "onward" ∧ Clash t then .error () else match p.2 t with | some x => .ok (some (p.1, x)) | none => first t l) = Except.ok o
    rw [if_neg fun z => h z.2]
    split
    · exact ⟨_, rfl⟩
    · exact first_ok h l
theorem inK_ok {c : Tr → Tr} {a e : Except Unit (Option (Str × Tr))} (h1 : ∃ o, a = .ok o) (h2 : ∃ o, e = .ok o) : ∃ o, inK c a e = .ok o := by
  obtain ⟨o, rfl⟩ := h1
  cases o with
  | none => exact h2
  | some p => exact ⟨_, rfl⟩
theorem Gw.step : ∀ {t : Tr} {k r : Nat}, Gw true nps k r t → ∃ o, step t = .ok o
  | nm s, k, r, g => ⟨_, rfl⟩
  | tm n t, k, r, g => inK_ok (Gw.step (t := t) g) (first_ok (Gw.clash (t := tm n t) g) _)
  | tn t, k, r, g => inK_ok (Gw.step (t := t) g) (first_ok (Gw.clash (t := tn t) g) _)
  | cy m t, k, r, g => inK_ok (by obtain ⟨_, _, _, _, _, _, _, _, _, _, h⟩ := g; exact h.step) (first_ok (Gw.clash (t := cy m t) g) _)
  | pr w t u, k, r, g => inK_ok g.2.1.step (inK_ok g.2.2.step (first_ok (Gw.clash (t := pr w t u) g) _))
/-- what is wanted of a tree that is settled -/
structure Sd1 (ok : Bool) (nps : List (Str × Int)) (r : Nat) (t : Tr) : Prop where
  g : Gw ok nps 4 r t
  n : Nw 24 t
  d : dz t + nT t ≤ 24
theorem Sd1.step {r : Nat} {t u : Tr} {x : Str} (h : Sd1 ok nps r t) (s : St x t u) : Sd1 ok nps r u := ⟨s.gw (Nat.le_refl _) h.g, s.nw h.n, by
  have := s.dz
  have := s.less.2.1
  have := h.d
  omega⟩
theorem Run.good {t : Tr} {p : List (Str × Tr)} {e : Option Tr} (h : Run t p e) : ∀ {r : Nat}, Sd1 true nps r t → ∃ u, e = some u := by
  induction h with
  | fin _ => exact fun _ => ⟨_, rfl⟩
  | bad e =>
    intro r g
    obtain ⟨o, e2⟩ := g.g.step
    rw [e2] at e
    cases e
  | go e _ ih => exact fun g => ih (g.step (step_st e))
/-- a drawn tree is such -/
theorem Fit.gw : ∀ {t : Tr} {k r : Nat}, t.depth ≤ k → (r = 1 ∨ r = 2) → Wf t → t.Fit nps r → Gw true nps k r t
  | nm s, k, r, _, _, _, h => ⟨List.mem_map.mpr ⟨_, h, rfl⟩, fun _ => h⟩
  | tm _ t, k, r, hd, hr, w, h => Fit.gw (t := t) (Nat.le_of_succ_le hd) hr w h.2
  | tn t, k, r, hd, hr, w, h => Fit.gw (t := t) (Nat.le_of_succ_le hd) hr w h
  | cy m t, k, r, hd, hr, w, ⟨st, M, hs, h⟩ => ⟨1, r, st, st, by omega, (by have : t.depth + 1 ≤ k := hd; omega), M, hr, hs, fun _ => ⟨rfl, rfl⟩, Fit.gw (t := t) (by have : t.depth + 1 ≤ k := hd; omega) hs w.2 h⟩
  | pr w t u, k, r, hd, hr, z, h => ⟨z.1, Fit.gw (by have : max t.depth u.depth + 1 ≤ k := hd; omega) hr z.2.1 h.1, Fit.gw (by have : max t.depth u.depth + 1 ≤ k := hd; omega) hr z.2.2 h.2⟩
theorem Fit.nw : ∀ {t : Tr} {r : Nat}, t.Fit nps r → Nw (nT t) t
  | nm s, r, _ => trivial
  | tm n t, r, h => ⟨1, Nat.le_add_left .., h.1, (Fit.nw h.2).mono (Nat.le_refl _)⟩
  | tn t, r, h => show Nw (nT t) t from Fit.nw (t := t) h
  | cy m t, r, ⟨_, _, _, h⟩ => show Nw (nT t) t from Fit.nw h
  | pr w t u, r, h => ⟨nT t, Nat.le_add_right .., Fit.nw h.1, (Fit.nw h.2).mono (by show nT u ≤ nT t + nT u - nT t; omega)⟩
end Tr


end
section
/-! The rules' defs. -/
open PySem PyProof.Rows L2 Evl

namespace Tr
/-- words and maps are such -/
noncomputable def Tk : Tr → Prop
  | nm _ => True
  | tm n t => n.natAbs ≤ 4 ^ 24 ∧ Tk t
  | tn t => Tk t
  | cy m t => (∃ b gl st, b ≤ 582 ∧ Mp b gl st m ∧ (gl = 1 ∨ gl = 2) ∧ (st = 1 ∨ st = 2)) ∧ Tk t
  | pr w t u => w ∈ pairs ∧ Tk t ∧ Tk u
theorem Gw.tk {ok : Bool} {nps : List (Str × Int)} : ∀ {t : Tr} {k r s : Nat}, Gw ok nps k r t → Nw s t → s ≤ 24 → Tk t
  | nm s, _, _, _, _, _, _ => trivial
  | tm n t, k, r, s, g, ⟨j, h1, h2, h3⟩, hs => ⟨Nat.le_trans h2 (Nat.pow_le_pow_right (by decide) (by omega)), Gw.tk (t := t) g h3 (by omega)⟩
  | tn t, k, r, s, g, n, hs => show Tk t from Gw.tk (t := t) g n hs
  | cy m t, k, r, s, ⟨j, gl, st, r', h1, h2, h3, h4, h5, h6, h7⟩, n, hs => ⟨⟨_, gl, st, fb_le, h3, h4, h5⟩, h7.tk n hs⟩
  | pr w t u, k, r, s, g, ⟨j, h1, h2, h3⟩, hs => ⟨g.1, g.2.1.tk h2 (by omega), g.2.2.tk h3 (by omega)⟩
theorem Sd1.tk {ok : Bool} {nps : List (Str × Int)} {r : Nat} {t : Tr} (h : Sd1 ok nps r t) : Tk t := h.g.tk h.n (Nat.le_refl _)
theorem k_name {t : Tr} (h : t.Tk) (e : t.word = "name") : ∃ s, t = nm s := qt_of (by simp (disch := with_unfolding_all
  cases t with
  | nm s => exact ⟨s, rfl⟩
  | pr w t u => exact absurd e (pairs_ne h.1).1
  | tm n t => exact absurd (show ("times" : Str) = "name" from e) (by decide)
  | tn t => exact absurd (show ("turn" : Str) = "name" from e) (by decide)
  | cy m t => exact absurd (show ("carry" : Str) = "name" from e) (by decide)
  ) only [↓qt_eq])
theorem k_turn {t : Tr} (h : t.Tk) (e : t.word = "turn") : ∃ x, t = tn x := qt_of (by simp (disch := with_unfolding_all
  cases t with
  | tn s => exact ⟨s, rfl⟩
  | pr w t u => exact absurd e (pairs_ne h.1).2.2.2
  | tm n t => exact absurd (show ("times" : Str) = "turn" from e) (by decide)
  | nm t => exact absurd (show ("name" : Str) = "turn" from e) (by decide)
  | cy m t => exact absurd (show ("carry" : Str) = "turn" from e) (by decide)
  ) only [↓qt_eq])
theorem k_times {t : Tr} (h : t.Tk) (e : t.word = "times") : ∃ n x, t = tm n x := qt_of (by simp (disch := with_unfolding_all
  cases t with
  | tm n s => exact ⟨n, s, rfl⟩
  | pr w t u => exact absurd e (pairs_ne h.1).2.1
  | tn t => exact absurd (show ("turn" : Str) = "times" from e) (by decide)
  | nm t => exact absurd (show ("name" : Str) = "times" from e) (by decide)
  | cy m t => exact absurd (show ("carry" : Str) = "times" from e) (by decide)
  ) only [↓qt_eq])
theorem k_carry {t : Tr} (h : t.Tk) (e : t.word = "carry") : ∃ n x, t = cy n x := qt_of (by simp (disch := with_unfolding_all
  cases t with
  | cy n s => exact ⟨n, s, rfl⟩
  | pr w t u => exact absurd e (pairs_ne h.1).2.2.1
  | tn t => exact absurd (show ("turn" : Str) = "carry" from e) (by decide)
  | nm t => exact absurd (show ("name" : Str) = "carry" from e) (by decide)
  | tm m t => exact absurd (show ("times" : Str) = "carry" from e) (by decide)
  ) only [↓qt_eq])
theorem k_free {t : Tr} (e : Free t.word) : ∃ w x y, t = pr w x y ∧ Free w := qt_of (by simp (disch := with_unfolding_all
  cases t with
  | pr w t u => exact ⟨w, t, u, rfl, e⟩
  | tn t => exact absurd (show Free "turn" from e) (by decide)
  | nm t => exact absurd (show Free "name" from e) (by decide)
  | tm m t => exact absurd (show Free "times" from e) (by decide)
  | cy m t => exact absurd (show Free "carry" from e) (by decide)
  ) only [↓qt_eq])
theorem k_bnd {t : Tr} (e : Bnd t.word) : ∃ w x y, t = pr w x y ∧ Bnd w := qt_of (by simp (disch := with_unfolding_all
  cases t with
  | pr w t u => exact ⟨w, t, u, rfl, e⟩
  | tn t => exact absurd (show Bnd "turn" from e) (by decide)
  | nm t => exact absurd (show Bnd "name" from e) (by decide)
  | tm m t => exact absurd (show Bnd "times" from e) (by decide)
  | cy m t => exact absurd (show Bnd "carry" from e) (by decide)
  ) only [↓qt_eq])
theorem word_shk {t : Tr} (h : t.Tk) : SeqAt.shaped (.str t.word) = true := qt_of (by simp (disch := with_unfolding_all
  cases t with
  | pr w t u =>
    have hw := h.1
    simp only [pairs, List.mem_cons, List.not_mem_nil, or_false] at hw
    show SeqAt.shaped (.str w) = true
    rcases hw with rfl | rfl | rfl | rfl | rfl | rfl <;> decide +kernel
  | nm s => show SeqAt.shaped (.str "name") = true; decide +kernel
  | tm n t => show SeqAt.shaped (.str "times") = true; decide +kernel
  | tn t => show SeqAt.shaped (.str "turn") = true; decide +kernel
  | cy m t => show SeqAt.shaped (.str "carry") = true; decide +kernel
  ) only [↓qt_eq])
theorem rest_tn {x : Tr} : (tn x).rest = [.tuple (.str x.word :: x.rest)] := by show [x.enc] = _; rw [x.enc_eq]
theorem rest_tm {n : Int} {x : Tr} : (tm n x).rest = [.int n, .tuple (.str x.word :: x.rest)] := by show [_, x.enc] = _; rw [x.enc_eq]
theorem rest_cy {m : List (List Fr)} {x : Tr} : (cy m x).rest = [mp m, .tuple (.str x.word :: x.rest)] := by show [_, x.enc] = _; rw [x.enc_eq]
theorem rest_prL {w : Str} {x y : Tr} : (pr w x y).rest = [.tuple (.str x.word :: x.rest), y.enc] := by show [x.enc, _] = _; rw [x.enc_eq]
theorem rest_prR {w : Str} {x y : Tr} : (pr w x y).rest = [x.enc, .tuple (.str y.word :: y.rest)] := by show [_, y.enc] = _; rw [y.enc_eq]
end Tr
noncomputable def optT : Option Tr → PyData
  | none => .none
  | some t => t.enc
noncomputable abbrev freeD : PyData := .tuple [.str "add", .str "take", .str "lay"]
noncomputable abbrev bndD : PyData := .tuple [.str "meet", .str "lay"]
section
variable {K : Fg} {cs : Cs} {gs : Gs} {φ : PyData → Prop} {A : Rs → Prop} {ε : Xw → Prop} {w : World}
noncomputable def P_rule (f : Tr → Option Tr) : Pr := fun ds A => ∃ t : Tr, ds = [t.enc] ∧ t.Tk ∧ A (.ok (optT (f t)))
theorem ln_rule {f : Tr → Option Tr} : ∀ ds A, P_rule f ds A → ds.length = 1 := fun ds A h => by obtain ⟨t, rfl, _⟩ := h; rfl
noncomputable def t_twice (K : Fg) : TS := (tRet (tIf (tAnd (tTest (tOp rEq (tOp (rIx K) (tVar 0) (tC (V.int 0))) (tC (V.str "turn")))) (tTest (tOp rEq (tOp (rIx K) (tOp (rIx K) (tVar 0) (tC (V.int 1))) (tC (V.int 0))) (tC (V.str "turn"))))) (tOp (rIx K) (tOp (rIx K) (tVar 0) (tC (V.int 1))) (tC (V.int 1))) (tC V.non)))
-- slots of twice: 0 tree
theorem rd_twice {ds A} (h : P_rule Tr.rTwice ds A) : SW K cs W0 (t_twice K) (frame 1 ds) (rts0 A) := qt_of (by simp (disch := with_unfolding_all
  obtain ⟨t, rfl, hw, h⟩ := h
  unfold t_twice
  rw [t.enc_eq]
  walk_at "w"
  refine cnd_d (fun e => ?_) fun e => ?_
  · obtain ⟨x, rfl⟩ := Tr.k_turn hw e
    have hx : x.Tk := hw
    rw [Tr.rest_tn]
    walk_at "w"
    refine cnd_d (fun e => ?_) fun e => ?_
    · obtain ⟨y, rfl⟩ := Tr.k_turn hx e
      walk_at "w"
      exact h
    · have z : Tr.rTwice (.tn x) = none := by cases x <;> first | rfl | exact absurd rfl e
      rw [z] at h
      walk_at "w"
      exact h
  · have z : Tr.rTwice t = none := by cases t <;> first | rfl | exact absurd rfl e
    rw [z] at h
    walk_at "w"
    exact h
  ) only [↓qt_eq])
theorem c_small {n k : Int} (h1 : n.natAbs ≤ 4 ^ 24) (h2 : k.natAbs ≤ 4 ^ 24) : CMulW n k :=
  Bd.cm (n := 50) (m := 50) (show n.natAbs < 2 ^ 50 from Nat.lt_of_le_of_lt h1 (by decide)) (show k.natAbs < 2 ^ 50 from Nat.lt_of_le_of_lt h2 (by decide)) (by decide)
noncomputable def t_product (K : Fg) : TS := (tSeq (tIfS (tAnd (tTest (tOp rEq (tOp (rIx K) (tVar 0) (tC (V.int 0))) (tC (V.str "times")))) (tTest (tOp rEq (tOp (rIx K) (tOp (rIx K) (tVar 0) (tC (V.int 2))) (tC (V.int 0))) (tC (V.str "times"))))) (tRet (tTup (tCons (tC (V.str "times")) (tCons (tOp rMulI (tOp (rIx K) (tVar 0) (tC (V.int 1))) (tOp (rIx K) (tOp (rIx K) (tVar 0) (tC (V.int 2))) (tC (V.int 1)))) (tCons (tOp (rIx K) (tOp (rIx K) (tVar 0) (tC (V.int 2))) (tC (V.int 2))) tNil))))) tNext)
  (tRet (tC V.non)))
-- slots of product: 0 tree
theorem rd_product {ds A} (h : P_rule Tr.rProduct ds A) : SW K cs W0 (t_product K) (frame 1 ds) (rts0 A) := qt_of (by simp (disch := with_unfolding_all
  obtain ⟨t, rfl, hw, h⟩ := h
  unfold t_product
  rw [t.enc_eq]
  walk_at "wi"
  refine cnd_d (fun e => ?_) fun e => ?_
  · obtain ⟨n, x, rfl⟩ := Tr.k_times hw e
    have hx : x.Tk := hw.2
    rw [Tr.rest_tm]
    walk_at "w"
    refine cnd_d (fun e => ?_) fun e => ?_
    · obtain ⟨k, y, rfl⟩ := Tr.k_times hx e
      walk_at "w"
      refine ⟨c_small hw.1 hx.1, ?_⟩
      walk_at "w"
      exact h
    · have z : Tr.rProduct (.tm n x) = none := by cases x <;> first | rfl | exact absurd rfl e
      rw [z] at h
      walk_at "w"
      exact h
  · have z : Tr.rProduct t = none := by cases t <;> first | rfl | exact absurd rfl e
    rw [z] at h
    walk_at "w"
    exact h
  ) only [↓qt_eq])
noncomputable def t_turncarry (K : Fg) : TS := (tSeq (tIfS (tAnd (tTest (tOp rEq (tOp (rIx K) (tVar 0) (tC (V.int 0))) (tC (V.str "turn")))) (tTest (tOp rEq (tOp (rIx K) (tOp (rIx K) (tVar 0) (tC (V.int 1))) (tC (V.int 0))) (tC (V.str "carry"))))) (tRet (tTup (tCons (tC (V.str "carry")) (tCons (tOp (rIx K) (tOp (rIx K) (tVar 0) (tC (V.int 1))) (tC (V.int 1))) (tCons (tTup (tCons (tC (V.str "turn")) (tCons (tOp (rIx K) (tOp (rIx K) (tVar 0) (tC (V.int 1))) (tC (V.int 2))) tNil))) tNil))))) tNext)
  (tRet (tC V.non)))
-- slots of turncarry: 0 tree
theorem rd_turncarry {ds A} (h : P_rule Tr.rTurncarry ds A) : SW K cs W0 (t_turncarry K) (frame 1 ds) (rts0 A) := qt_of (by simp (disch := with_unfolding_all
  obtain ⟨t, rfl, hw, h⟩ := h
  unfold t_turncarry
  rw [t.enc_eq]
  walk_at "wi"
  refine cnd_d (fun e => ?_) fun e => ?_
  · obtain ⟨x, rfl⟩ := Tr.k_turn hw e
    have hx : x.Tk := hw
    rw [Tr.rest_tn]
    walk_at "w"
    refine cnd_d (fun e => ?_) fun e => ?_
    · obtain ⟨k, y, rfl⟩ := Tr.k_carry hx e
      walk_at "w"
      exact h
    · have z : Tr.rTurncarry (.tn x) = none := by cases x <;> first | rfl | exact absurd rfl e
      rw [z] at h
      walk_at "w"
      exact h
  · have z : Tr.rTurncarry t = none := by cases t <;> first | rfl | exact absurd rfl e
    rw [z] at h
    walk_at "w"
    exact h
  ) only [↓qt_eq])
noncomputable def t_turntimes (K : Fg) : TS := (tSeq (tIfS (tAnd (tTest (tOp rEq (tOp (rIx K) (tVar 0) (tC (V.int 0))) (tC (V.str "turn")))) (tTest (tOp rEq (tOp (rIx K) (tOp (rIx K) (tVar 0) (tC (V.int 1))) (tC (V.int 0))) (tC (V.str "times"))))) (tRet (tTup (tCons (tC (V.str "times")) (tCons (tOp (rIx K) (tOp (rIx K) (tVar 0) (tC (V.int 1))) (tC (V.int 1))) (tCons (tTup (tCons (tC (V.str "turn")) (tCons (tOp (rIx K) (tOp (rIx K) (tVar 0) (tC (V.int 1))) (tC (V.int 2))) tNil))) tNil))))) tNext)
  (tRet (tC V.non)))
-- slots of turntimes: 0 tree
theorem rd_turntimes {ds A} (h : P_rule Tr.rTurntimes ds A) : SW K cs W0 (t_turntimes K) (frame 1 ds) (rts0 A) := qt_of (by simp (disch := with_unfolding_all
  obtain ⟨t, rfl, hw, h⟩ := h
  unfold t_turntimes
  rw [t.enc_eq]
  walk_at "wi"
  refine cnd_d (fun e => ?_) fun e => ?_
  · obtain ⟨x, rfl⟩ := Tr.k_turn hw e
    have hx : x.Tk := hw
    rw [Tr.rest_tn]
    walk_at "w"
    refine cnd_d (fun e => ?_) fun e => ?_
    · obtain ⟨k, y, rfl⟩ := Tr.k_times hx e
      walk_at "w"
      exact h
    · have z : Tr.rTurntimes (.tn x) = none := by cases x <;> first | rfl | exact absurd rfl e
      rw [z] at h
      walk_at "w"
      exact h
  · have z : Tr.rTurntimes t = none := by cases t <;> first | rfl | exact absurd rfl e
    rw [z] at h
    walk_at "w"
    exact h
  ) only [↓qt_eq])
noncomputable def t_carrytimes (K : Fg) : TS := (tSeq (tIfS (tAnd (tTest (tOp rEq (tOp (rIx K) (tVar 0) (tC (V.int 0))) (tC (V.str "carry")))) (tTest (tOp rEq (tOp (rIx K) (tOp (rIx K) (tVar 0) (tC (V.int 2))) (tC (V.int 0))) (tC (V.str "times"))))) (tRet (tTup (tCons (tC (V.str "times")) (tCons (tOp (rIx K) (tOp (rIx K) (tVar 0) (tC (V.int 2))) (tC (V.int 1))) (tCons (tTup (tCons (tC (V.str "carry")) (tCons (tOp (rIx K) (tVar 0) (tC (V.int 1))) (tCons (tOp (rIx K) (tOp (rIx K) (tVar 0) (tC (V.int 2))) (tC (V.int 2))) tNil)))) tNil))))) tNext)
  (tRet (tC V.non)))
-- slots of carrytimes: 0 tree
theorem rd_carrytimes {ds A} (h : P_rule Tr.rCarrytimes ds A) : SW K cs W0 (t_carrytimes K) (frame 1 ds) (rts0 A) := qt_of (by simp (disch := with_unfolding_all
  obtain ⟨t, rfl, hw, h⟩ := h
  unfold t_carrytimes
  rw [t.enc_eq]
  walk_at "wi"
  refine cnd_d (fun e => ?_) fun e => ?_
  · obtain ⟨m, x, rfl⟩ := Tr.k_carry hw e
    have hx : x.Tk := hw.2
    rw [Tr.rest_cy]
    walk_at "w"
    refine cnd_d (fun e => ?_) fun e => ?_
    · obtain ⟨k, y, rfl⟩ := Tr.k_times hx e
      walk_at "w"
      exact h
    · have z : Tr.rCarrytimes (.cy m x) = none := by cases x <;> first | rfl | exact absurd rfl e
      rw [z] at h
      walk_at "w"
      exact h
  · have z : Tr.rCarrytimes t = none := by cases t <;> first | rfl | exact absurd rfl e
    rw [z] at h
    walk_at "w"
    exact h
  ) only [↓qt_eq])
noncomputable def t_once (K : Fg) : TS := (tRet (tIf (tAnd (tTest (tOp rEq (tOp (rIx K) (tVar 0) (tC (V.int 0))) (tC (V.str "times")))) (tTest (tOp rEq (tOp (rIx K) (tVar 0) (tC (V.int 1))) (tC (V.int 1))))) (tOp (rIx K) (tVar 0) (tC (V.int 2))) (tC V.non)))
-- slots of once: 0 tree
theorem rd_once {ds A} (h : P_rule Tr.rOnce ds A) : SW K cs W0 (t_once K) (frame 1 ds) (rts0 A) := qt_of (by simp (disch := with_unfolding_all
  obtain ⟨t, rfl, hw, h⟩ := h
  unfold t_once
  rw [t.enc_eq]
  walk_at "w"
  refine cnd_d (fun e => ?_) fun e => ?_
  · obtain ⟨n, x, rfl⟩ := Tr.k_times hw e
    walk_at "w"
    refine cnd_d (fun e => ?_) fun e => ?_
    · rw [show Tr.rOnce (.tm n x) = some x from if_pos e] at h
      walk_at "w"
      exact h
    · rw [show Tr.rOnce (.tm n x) = none from if_neg e] at h
      walk_at "w"
      exact h
  · have z : Tr.rOnce t = none := by cases t <;> first | rfl | exact absurd rfl e
    rw [z] at h
    walk_at "w"
    exact h
  ) only [↓qt_eq])
theorem sh_mp {m : List (List Fr)} {b gl st : Nat} (M : Mp b gl st m) (h1 : gl = 1 ∨ gl = 2) (h2 : st = 1 ∨ st = 2) : SeqAt.shaped (mp m) = true :=
  shaped_ok (n := 3) (can_tup fun y hy => by
    obtain ⟨r, _, rfl⟩ := List.mem_map.mp hy
    exact can_frs r) (okD_tup (n := 2) (by rw [List.length_map, M.len]; omega) fun y hy => by
    obtain ⟨r, hr, rfl⟩ := List.mem_map.mp hy
    exact okD_frs (n := 0) (by rw [(M.row r hr).1]; omega)) (by decide)
theorem eqv_mpD (m k : List (List Fr)) : PyData.eqv (mp m) (mp k) = decide (m = k) := eqv_bod m k
theorem still1 : stillM 1 = unitM 1 := rfl
theorem still2 : stillM 2 = unitM 2 := rfl
/-- a map equal to one of the maps that leave all in place -/
theorem in_units {m : List (List Fr)} {b gl st : Nat} {P Q : Prop} (M : Mp b gl st m) (h1 : gl = 1 ∨ gl = 2) (h2 : st = 1 ∨ st = 2) (y : Tr.Unit1 m → P) (n : ¬ Tr.Unit1 m → Q) :
    SeqAt.shaped (mp m) = true ∧ SeqAt.shaped (.list [mp (stillM 1), mp (stillM 2)]) = true ∧ ∃ c, PyData.bool (if false = true then !([mp (stillM 1), mp (stillM 2)].any fun z => PyData.eqv z (mp m)) else [mp (stillM 1), mp (stillM 2)].any fun z => PyData.eqv z (mp m)) = .bool c ∧ Cnd c P Q := qt_of (by simp (disch := with_unfolding_all
  refine ⟨sh_mp M h1 h2, by decide +kernel, _, rfl, ?_⟩
  rw [if_neg (by decide)]
  simp only [List.any_cons, List.any_nil, eqv_mpD, Bool.or_false, still1, still2]
  by_cases e1 : m = unitM 1
  · rw [decide_eq_true e1.symm]; exact cnd_t (y (.inl e1))
  · rw [decide_eq_false (fun z => e1 z.symm), Bool.false_or]
    by_cases e2 : m = unitM 2
    · rw [decide_eq_true e2.symm]; exact cnd_t (y (.inr e2))
    · rw [decide_eq_false (fun z => e2 z.symm)]; exact cnd_f (n fun z => z.elim e1 e2)
  ) only [↓qt_eq])
noncomputable def t_still_rule (K : Fg) : TS := (tRet (tIf (tAnd (tTest (tOp rEq (tOp (rIx K) (tVar 0) (tC (V.int 0))) (tC (V.str "carry")))) (tTest (tOp (rInS K false) (tOp (rIx K) (tVar 0) (tC (V.int 1))) (tTup (tCons (tCall (spP K P_still) [] E0 (tCons (tC (V.int 1)) tNil)) (tCons (tCall (spP K P_still) [] E0 (tCons (tC (V.int 2)) tNil)) tNil)))))) (tOp (rIx K) (tVar 0) (tC (V.int 2))) (tC V.non)))
-- slots of still_rule: 0 tree
theorem rd_still_rule {ds A} (h : P_rule Tr.rStill ds A) : SW K cs W0 (t_still_rule K) (frame 1 ds) (rts0 A) := qt_of (by simp (disch := with_unfolding_all
  obtain ⟨t, rfl, hw, h⟩ := h
  unfold t_still_rule
  rw [t.enc_eq]
  walk_at "w"
  refine cnd_d (fun e => ?_) fun e => ?_
  · obtain ⟨m, x, rfl⟩ := Tr.k_carry hw e
    obtain ⟨⟨b, gl, st, hb, M, h1, h2⟩, hx⟩ := hw
    walk_at "w"
    refine ⟨_, ⟨1, rfl, rfl⟩, ?_⟩
    walk_at "w"
    refine ⟨_, ⟨2, rfl, rfl⟩, _, rfl, ?_⟩
    refine in_units M h1 h2 (fun e => ?_) fun e => ?_
    · rw [show Tr.rStill (.cy m x) = some x from if_pos e] at h
      walk_at "w"
      exact h
    · rw [show Tr.rStill (.cy m x) = none from if_neg e] at h
      walk_at "w"
      exact h
  · have z : Tr.rStill t = none := by cases t <;> first | rfl | exact absurd rfl e
    rw [z] at h
    walk_at "w"
    exact h
  ) only [↓qt_eq])
noncomputable def P_onward : Pr := fun ds A => ∃ (t : Tr) (ok : Bool) (nps : List (Str × Int)) (K r : Nat), ds = [t.enc] ∧ t.Tk ∧ K ≤ 4 ∧ Tr.Gw ok nps K r t ∧ (t.Clash → A (.er xOther)) ∧ (¬ t.Clash → A (.ok (optT (Tr.rOnward t))))
theorem ln_onward : ∀ ds A, P_onward ds A → ds.length = 1 := fun ds A h => by obtain ⟨t, _, _, _, _, rfl, _⟩ := h; rfl
noncomputable def t_onward (K : Fg) (cs : Cs) (W : WX) : TS := (tSeq (tIfS (tAnd (tTest (tOp rEq (tOp (rIx K) (tVar 0) (tC (V.int 0))) (tC (V.str "carry")))) (tTest (tOp rEq (tOp (rIx K) (tOp (rIx K) (tVar 0) (tC (V.int 2))) (tC (V.int 0))) (tC (V.str "carry"))))) (tRet (tTup (tCons (tC (V.str "carry")) (tCons (tCallSD (spW K cs P_behind) [] (WE W) (tCons (tOp (rIx K) (tOp (rIx K) (tVar 0) (tC (V.int 2))) (tC (V.int 1))) (tCons (tOp (rIx K) (tVar 0) (tC (V.int 1))) tNil))) (tCons (tOp (rIx K) (tOp (rIx K) (tVar 0) (tC (V.int 2))) (tC (V.int 2))) tNil))))) tNext)
  (tRet (tC V.non)))
-- slots of onward: 0 tree
theorem rd_onward {ds A} (h : P_onward ds A) (W : WX) : SW K cs W (t_onward K cs W) (frame 1 ds) (rts A) := qt_of (by simp (disch := with_unfolding_all
  obtain ⟨t, ok, nps, kk, rr, rfl, hw, hk, hg, he, h⟩ := h
  unfold t_onward
  rw [t.enc_eq]
  walk_at "wi"
  refine cnd_d (fun e => ?_) fun e => ?_
  · obtain ⟨m, x, rfl⟩ := Tr.k_carry hw e
    have hx : x.Tk := hw.2
    rw [Tr.rest_cy]
    walk_at "w"
    refine cnd_d (fun e => ?_) fun e => ?_
    · obtain ⟨k, y, rfl⟩ := Tr.k_carry hx e
      obtain ⟨j, gl, st, _, j1, j2, M, h1, h2, _, i, gl', st', _, i1, i2, M', h1', h2', _, _⟩ := hg
      have fl := Tr.fb_add j1 i1 (show j + i ≤ 4 by omega)
      have fl2 := Tr.fb_le (j := j + i)
      walk_at "w"
      have e1 := Tr.stOf_mp M h1
      have e2 := Tr.stOf_mp M' h1'
      have l := M'.len
      have hm : gl' * (Tr.fb j + Tr.fb i + 1) ≤ 2 * (Tr.fb j + Tr.fb i + 1) := Nat.mul_le_mul_right _ (by omega)
      refine ⟨Tr.fb i, Tr.fb j, gl', st', gl, st, k, m, rfl, M', M, by omega, by omega, by omega, by omega, by omega, by omega, fun c => ?_, fun c => ⟨by omega, ?_⟩⟩
      · exact he (show Tr.stOf m ≠ k.length by omega)
      · have h := h (show ¬ (Tr.stOf m ≠ k.length) from fun z => z (by omega))
        rw [show Tr.rOnward (.cy m (.cy k y)) = some (.cy (behF (Tr.stOf k) k m) y) from rfl, e2] at h
        walk_at "w"
        exact h
    · have z : Tr.rOnward (.cy m x) = none := by cases x <;> first | rfl | exact absurd rfl e
      have z2 : ¬ Tr.Clash (.cy m x) := by cases x <;> first | exact fun z => z | exact absurd rfl e
      have h := h z2
      rw [z] at h
      walk_at "w"
      exact h
  · have z : Tr.rOnward t = none := by cases t <;> first | rfl | exact absurd rfl e
    have z2 : ¬ Tr.Clash t := by cases t <;> first | exact fun z => z | exact absurd rfl e
    have h := h z2
    rw [z] at h
    walk_at "w"
    exact h
  ) only [↓qt_eq])
noncomputable def t_turnpair (K : Fg) (gs : Gs) : TS := (tSeq (tIfS (tAnd (tTest (tOp rEq (tOp (rIx K) (tVar 0) (tC (V.int 0))) (tC (V.str "turn")))) (tTest (tOp (rInS K false) (tOp (rIx K) (tOp (rIx K) (tVar 0) (tC (V.int 1))) (tC (V.int 0))) (tC (gs "FREE"))))) (tSeq (tAsg (tOp (rIx K) (tVar 0) (tC (V.int 1))) (gTup K 3 (gCons (gName 1) (gCons (gName 2) (gCons (gName 3) gNil)))))
  (tRet (tTup (tCons (tVar 1) (tCons (tTup (tCons (tC (V.str "turn")) (tCons (tVar 2) tNil))) (tCons (tTup (tCons (tC (V.str "turn")) (tCons (tVar 3) tNil))) tNil)))))) tNext)
  (tRet (tC V.non)))
-- slots of turnpair: 0 tree, 1 word, 2 one, 3 other
theorem rd_turnpair {ds A} (gd : ∀ H, Dp K H (gs "FREE") freeD) (h : P_rule Tr.rTurnpair ds A) : SW K cs W0 (t_turnpair K gs) (frame 4 ds) (rts0 A) := qt_of (by simp (disch := with_unfolding_all
  obtain ⟨t, rfl, hw, h⟩ := h
  unfold t_turnpair
  rw [t.enc_eq]
  walk_at "wi"
  refine cnd_d (fun e => ?_) fun e => ?_
  · obtain ⟨x, rfl⟩ := Tr.k_turn hw e
    have hx : x.Tk := hw
    rw [Tr.rest_tn]
    walk_at "w"
    refine in3 (Tr.word_shk hx) (by decide +kernel) (fun e => ?_) fun e => ?_
    · obtain ⟨w, y, z, rfl, ew⟩ := Tr.k_free e
      rw [show Tr.rTurnpair (.tn (.pr w y z)) = some (.pr w (.tn y) (.tn z)) from if_pos ew] at h
      walk_at "w"
      exact h
    · have z : Tr.rTurnpair (.tn x) = none := by cases x <;> first | rfl | exact if_neg e
      rw [z] at h
      walk_at "w"
      exact h
  · have z : Tr.rTurnpair t = none := by cases t <;> first | rfl | exact absurd rfl e
    rw [z] at h
    walk_at "w"
    exact h
  ) only [↓qt_eq])
noncomputable def t_carrypair (K : Fg) (gs : Gs) : TS := (tSeq (tIfS (tAnd (tTest (tOp rEq (tOp (rIx K) (tVar 0) (tC (V.int 0))) (tC (V.str "carry")))) (tTest (tOp (rInS K false) (tOp (rIx K) (tOp (rIx K) (tVar 0) (tC (V.int 2))) (tC (V.int 0))) (tC (gs "FREE"))))) (tSeq (tAsg (tOp (rIx K) (tVar 0) (tC (V.int 2))) (gTup K 3 (gCons (gName 2) (gCons (gName 3) (gCons (gName 4) gNil)))))
  (tSeq (tAsg (tIf (tTest (tOp rEq (tVar 2) (tC (V.str "lay")))) (tCall (spP K P_straight) [] E0 (tCons (tOp (rIx K) (tVar 0) (tC (V.int 1))) tNil)) (tOp (rIx K) (tVar 0) (tC (V.int 1)))) (gName 1))
  (tRet (tTup (tCons (tVar 2) (tCons (tTup (tCons (tC (V.str "carry")) (tCons (tOp (rIx K) (tVar 0) (tC (V.int 1))) (tCons (tVar 3) tNil)))) (tCons (tTup (tCons (tC (V.str "carry")) (tCons (tVar 1) (tCons (tVar 4) tNil)))) tNil))))))) tNext)
  (tRet (tC V.non)))
-- slots of carrypair: 0 tree, 1 second, 2 word, 3 one, 4 other
theorem rd_carrypair {ds A} (gd : ∀ H, Dp K H (gs "FREE") freeD) (h : P_rule Tr.rCarrypair ds A) : SW K cs W0 (t_carrypair K gs) (frame 5 ds) (rts0 A) := qt_of (by simp (disch := with_unfolding_all
  obtain ⟨t, rfl, hw, h⟩ := h
  unfold t_carrypair
  rw [t.enc_eq]
  walk_at "wi"
  refine cnd_d (fun e => ?_) fun e => ?_
  · obtain ⟨m, x, rfl⟩ := Tr.k_carry hw e
    obtain ⟨⟨b, gl, st, hb, M, h1, h2⟩, hx⟩ := hw
    rw [Tr.rest_cy]
    walk_at "w"
    refine in3 (Tr.word_shk hx) (by decide +kernel) (fun e => ?_) fun e => ?_
    · obtain ⟨w, y, z, rfl, ew⟩ := Tr.k_free e
      rw [show Tr.rCarrypair (.cy m (.pr w y z)) = some (.pr w (.cy m y) (.cy (if w = "lay" then straightM m else m) z)) from if_pos ew] at h
      walk_at "wi"
      refine cnd_d (fun e => ?_) fun e => ?_
      · rw [if_pos (show w = "lay" from e)] at h
        walk_at "w"
        refine ⟨_, ⟨m, rfl, by rw [M.len]; omega, fun r hr => by rw [(M.row r hr).1]; omega, rfl⟩, ?_⟩
        walk_at "w"
        exact h
      · rw [if_neg (show ¬ w = "lay" from e)] at h
        walk_at "w"
        exact h
    · have z : Tr.rCarrypair (.cy m x) = none := by cases x <;> first | rfl | exact if_neg e
      rw [z] at h
      walk_at "w"
      exact h
  · have z : Tr.rCarrypair t = none := by cases t <;> first | rfl | exact absurd rfl e
    rw [z] at h
    walk_at "w"
    exact h
  ) only [↓qt_eq])
noncomputable def t_left (K : Fg) (gs : Gs) : TS := (tSeq (tIfS (tAnd (tTest (tOp (rInS K false) (tOp (rIx K) (tVar 0) (tC (V.int 0))) (tC (gs "BOUND")))) (tTest (tOp rEq (tOp (rIx K) (tOp (rIx K) (tVar 0) (tC (V.int 1))) (tC (V.int 0))) (tC (V.str "times"))))) (tRet (tTup (tCons (tC (V.str "times")) (tCons (tOp (rIx K) (tOp (rIx K) (tVar 0) (tC (V.int 1))) (tC (V.int 1))) (tCons (tTup (tCons (tOp (rIx K) (tVar 0) (tC (V.int 0))) (tCons (tOp (rIx K) (tOp (rIx K) (tVar 0) (tC (V.int 1))) (tC (V.int 2))) (tCons (tOp (rIx K) (tVar 0) (tC (V.int 2))) tNil)))) tNil))))) tNext)
  (tRet (tC V.non)))
-- slots of left: 0 tree
theorem rd_left {ds A} (gd : ∀ H, Dp K H (gs "BOUND") bndD) (h : P_rule Tr.rLeft ds A) : SW K cs W0 (t_left K gs) (frame 1 ds) (rts0 A) := qt_of (by simp (disch := with_unfolding_all
  obtain ⟨t, rfl, hw, h⟩ := h
  unfold t_left
  rw [t.enc_eq]
  walk_at "wi"
  refine in2 (Tr.word_shk hw) (by decide +kernel) (fun e => ?_) fun e => ?_
  · obtain ⟨w, x, y, rfl, ew⟩ := Tr.k_bnd e
    have hx : x.Tk := hw.2.1
    rw [Tr.rest_prL]
    walk_at "w"
    refine cnd_d (fun e => ?_) fun e => ?_
    · obtain ⟨n, z, rfl⟩ := Tr.k_times hx e
      rw [show Tr.rLeft (.pr w (.tm n z) y) = some (.tm n (.pr w z y)) from if_pos ew] at h
      walk_at "w"
      exact h
    · have z : Tr.rLeft (.pr w x y) = none := by cases x <;> first | rfl | exact absurd rfl e
      rw [z] at h
      walk_at "w"
      exact h
  · have z : Tr.rLeft t = none := by
      cases t with
      | pr w x y => cases x <;> first | rfl | exact if_neg e
      | _ => rfl
    rw [z] at h
    walk_at "w"
    exact h
  ) only [↓qt_eq])
noncomputable def t_right (K : Fg) (gs : Gs) : TS := (tSeq (tIfS (tAnd (tTest (tOp (rInS K false) (tOp (rIx K) (tVar 0) (tC (V.int 0))) (tC (gs "BOUND")))) (tTest (tOp rEq (tOp (rIx K) (tOp (rIx K) (tVar 0) (tC (V.int 2))) (tC (V.int 0))) (tC (V.str "times"))))) (tRet (tTup (tCons (tC (V.str "times")) (tCons (tOp (rIx K) (tOp (rIx K) (tVar 0) (tC (V.int 2))) (tC (V.int 1))) (tCons (tTup (tCons (tOp (rIx K) (tVar 0) (tC (V.int 0))) (tCons (tOp (rIx K) (tVar 0) (tC (V.int 1))) (tCons (tOp (rIx K) (tOp (rIx K) (tVar 0) (tC (V.int 2))) (tC (V.int 2))) tNil)))) tNil))))) tNext)
  (tRet (tC V.non)))
-- slots of right: 0 tree
theorem rd_right {ds A} (gd : ∀ H, Dp K H (gs "BOUND") bndD) (h : P_rule Tr.rRight ds A) : SW K cs W0 (t_right K gs) (frame 1 ds) (rts0 A) := qt_of (by simp (disch := with_unfolding_all
  obtain ⟨t, rfl, hw, h⟩ := h
  unfold t_right
  rw [t.enc_eq]
  walk_at "wi"
  refine in2 (Tr.word_shk hw) (by decide +kernel) (fun e => ?_) fun e => ?_
  · obtain ⟨w, x, y, rfl, ew⟩ := Tr.k_bnd e
    have hx : y.Tk := hw.2.2
    rw [Tr.rest_prR]
    walk_at "w"
    refine cnd_d (fun e => ?_) fun e => ?_
    · obtain ⟨n, z, rfl⟩ := Tr.k_times hx e
      rw [show Tr.rRight (.pr w x (.tm n z)) = some (.tm n (.pr w x z)) from if_pos ew] at h
      walk_at "w"
      exact h
    · have z : Tr.rRight (.pr w x y) = none := by cases y <;> first | rfl | exact absurd rfl e
      rw [z] at h
      walk_at "w"
      exact h
  · have z : Tr.rRight t = none := by
      cases t with
      | pr w x y => cases y <;> first | rfl | exact if_neg e
      | _ => rfl
    rw [z] at h
    walk_at "w"
    exact h
  ) only [↓qt_eq])
end


end
section
/-! The rules in turn. -/
open PySem PyProof.Rows L2 Evl

noncomputable abbrev rulesD : PyData := .tuple (Tr.ruleL.map fun p => .str p.1)
section
variable {K : Fg} {cs : Cs} {gs : Gs} {φ : PyData → Prop} {A : Rs → Prop} {ε : Xw → Prop} {w : World} {W : WX} {fv : Nat → Addr} {Φ : Out → Prop}
noncomputable def stepD : Option (Str × Tr) → PyData
  | none => .none
  | some p => .tuple [.str p.1, p.2.enc]
noncomputable def P_atTop : Pr := fun ds A => ∃ (t : Tr) (ok : Bool) (nps : List (Str × Int)) (k r : Nat), ds = [t.enc] ∧ t.Tk ∧ k ≤ 4 ∧ Tr.Gw ok nps k r t ∧ (Tr.top t = .error () → A (.er xOther)) ∧ ∀ o, Tr.top t = .ok o → A (.ok (stepD o))
theorem ln_at_top : ∀ ds A, P_atTop ds A → ds.length = 1 := fun ds A h => by obtain ⟨t, _, _, _, _, rfl, _⟩ := h; rfl
noncomputable def t_at_top (K : Fg) (w : World) (cs : Cs) (gs : Gs) (fv : Nat → Addr) (W : WX) : TS := (tSeq (tFor (iTup K (tC (gs "RULES"))) (gName 1) (tSeq (tAsg (tOp (rIxD K w) (tC (V.ref (fv 22))) (tVar 1)) (gName 2))
  (tSeq (tAsg (tEith (ItX.tCallV 2 (fv 10) (spW0 K (P_rule Tr.rTwice)) E0 (tCons (tVar 0) tNil)) (tEith (ItX.tCallV 2 (fv 11) (spW0 K (P_rule Tr.rOnce)) E0 (tCons (tVar 0) tNil)) (tEith (ItX.tCallV 2 (fv 12) (spW0 K (P_rule Tr.rProduct)) E0 (tCons (tVar 0) tNil)) (tEith (ItX.tCallV 2 (fv 13) (spW0 K (P_rule Tr.rStill)) E0 (tCons (tVar 0) tNil)) (tEith (tCallVS 2 (fv 14) (spW K cs P_onward) (WE W) (tCons (tVar 0) tNil)) (tEith (ItX.tCallV 2 (fv 15) (spW0 K (P_rule Tr.rTurncarry)) E0 (tCons (tVar 0) tNil)) (tEith (ItX.tCallV 2 (fv 16) (spW0 K (P_rule Tr.rTurntimes)) E0 (tCons (tVar 0) tNil)) (tEith (ItX.tCallV 2 (fv 17) (spW0 K (P_rule Tr.rCarrytimes)) E0 (tCons (tVar 0) tNil)) (tEith (ItX.tCallV 2 (fv 18) (spW0 K (P_rule Tr.rTurnpair)) E0 (tCons (tVar 0) tNil)) (tEith (ItX.tCallV 2 (fv 19) (spW0 K (P_rule Tr.rCarrypair)) E0 (tCons (tVar 0) tNil)) (tEith (ItX.tCallV 2 (fv 20) (spW0 K (P_rule Tr.rLeft)) E0 (tCons (tVar 0) tNil)) (ItX.tCallV 2 (fv 21) (spW0 K (P_rule Tr.rRight)) E0 (tCons (tVar 0) tNil))))))))))))) (gName 3))
  (tIfS (tTest (tOp rNoNo (tVar 3) (tC V.non))) (tRet (tTup (tCons (tVar 1) (tCons (tVar 3) tNil)))) tNext))))
  (tRet (tC V.non)))
-- slots of at_top: 0 tree, 1 rule, 2 fitting, 3 found
theorem top_body {CH : TE} {t : Tr} {z : Str} {o : Option Tr} {v e3 : En} (hc : ∀ φ ε, φ (optT o) → EW K cs W CH [.d t.enc, .d (.str z), v, e3] φ ε) (hp : ∀ y, o = some y → Φ (.rt (.tuple [.str z, y.enc]))) (hn : o = none → Φ (.nx [.d t.enc, .d (.str z), v, .d .none])) :
    SW K cs W (tSeq (tAsg CH (gName 3)) (tIfS (tTest (tOp rNoNo (tVar 3) (tC V.non))) (tRet (tTup (tCons (tVar 1) (tCons (tVar 3) tNil)))) tNext)) [.d t.enc, .d (.str z), v, e3] Φ := qt_of (by simp (disch := with_unfolding_all
  refine sw_seq (sw_asg (hc _ _ ?_))
  cases o with
  | some y =>
    have hp := hp y rfl
    show SW K cs W _ [.d t.enc, .d (.str z), v, .d y.enc] _
    rw [y.enc_eq] at *
    walk_at "w"
    refine cnd_t ?_
    walk_at "w"
    exact hp
  | none =>
    have hn := hn rfl
    show SW K cs W _ [.d t.enc, .d (.str z), v, .d .none] _
    walk_at "w"
    refine cnd_f ?_
    walk_at "w"
    exact hn
  ) only [↓qt_eq])
theorem first_cons {t : Tr} {p : Str × (Tr → Option Tr)} {l : List (Str × (Tr → Option Tr))} : Tr.first t (p :: l) = if p.1 = "onward" ∧ Tr.Clash t then .error () else match p.2 t with | some x => .ok (some (p.1, x)) | none => Tr.first t l := rfl
theorem rule_at {pre post : List (Str × (Tr → Option Tr))} {x : Str × (Tr → Option Tr)} (h : Tr.ruleL = pre ++ x :: post) : Tr.ruleL[pre.length]? = some x := by
  rw [h, List.getElem?_append_right (Nat.le_refl _), Nat.sub_self]
  rfl
theorem rd_at_top {ds A} (gd : ∀ H, Dp K H (gs "RULES") rulesD) (k0 : KDct K w (fv 22) "twice" (.ref (fv 10))) (k1 : KDct K w (fv 22) "once" (.ref (fv 11))) (k2 : KDct K w (fv 22) "product" (.ref (fv 12))) (k3 : KDct K w (fv 22) "still" (.ref (fv 13))) (k4 : KDct K w (fv 22) "onward" (.ref (fv 14))) (k5 : KDct K w (fv 22) "turncarry" (.ref (fv 15))) (k6 : KDct K w (fv 22) "turntimes" (.ref (fv 16))) (k7 : KDct K w (fv 22) "carrytimes" (.ref (fv 17))) (k8 : KDct K w (fv 22) "turnpair" (.ref (fv 18))) (k9 : KDct K w (fv 22) "carrypair" (.ref (fv 19))) (k10 : KDct K w (fv 22) "left" (.ref (fv 20))) (k11 : KDct K w (fv 22) "right" (.ref (fv 21))) (h : P_atTop ds A) (W : WX) : SW K cs W (t_at_top K w cs gs fv W) (frame 4 ds) (rts A) := qt_of (by simp (disch := with_unfolding_all
  obtain ⟨t, ok, nps, kk, r, rfl, hk, hkk, hg, he, h⟩ := h
  unfold t_at_top
  refine sw_seq ?_
  walk_at "w"
  refine forP (f := fun p : Str × (Tr → Option Tr) => PyData.str p.1) (xs := Tr.ruleL) (fun pre G => (∀ post, Tr.ruleL = pre ++ post → Tr.first t post = Tr.top t) ∧ ∃ e1 e2 e3, G = [.d t.enc, e1, e2, e3]) ⟨fun post e => by rw [List.nil_append] at e; rw [← e]; rfl, _, _, _, rfl⟩ ?_ ?_
  · rintro pre x post _ e ⟨hf, e1, e2, e3, rfl⟩
    refine gw_name ?_
    have hx := hf _ e
    have hi := rule_at e
    have go : ∀ {v : En} {o : Option Tr}, o = x.2 t → (x.1 = "onward" → ¬ Tr.Clash t) → (∀ y, o = some y → A (.ok (.tuple [.str x.1, y.enc]))) ∧ (o = none → ∀ post', Tr.ruleL = (pre ++ [x]) ++ post' → Tr.first t post' = Tr.top t) := fun {v o} eo hc => by
      rw [first_cons, if_neg (fun z => hc z.1 z.2), ← eo] at hx
      refine ⟨fun y ey => ?_, fun en post' ep => ?_⟩
      · rw [ey] at hx
        exact h (some (x.1, y)) hx.symm
      · rw [en] at hx
        rw [e, List.append_assoc, List.singleton_append] at ep
        rw [← (List.cons.inj (List.append_cancel_left ep)).2]
        exact hx
    have hl : pre.length < 12 := by have := congrArg List.length e; simp [Tr.ruleL] at this; omega
    generalize pre.length = j at hi hl
    match j, hl, hi with
    | 0, _, hi =>
      obtain rfl : (("twice" : Str), Tr.rTwice) = x := Option.some.inj hi
      refine sw_seq (sw_asgK (z := "twice") (i := 1) rfl k0 ?_)
      obtain ⟨g1, g2⟩ := go (v := .un) (o := Tr.rTwice t) rfl (fun z => absurd z (by decide))
      exact top_body (o := Tr.rTwice t) (fun φ ε p => (ew_or1 (ew_cV (i := 2) rfl (aw_cons (ew_var rfl (aw_nil ⟨t, rfl, hk, p⟩)))))) g1 fun z => ⟨g2 z, _, _, _, rfl⟩
    | 1, _, hi =>
      obtain rfl : (("once" : Str), Tr.rOnce) = x := Option.some.inj hi
      refine sw_seq (sw_asgK (z := "once") (i := 1) rfl k1 ?_)
      obtain ⟨g1, g2⟩ := go (v := .un) (o := Tr.rOnce t) rfl (fun z => absurd z (by decide))
      exact top_body (o := Tr.rOnce t) (fun φ ε p => (ew_or2 (ew_or1 (ew_cV (i := 2) rfl (aw_cons (ew_var rfl (aw_nil ⟨t, rfl, hk, p⟩))))))) g1 fun z => ⟨g2 z, _, _, _, rfl⟩
    | 2, _, hi =>
      obtain rfl : (("product" : Str), Tr.rProduct) = x := Option.some.inj hi
      refine sw_seq (sw_asgK (z := "product") (i := 1) rfl k2 ?_)
      obtain ⟨g1, g2⟩ := go (v := .un) (o := Tr.rProduct t) rfl (fun z => absurd z (by decide))
      exact top_body (o := Tr.rProduct t) (fun φ ε p => (ew_or2 (ew_or2 (ew_or1 (ew_cV (i := 2) rfl (aw_cons (ew_var rfl (aw_nil ⟨t, rfl, hk, p⟩)))))))) g1 fun z => ⟨g2 z, _, _, _, rfl⟩
    | 3, _, hi =>
      obtain rfl : (("still" : Str), Tr.rStill) = x := Option.some.inj hi
      refine sw_seq (sw_asgK (z := "still") (i := 1) rfl k3 ?_)
      obtain ⟨g1, g2⟩ := go (v := .un) (o := Tr.rStill t) rfl (fun z => absurd z (by decide))
      exact top_body (o := Tr.rStill t) (fun φ ε p => (ew_or2 (ew_or2 (ew_or2 (ew_or1 (ew_cV (i := 2) rfl (aw_cons (ew_var rfl (aw_nil ⟨t, rfl, hk, p⟩))))))))) g1 fun z => ⟨g2 z, _, _, _, rfl⟩
    | 4, _, hi =>
      obtain rfl : (("onward" : Str), Tr.rOnward) = x := Option.some.inj hi
      refine sw_seq (sw_asgK (z := "onward") (i := 1) rfl k4 ?_)
      by_cases hc : Tr.Clash t
      · refine sw_seq (sw_asg (ew_or2 (ew_or2 (ew_or2 (ew_or2 (ew_or1 (ew_cVS (i := 2) rfl (aw_cons (ew_var rfl (aw_nil ⟨t, ok, nps, kk, r, rfl, hk, hkk, hg, fun _ => ?_, fun z => absurd hc z⟩))))))))))
        rw [first_cons, if_pos ⟨rfl, hc⟩] at hx
        exact he hx.symm
      · obtain ⟨g1, g2⟩ := go (v := .un) (o := Tr.rOnward t) rfl (fun _ => hc)
        exact top_body (o := Tr.rOnward t) (fun φ ε p => ew_or2 (ew_or2 (ew_or2 (ew_or2 (ew_or1 (ew_cVS (i := 2) rfl (aw_cons (ew_var rfl (aw_nil ⟨t, ok, nps, kk, r, rfl, hk, hkk, hg, fun z => absurd z hc, fun _ => p⟩))))))))) g1 fun z => ⟨g2 z, _, _, _, rfl⟩
    | 5, _, hi =>
      obtain rfl : (("turncarry" : Str), Tr.rTurncarry) = x := Option.some.inj hi
      refine sw_seq (sw_asgK (z := "turncarry") (i := 1) rfl k5 ?_)
      obtain ⟨g1, g2⟩ := go (v := .un) (o := Tr.rTurncarry t) rfl (fun z => absurd z (by decide))
      exact top_body (o := Tr.rTurncarry t) (fun φ ε p => (ew_or2 (ew_or2 (ew_or2 (ew_or2 (ew_or2 (ew_or1 (ew_cV (i := 2) rfl (aw_cons (ew_var rfl (aw_nil ⟨t, rfl, hk, p⟩))))))))))) g1 fun z => ⟨g2 z, _, _, _, rfl⟩
    | 6, _, hi =>
      obtain rfl : (("turntimes" : Str), Tr.rTurntimes) = x := Option.some.inj hi
      refine sw_seq (sw_asgK (z := "turntimes") (i := 1) rfl k6 ?_)
      obtain ⟨g1, g2⟩ := go (v := .un) (o := Tr.rTurntimes t) rfl (fun z => absurd z (by decide))
      exact top_body (o := Tr.rTurntimes t) (fun φ ε p => (ew_or2 (ew_or2 (ew_or2 (ew_or2 (ew_or2 (ew_or2 (ew_or1 (ew_cV (i := 2) rfl (aw_cons (ew_var rfl (aw_nil ⟨t, rfl, hk, p⟩)))))))))))) g1 fun z => ⟨g2 z, _, _, _, rfl⟩
    | 7, _, hi =>
      obtain rfl : (("carrytimes" : Str), Tr.rCarrytimes) = x := Option.some.inj hi
      refine sw_seq (sw_asgK (z := "carrytimes") (i := 1) rfl k7 ?_)
      obtain ⟨g1, g2⟩ := go (v := .un) (o := Tr.rCarrytimes t) rfl (fun z => absurd z (by decide))
      exact top_body (o := Tr.rCarrytimes t) (fun φ ε p => (ew_or2 (ew_or2 (ew_or2 (ew_or2 (ew_or2 (ew_or2 (ew_or2 (ew_or1 (ew_cV (i := 2) rfl (aw_cons (ew_var rfl (aw_nil ⟨t, rfl, hk, p⟩))))))))))))) g1 fun z => ⟨g2 z, _, _, _, rfl⟩
    | 8, _, hi =>
      obtain rfl : (("turnpair" : Str), Tr.rTurnpair) = x := Option.some.inj hi
      refine sw_seq (sw_asgK (z := "turnpair") (i := 1) rfl k8 ?_)
      obtain ⟨g1, g2⟩ := go (v := .un) (o := Tr.rTurnpair t) rfl (fun z => absurd z (by decide))
      exact top_body (o := Tr.rTurnpair t) (fun φ ε p => (ew_or2 (ew_or2 (ew_or2 (ew_or2 (ew_or2 (ew_or2 (ew_or2 (ew_or2 (ew_or1 (ew_cV (i := 2) rfl (aw_cons (ew_var rfl (aw_nil ⟨t, rfl, hk, p⟩)))))))))))))) g1 fun z => ⟨g2 z, _, _, _, rfl⟩
    | 9, _, hi =>
      obtain rfl : (("carrypair" : Str), Tr.rCarrypair) = x := Option.some.inj hi
      refine sw_seq (sw_asgK (z := "carrypair") (i := 1) rfl k9 ?_)
      obtain ⟨g1, g2⟩ := go (v := .un) (o := Tr.rCarrypair t) rfl (fun z => absurd z (by decide))
      exact top_body (o := Tr.rCarrypair t) (fun φ ε p => (ew_or2 (ew_or2 (ew_or2 (ew_or2 (ew_or2 (ew_or2 (ew_or2 (ew_or2 (ew_or2 (ew_or1 (ew_cV (i := 2) rfl (aw_cons (ew_var rfl (aw_nil ⟨t, rfl, hk, p⟩))))))))))))))) g1 fun z => ⟨g2 z, _, _, _, rfl⟩
    | 10, _, hi =>
      obtain rfl : (("left" : Str), Tr.rLeft) = x := Option.some.inj hi
      refine sw_seq (sw_asgK (z := "left") (i := 1) rfl k10 ?_)
      obtain ⟨g1, g2⟩ := go (v := .un) (o := Tr.rLeft t) rfl (fun z => absurd z (by decide))
      exact top_body (o := Tr.rLeft t) (fun φ ε p => (ew_or2 (ew_or2 (ew_or2 (ew_or2 (ew_or2 (ew_or2 (ew_or2 (ew_or2 (ew_or2 (ew_or2 (ew_or1 (ew_cV (i := 2) rfl (aw_cons (ew_var rfl (aw_nil ⟨t, rfl, hk, p⟩)))))))))))))))) g1 fun z => ⟨g2 z, _, _, _, rfl⟩
    | 11, _, hi =>
      obtain rfl : (("right" : Str), Tr.rRight) = x := Option.some.inj hi
      refine sw_seq (sw_asgK (z := "right") (i := 1) rfl k11 ?_)
      obtain ⟨g1, g2⟩ := go (v := .un) (o := Tr.rRight t) rfl (fun z => absurd z (by decide))
      exact top_body (o := Tr.rRight t) (fun φ ε p => (ew_or2 (ew_or2 (ew_or2 (ew_or2 (ew_or2 (ew_or2 (ew_or2 (ew_or2 (ew_or2 (ew_or2 (ew_or2 (ew_cV (i := 2) rfl (aw_cons (ew_var rfl (aw_nil ⟨t, rfl, hk, p⟩)))))))))))))))) g1 fun z => ⟨g2 z, _, _, _, rfl⟩
    | n + 12, hl, _ => exact absurd hl (by omega)
  · rintro _ ⟨hf, e1, e2, e3, rfl⟩
    walk_at "w"
    exact h none (hf [] (by rw [List.append_nil])).symm
  ) only [↓qt_eq])
end


end
section
/-! One step. -/
open PySem PyProof.Rows L2 Evl

section
variable {K : Fg} {cs : Cs} {gs : Gs} {φ : PyData → Prop} {A : Rs → Prop} {ε : Xw → Prop} {w : World} {W : WX} {Φ : Out → Prop}
theorem for1 {g : TG} {tb : TS} {G : Gam} {x : PyData} (h : GW K g G x (fun Gt => SW K cs W tb Gt (lp (fun G' => Φ (.nx G')) Φ))) : ForI K cs W g tb G Φ [x] := qt_of (by simp (disch := with_unfolding_all
  refine forP0 (fun pre G' => match pre with | [] => G' = G | _ => Φ (.nx G')) rfl ?_ fun G' h => h
  rintro pre y post G' e hI
  cases pre with
  | nil => cases e; cases hI; exact h
  | cons a l => cases l <;> cases e
  ) only [↓qt_eq])
theorem for2 {g : TG} {tb : TS} {G : Gam} {x y : PyData} (h : GW K g G x (fun Gt => SW K cs W tb Gt (lp (fun G1 => GW K g G1 y (fun Gt => SW K cs W tb Gt (lp (fun G' => Φ (.nx G')) Φ))) Φ))) : ForI K cs W g tb G Φ [x, y] := qt_of (by simp (disch := with_unfolding_all
  refine forP0 (fun pre G' => match pre with | [] => G' = G | [_] => GW K g G' y (fun Gt => SW K cs W tb Gt (lp (fun G' => Φ (.nx G')) Φ)) | _ => Φ (.nx G')) rfl ?_ fun G' h => h
  rintro pre z post G' e hI
  match pre, e, hI with
  | [], e, hI => cases e; cases hI; exact h
  | [a], e, hI => cases e; exact hI
  | a :: b :: l, e, hI => cases l <;> cases e
  ) only [↓qt_eq])
noncomputable def P_oneStep : Nat → Pr
  | 0 => fun _ _ => False
  | n + 1 => fun ds A => ∃ (t : Tr) (ok : Bool) (nps : List (Str × Int)) (k r : Nat), ds = [t.enc] ∧ t.Tk ∧ k ≤ 4 ∧ Tr.Gw ok nps k r t ∧ t.depth ≤ n ∧ n ≤ 25 ∧ (Tr.step t = .error () → A (.er xOther)) ∧ ∀ o, Tr.step t = .ok o → A (.ok (stepD o))
noncomputable def t_one_step (K : Fg) (n : Nat) (cs : Cs) (W : WX) : TS := (tSeq (tAsg (tIf (tTest (tOp (rInS K false) (tOp (rIx K) (tVar 0) (tC (V.int 0))) (tTup (tCons (tC (V.str "times")) (tCons (tC (V.str "carry")) tNil))))) (tC (V.int 2)) (tC (V.int 1))) (gName 1))
  (tSeq (tIfS (tTest (tOp rNe (tOp (rIx K) (tVar 0) (tC (V.int 0))) (tC (V.str "name")))) (tFor (iRng2 (tCons (tVar 1) (tCons (tCB (rLenQ K) (tCons (tVar 0) tNil)) tNil))) (gName 2) (tSeq (tAsg (tCallSD (spW K cs (P_oneStep n)) [] (WE W) (tCons (tOp (rIx K) (tVar 0) (tVar 2)) tNil)) (gName 3))
  (tIfS (tTest (tOp rNoNo (tVar 3) (tC V.non))) (tRet (tTup (tCons (tOp (rIx K) (tVar 3) (tC (V.int 0))) (tCons (tOp (rCatA K) (tOp (rCatA K) (tSl (rSlA K) (tVar 0) tNoPart (tPart (tVar 2))) (tTup (tCons (tOp (rIx K) (tVar 3) (tC (V.int 1))) tNil))) (tSl (rSlA K) (tVar 0) (tPart (tOp rAddI (tVar 2) (tC (V.int 1)))) tNoPart)) tNil)))) tNext))) tNext)
  (tRet (tCallSD (spW K cs P_atTop) [] (WE W) (tCons (tVar 0) tNil)))))
-- slots of one_step: 0 tree, 1 start, 2 at, 3 found
theorem ln_one_step {n : Nat} : ∀ ds A, P_oneStep (n + 1) ds A → ds.length = 1 := fun ds A h => by obtain ⟨t, _, _, _, _, rfl, _⟩ := h; rfl
theorem step_body {n : Nat} {x : Tr} {xs pre post : List PyData} {i : Int} {s : PyData} {e3 : En} (hc : ∀ A' : Rs → Prop, (Tr.step x = .error () → A' (.er xOther)) → (∀ o, Tr.step x = .ok o → A' (.ok (stepD o))) → P_oneStep n [x.enc] A')
    (hat : atI xs i = some x.enc) (h1 : cutD xs none (some i) = pre) (h2 : cutD xs (some (i + 1)) none = post) (hl : pre.length + post.length ≤ 10) (hE : Tr.step x = .error () → Φ (.ex xOther [.d (.tuple xs), .d s, .d (.int i), e3]))
    (hS : ∀ r y, Tr.step x = .ok (some (r, y)) → Φ (.rt (.tuple [.str r, .tuple (pre ++ [y.enc] ++ post)]))) (hN : Tr.step x = .ok none → Φ (.nx [.d (.tuple xs), .d s, .d (.int i), .d .none])) :
    SW K cs W (tSeq (tAsg (tCallSD (spW K cs (P_oneStep n)) [] (WE W) (tCons (tOp (rIx K) (tVar 0) (tVar 2)) tNil)) (gName 3))
  (tIfS (tTest (tOp rNoNo (tVar 3) (tC V.non))) (tRet (tTup (tCons (tOp (rIx K) (tVar 3) (tC (V.int 0))) (tCons (tOp (rCatA K) (tOp (rCatA K) (tSl (rSlA K) (tVar 0) tNoPart (tPart (tVar 2))) (tTup (tCons (tOp (rIx K) (tVar 3) (tC (V.int 1))) tNil))) (tSl (rSlA K) (tVar 0) (tPart (tOp rAddI (tVar 2) (tC (V.int 1)))) tNoPart)) tNil)))) tNext)) [.d (.tuple xs), .d s, .d (.int i), e3] Φ := qt_of (by simp (disch := with_unfolding_all
  refine sw_seq ?_
  walk_at "s"
  refine ⟨_, hat, ?_⟩
  walk_at "s"
  refine hc _ hE fun o ho => ?_
  cases o with
  | none =>
    have hN := hN ho
    show SW K cs W _ [.d (.tuple xs), .d s, .d (.int i), .d .none] _
    walk_at "w"
    refine cnd_f ?_
    walk_at "w"
    exact hN
  | some q =>
    obtain ⟨r, y⟩ := q
    have hS := hS r y ho
    show SW K cs W _ [.d (.tuple xs), .d s, .d (.int i), .d (.tuple [.str r, y.enc])] _
    walk_at "w"
    refine cnd_t ?_
    walk_at "w"
    rw [h1]
    refine ⟨by simp only [List.length_cons, List.length_nil]; omega, _, rfl, ?_⟩
    walk_at "w"
    rw [h2]
    refine ⟨by simp only [List.length_append, List.length_cons, List.length_nil]; omega, ?_⟩
    exact hS
  ) only [↓qt_eq])
theorem rd_one_step {n : Nat} {ds A} (h : P_oneStep (n + 1) ds A) (W : WX) : SW K cs W (t_one_step K n cs W) (frame 4 ds) (rts A) := qt_of (by simp (disch := with_unfolding_all
  obtain ⟨t, ok, nps, k, r, rfl, hk, hkk, hg, hd, hn, hE, hO⟩ := h
  unfold t_one_step
  have top : Tr.step t = Tr.top t → ∀ {G : Gam}, P_atTop [t.enc] (rE (fun x => rts A (.rt x)) fun e => rts A (.ex e G)) := fun e {G} =>
    ⟨t, ok, nps, k, r, rfl, hk, hkk, hg, fun z => hE (e.trans z), fun o z => hO o (e.trans z)⟩
  have kid : ∀ {x : Tr} {k' r' : Nat}, x.Tk → k' ≤ 4 → Tr.Gw ok nps k' r' x → x.depth < t.depth → ∀ A' : Rs → Prop, (Tr.step x = .error () → A' (.er xOther)) → (∀ o, Tr.step x = .ok o → A' (.ok (stepD o))) → P_oneStep n [x.enc] A' := fun {x k' r'} h1 h2 h3 h4 A' a b => by
    obtain ⟨m, rfl⟩ : ∃ m, n = m + 1 := ⟨n - 1, by omega⟩
    exact ⟨x, ok, nps, k', r', rfl, h1, h2, h3, by omega, by omega, a, b⟩
  cases t with
  | nm z =>
    walk_at "wi"
    refine in2 (by decide +kernel) (by decide +kernel) (fun e => absurd e (by decide)) fun _ => ?_
    walk_at "wi"
    refine cnd_nd (fun z => absurd rfl z) fun _ => ?_
    walk_at "s"
    exact top (Tr.top_nm ▸ rfl)
  | tm i x =>
    walk_at "wi"
    refine in2 (by decide +kernel) (by decide +kernel) (fun e => ?_) fun e => ?_
    · walk_at "wi"
      refine cnd_nd (fun _ => ?_) fun z => absurd z (by decide)
      refine sw_for (iw_rng2 (aw_cons (ew_var rfl (aw_cons (ew_len (aw_cons (ew_var rfl (aw_nil ⟨_, _, rfl, rfl, aw_nil ⟨2, 3, rfl, by decide, by decide, ?_⟩⟩))))))))
      show ForI K cs W _ _ _ _ [.int 2]
      refine for1 (gw_name (step_body (pre := [.str "times", .int i]) (post := []) (kid (x := x) hk.2 hkk hg (Nat.lt_succ_self _)) rfl rfl rfl (by simp) (fun z => hE ?_) (fun r y z => hO (some (r, .tm i y)) ?_) fun z => ?_))
      · show Tr.inK _ _ _ = _
        rw [z]; rfl
      · show Tr.inK _ _ _ = _
        rw [z]; rfl
      · walk_at "s"
        exact top (show Tr.inK _ _ _ = _ by rw [z]; rfl)
    · exact absurd e (by decide)
  | tn x =>
    walk_at "wi"
    refine in2 (by decide +kernel) (by decide +kernel) (fun e => ?_) fun e => ?_
    · exact absurd e (by decide)
    · walk_at "wi"
      refine cnd_nd (fun _ => ?_) fun z => absurd z (by decide)
      refine sw_for (iw_rng2 (aw_cons (ew_var rfl (aw_cons (ew_len (aw_cons (ew_var rfl (aw_nil ⟨_, _, rfl, rfl, aw_nil ⟨1, 2, rfl, by decide, by decide, ?_⟩⟩))))))))
      show ForI K cs W _ _ _ _ [.int 1]
      refine for1 (gw_name (step_body (pre := [.str "turn"]) (post := []) (kid (x := x) hk hkk hg (Nat.lt_succ_self _)) rfl rfl rfl (by simp) (fun z => hE ?_) (fun r y z => hO (some (r, .tn y)) ?_) fun z => ?_))
      · show Tr.inK _ _ _ = _
        rw [z]; rfl
      · show Tr.inK _ _ _ = _
        rw [z]; rfl
      · walk_at "s"
        exact top (show Tr.inK _ _ _ = _ by rw [z]; rfl)
  | cy m x =>
    obtain ⟨j, gl, st, r', j1, j2, M, h1, h2, h3, hx⟩ := hg
    walk_at "wi"
    refine in2 (by decide +kernel) (by decide +kernel) (fun e => ?_) fun e => ?_
    · walk_at "wi"
      refine cnd_nd (fun _ => ?_) fun z => absurd z (by decide)
      refine sw_for (iw_rng2 (aw_cons (ew_var rfl (aw_cons (ew_len (aw_cons (ew_var rfl (aw_nil ⟨_, _, rfl, rfl, aw_nil ⟨2, 3, rfl, by decide, by decide, ?_⟩⟩))))))))
      show ForI K cs W _ _ _ _ [.int 2]
      refine for1 (gw_name (step_body (pre := [.str "carry", mp m]) (post := []) (kid (x := x) hk.2 (by omega) hx (Nat.lt_succ_self _)) rfl rfl rfl (by simp) (fun z => hE ?_) (fun r y z => hO (some (r, .cy m y)) ?_) fun z => ?_))
      · show Tr.inK _ _ _ = _
        rw [z]; rfl
      · show Tr.inK _ _ _ = _
        rw [z]; rfl
      · walk_at "s"
        exact top (show Tr.inK _ _ _ = _ by rw [z]; rfl)
    · exact absurd e (by decide)
  | pr z x y =>
    have hz := Tr.pairs_ne hk.1
    walk_at "wi"
    refine in2 (Tr.word_shk (t := .pr z x y) hk) (by decide +kernel) (fun e => ?_) fun e => ?_
    · exact e.elim (fun e => absurd e hz.2.1) fun e => absurd e hz.2.2.1
    · walk_at "wi"
      refine cnd_nd (fun _ => ?_) fun e => absurd e hz.1
      refine sw_for (iw_rng2 (aw_cons (ew_var rfl (aw_cons (ew_len (aw_cons (ew_var rfl (aw_nil ⟨_, _, rfl, rfl, aw_nil ⟨1, 3, rfl, by decide, by decide, ?_⟩⟩))))))))
      show ForI K cs W _ _ _ _ [.int 1, .int 2]
      refine for2 (gw_name (step_body (pre := [.str z]) (post := [y.enc]) (kid (x := x) hk.2.1 hkk hg.2.1 (by show x.depth < max _ _ + 1; omega)) rfl rfl rfl (by simp) (fun e => hE ?_) (fun r u e => hO (some (r, .pr z u y)) ?_) fun ex => ?_))
      · show Tr.inK _ _ _ = _
        rw [e]; rfl
      · show Tr.inK _ _ _ = _
        rw [e]; rfl
      refine gw_name (step_body (pre := [.str z, x.enc]) (post := []) (kid (x := y) hk.2.2 hkk hg.2.2 (by show y.depth < max _ _ + 1; omega)) rfl rfl rfl (by simp) (fun e => hE ?_) (fun r u e => hO (some (r, .pr z x u)) ?_) fun e => ?_)
      · show Tr.inK _ _ (Tr.inK _ _ _) = _
        rw [ex, e]; rfl
      · show Tr.inK _ _ (Tr.inK _ _ _) = _
        rw [ex, e]; rfl
      · walk_at "s"
        exact top (show Tr.inK _ _ (Tr.inK _ _ _) = _ by rw [ex, e]; rfl)
  ) only [↓qt_eq])
end


end
section
/-! How a tree is written. -/
open PySem PyProof.Rows L2 Evl

noncomputable abbrev Jn : List (List Nat) → List Nat := TL.joinL [32]
theorem Jn_cons {p q : List Nat} {r : List (List Nat)} : Jn (p :: q :: r) = p ++ 32 :: Jn (q :: r) := rfl
theorem Jn_app : ∀ {xs : List (List Nat)} {b : List Nat}, xs ≠ [] → Jn (xs ++ [b]) = Jn xs ++ 32 :: b
  | [a], b, _ => rfl
  | a :: c :: r, b, _ => by
    have ih := Jn_app (xs := c :: r) (b := b) (by simp)
    show a ++ 32 :: Jn ((c :: r) ++ [b]) = (a ++ 32 :: Jn (c :: r)) ++ 32 :: b
    rw [ih]
    simp
theorem Jn_mid {a b : List Nat} {xs : List (List Nat)} (h : xs ≠ []) : Jn (a :: (xs ++ [b])) = Jn [a, Jn xs, b] := by
  cases xs with
  | nil => exact absurd rfl h
  | cons c r =>
    show Jn (a :: c :: (r ++ [b])) = _
    rw [Jn_cons, show c :: (r ++ [b]) = (c :: r) ++ [b] from rfl, Jn_app (by simp)]
    rfl
theorem Jn_len {n : Nat} : ∀ {xs : List (List Nat)}, (∀ x ∈ xs, x.length ≤ n) → (Jn xs).length ≤ xs.length * (n + 1)
  | [], _ => Nat.zero_le _
  | [a], h => by have := h a (by simp); show a.length ≤ 1 * (n + 1); omega
  | a :: c :: r, h => by
    have h1 := h a (by simp)
    have h2 := Jn_len (xs := c :: r) fun x hx => h x (List.mem_cons_of_mem _ hx)
    rw [Jn_cons, List.length_append, List.length_cons, List.length_cons (a := a), Nat.succ_mul]
    omega
noncomputable def rowL (row : List Fr) : List Nat := 40 :: (Jn (row.map partT) ++ [41])
noncomputable def wayL (m : List (List Fr)) : List Nat := Jn (m.map rowL)
noncomputable def Tr.txt : Tr → List Nat
  | .nm s => TL.tl s
  | .tm n t => 40 :: (Jn [TL.tl "times", intL n, Tr.txt t] ++ [41])
  | .tn t => 40 :: (Jn [TL.tl "turn", Tr.txt t] ++ [41])
  | .cy m t => 40 :: (Jn [TL.tl "carry", wayL m, Tr.txt t] ++ [41])
  | .pr w t u => 40 :: (Jn [TL.tl w, Tr.txt t, Tr.txt u] ++ [41])
theorem part_lenT {p : Fr} {n : Nat} (h : Gd n p) (hn : n ≤ 1000) : (partT p).length ≤ 1403 := qt_of (by simp (disch := with_unfolding_all
  have big : 2 ^ 1000 < 10 ^ 700 := by decide +kernel
  have b1 : p.1.natAbs < 10 ^ 700 := Nat.lt_trans (Nat.lt_of_lt_of_le (show p.1.natAbs < 2 ^ n from h.sz.1) (Nat.pow_le_pow_right (by decide) hn)) big
  have b2 : p.2.natAbs < 10 ^ 700 := Nat.lt_trans (Nat.lt_of_lt_of_le (show p.2.natAbs < 2 ^ n from h.sz.2) (Nat.pow_le_pow_right (by decide) hn)) big
  have l1 := intL_len b1
  have l2 := intL_len b2
  unfold partT
  split
  · omega
  · rw [List.length_append, List.length_cons]; omega
  ) only [↓qt_eq])
theorem row_lenT {b : Nat} {row : List Fr} (h : Gds b row) (hb : b ≤ 1000) (hl : row.length ≤ 3) : (rowL row).length ≤ 4214 := qt_of (by simp (disch := with_unfolding_all
  have := Jn_len (n := 1403) (xs := row.map partT) fun x hx => by
    obtain ⟨p, hp, rfl⟩ := List.mem_map.mp hx
    exact part_lenT (h p hp) hb
  rw [List.length_map] at this
  have : row.length * (1403 + 1) ≤ 3 * 1404 := Nat.mul_le_mul_right _ hl
  unfold rowL
  rw [List.length_cons, List.length_append, List.length_singleton]
  omega
  ) only [↓qt_eq])
theorem way_lenT {b gl st : Nat} {m : List (List Fr)} (M : Mp b gl st m) (hb : b ≤ 1000) (h1 : gl ≤ 2) (h2 : st ≤ 2) : (wayL m).length ≤ 8430 := qt_of (by simp (disch := with_unfolding_all
  have := Jn_len (n := 4214) (xs := m.map rowL) fun x hx => by
    obtain ⟨r, hr, rfl⟩ := List.mem_map.mp hx
    exact row_lenT (M.row r hr).2 hb (by rw [(M.row r hr).1]; omega)
  rw [List.length_map, M.len] at this
  have : gl * (4214 + 1) ≤ 2 * 4215 := Nat.mul_le_mul_right _ h1
  unfold wayL
  omega
  ) only [↓qt_eq])
/-- names are short -/
noncomputable def Tr.Nl : Tr → Prop
  | .nm s => (TL.tl s).length ≤ 1000
  | .tm _ t => Tr.Nl t
  | .tn t => Tr.Nl t
  | .cy _ t => Tr.Nl t
  | .pr _ t u => Tr.Nl t ∧ Tr.Nl u
theorem small_len {n : Int} (h : n.natAbs ≤ 4 ^ 24) : (intL n).length ≤ 701 := intL_len (Nat.lt_of_le_of_lt h (by decide +kernel))
theorem word_len {w : Str} (h : w ∈ Tr.pairs) : (TL.tl w).length ≤ 10 := by
  simp only [Tr.pairs, List.mem_cons, List.not_mem_nil, or_false] at h
  rcases h with rfl | rfl | rfl | rfl | rfl | rfl <;> (rw [TL.tl_ofString]; decide)
theorem txt_len : ∀ {t : Tr}, t.Tk → t.Nl → (Tr.txt t).length ≤ 9000 * t.sz
  | .nm s, _, h => by have h : (TL.tl s).length ≤ 1000 := h; show (TL.tl s).length ≤ 9000 * 1; omega
  | .tm n t, k, h => by
    have := txt_len k.2 h
    have := small_len k.1
    have w : (TL.tl "times").length = 5 := by rw [TL.tl_ofString]; rfl
    show (40 :: (TL.tl "times" ++ 32 :: (intL n ++ 32 :: Tr.txt t) ++ [41])).length ≤ 9000 * (t.sz + 1)
    simp only [List.length_cons, List.length_append, List.length_nil]
    omega
  | .tn t, k, h => by
    have := txt_len (t := t) k h
    have := t.sz_pos
    have w : (TL.tl "turn").length = 4 := by rw [TL.tl_ofString]; rfl
    show (40 :: (TL.tl "turn" ++ 32 :: Tr.txt t ++ [41])).length ≤ 9000 * (2 * t.sz)
    simp only [List.length_cons, List.length_append, List.length_nil]
    omega
  | .cy m t, k, h => by
    have := txt_len (t := t) k.2 h
    obtain ⟨⟨b, gl, st, hb, M, h1, h2⟩, _⟩ := k
    have := way_lenT M (by omega) (by omega) (by omega)
    have w : (TL.tl "carry").length = 5 := by rw [TL.tl_ofString]; rfl
    show (40 :: (TL.tl "carry" ++ 32 :: (wayL m ++ 32 :: Tr.txt t) ++ [41])).length ≤ 9000 * (2 * t.sz + 1)
    simp only [List.length_cons, List.length_append, List.length_nil]
    omega
  | .pr w t u, k, h => by
    have := txt_len k.2.1 h.1
    have := txt_len k.2.2 h.2
    have := word_len k.1
    show (40 :: (TL.tl w ++ 32 :: (Tr.txt t ++ 32 :: Tr.txt u) ++ [41])).length ≤ 9000 * (t.sz + u.sz + 2)
    simp only [List.length_cons, List.length_append, List.length_nil]
    omega


end
section
/-! Trees written: the defs. -/
open PySem PyProof.Rows L2 Evl

theorem tx_tl (z : Str) : tx (TL.tl z) = z := (tx_of z).symm
theorem tx_sp : (" " : Str) = tx [32] := TL.ext_tl (by rw [TL.tl_ofString] <;> rfl)
theorem tx_op : ("(" : Str) = tx [40] := TL.ext_tl (by rw [TL.tl_ofString] <;> rfl)
theorem tx_cl : (")" : Str) = tx [41] := TL.ext_tl (by rw [TL.tl_ofString] <;> rfl)
theorem join_tx (ys : List (List Nat)) : Txt.join " " (ys.map tx) = tx (Jn ys) := qt_of (by simp (disch := with_unfolding_all
  refine TL.ext_tl ?_
  rw [TL.join_eq, TL.tl_join, tx_sp, List.map_map]
  show TL.joinL [32] _ = Jn ys
  rw [show ys.map (TL.tl ∘ tx) = ys from (List.map_congr_left (g := id) fun x _ => rfl).trans (List.map_id _)]
  ) only [↓qt_eq])
section
variable {K : Fg} {cs : Cs} {gs : Gs} {φ : PyData → Prop} {A : Rs → Prop} {ε : Xw → Prop} {w : World}
theorem sum_len {n : Nat} : ∀ {ys : List (List Nat)}, (∀ y ∈ ys, y.length ≤ n) → ((ys.map tx).map (·.length)).sum ≤ ys.length * n
  | [], _ => Nat.zero_le _
  | y :: ys, h => by
    have h1 := h y (by simp)
    have h2 := sum_len fun y hy => h y (List.mem_cons_of_mem _ hy)
    rw [List.map_cons, List.map_cons, List.sum_cons, tx_len, List.length_cons, Nat.succ_mul]
    omega
/-- what joins: the parts known -/
theorem join_ok {n : Nat} {ys : List (List Nat)} (h : ∀ y ∈ ys, y.length ≤ n) (hn : ys.length * (n + 1) ≤ 16000000) : ((ys.map tx).map (·.length)).sum + (ys.map tx).length * (" " : Str).length ≤ 16777216 := by
  have := sum_len h
  rw [tx_sp, tx_len, List.length_map]
  have : ys.length * (n + 1) = ys.length * n + ys.length := Nat.mul_succ _ _
  simp only [List.length_cons, List.length_nil]
  omega
theorem strs_tx {β : Type} (f : β → List Nat) (xs : List β) : xs.map (fun x => PyData.str (tx (f x))) = ((xs.map f).map tx).map PyData.str := by rw [List.map_map, List.map_map]; rfl
theorem sz_ok {l : List Nat} (h : l.length ≤ 16000000) : (tx l).length ≤ sizeLine := by rw [tx_len]; exact Nat.le_trans h (by decide)
variable {W : WX} {G : Gam} {ts : List TE} {te : TE} {ω : Str → Prop} {acc : List Nat}
theorem jw_lit {z : Str} {l : List Nat} (e : z = tx l) (hl : (acc ++ l).length ≤ 16000000) (h : JW K cs W G ε ω ts (tx (acc ++ l))) : JW K cs W G ε ω (tC (V.str z) :: ts) (tx acc) := by
  refine jw_cons ?_
  walk_at "w"
  rw [e, tx_app]
  exact ⟨sz_ok hl, h⟩
theorem jw_txt (h : EW K cs W te G (fun x => ∃ l, x = .str (tx l) ∧ (acc ++ l).length ≤ 16000000 ∧ JW K cs W G ε ω ts (tx (acc ++ l))) ε) : JW K cs W G ε ω (tFmt te :: ts) (tx acc) := qt_of (by simp (disch := with_unfolding_all
  refine jw_cons (ew_fmt (ew_mono h fun x ⟨l, e, hl, p⟩ => .inl ⟨tx l, e, sz_ok (Nat.le_trans (by rw [List.length_append]; omega) hl), _, rfl, ?_, ?_⟩))
  · rw [tx_app]; exact sz_ok hl
  · rw [tx_app]; exact p
  ) only [↓qt_eq])
theorem jw_int (h : EW K cs W te G (fun x => ∃ i, x = .int i ∧ i.natAbs < 10 ^ 500 ∧ (acc ++ intL i).length ≤ 16000000 ∧ JW K cs W G ε ω ts (tx (acc ++ intL i))) ε) : JW K cs W G ε ω (tFmt te :: ts) (tx acc) := by
  refine jw_cons (ew_fmt (ew_mono h fun x ⟨i, e, hi, hl, p⟩ => .inr ⟨i, e, log_small hi, _, rfl, ?_, ?_⟩))
  · rw [str_int, tx_app]; exact sz_ok hl
  · rw [str_int, tx_app]; exact p
theorem jw_end {l : List Nat} (h : ω (tx l)) : JW K cs W G ε ω [] (tx l) := jw_nil h
theorem ew_jo (h : JW K cs W G ε (fun z => φ (.str z)) ts (tx [])) : EW K cs W (tJoined ts) G φ ε := ew_joined h
noncomputable def P_wayText : Pr := fun ds A => ∃ (m : List (List Fr)) (b gl st : Nat), ds = [mp m] ∧ Mp b gl st m ∧ b ≤ 1000 ∧ gl ≤ 2 ∧ st ≤ 2 ∧ A (.ok (.str (tx (wayL m))))
theorem ln_way_text : ∀ ds A, P_wayText ds A → ds.length = 1 := fun ds A h => by obtain ⟨_, _, _, _, rfl, _⟩ := h; rfl
theorem gd_small {p : Fr} {b : Nat} (g : Gd b p) (hb : b ≤ 1000) : p.1.natAbs < 10 ^ 500 ∧ p.2.natAbs < 10 ^ 500 := qt_of (by simp (disch := with_unfolding_all
  have big : 2 ^ 1000 < 10 ^ 500 := by decide +kernel
  exact ⟨Nat.lt_trans (Nat.lt_of_lt_of_le (show p.1.natAbs < 2 ^ b from g.sz.1) (Nat.pow_le_pow_right (by decide) hb)) big, Nat.lt_trans (Nat.lt_of_lt_of_le (show p.2.natAbs < 2 ^ b from g.sz.2) (Nat.pow_le_pow_right (by decide) hb)) big⟩
  ) only [↓qt_eq])
noncomputable def t_way_text (K : Fg) : TS := (tSeq (tAsg (tLc (iTup K (tVar 0)) (gName 2) tYes (tM1 (rJoin K) (tC (V.str " ")) (tLc (iTup K (tVar 2)) (gName 3) tYes (tCall (spW0 K P_partText) [] E0 (tCons (tVar 3) tNil)) [3])) [2]) (gName 1))
  (tRet (tM1 (rJoin K) (tC (V.str " ")) (tLc (iList K (tVar 1)) (gName 2) tYes (tJoined [(tC (V.str "(")), (tFmt (tVar 2)), (tC (V.str ")"))]) [2]))))
-- slots of way_text: 0 way, 1 rows, 2 row, 3 one
theorem rd_way_text {ds A} (h : P_wayText ds A) : SW K cs W0 (t_way_text K) (frame 4 ds) (rts0 A) := qt_of (by simp (disch := with_unfolding_all
  obtain ⟨m, b, gl, st, rfl, M, hb, h1, h2, h⟩ := h
  unfold t_way_text
  refine sw_seq ?_
  walk_at "s"
  have r0 : ∀ row ∈ m, (rowL row).length ≤ 4214 := fun row hr => row_lenT (M.row row hr).2 hb (by rw [(M.row row hr).1]; omega)
  refine lcM (f := frs) (fun row => .str (tx (Jn (row.map partT)))) (by rw [M.len]; omega) (unk1 rfl) (fun row hr => ?_) ⟨_, rfl, ?_⟩
  · refine gc_name (by simp) ?_
    have l := (M.row row hr).1
    have g := (M.row row hr).2
    refine ew_joinS ?_
    walk_at "w"
    refine lcM (f := fr) (fun p => .str (tx (partT p))) (by omega) (unk1 rfl) (fun p hp => ?_) ⟨_, rfl, (row.map partT).map tx, congrArg PyData.list (strs_tx partT row), join_ok (n := 1403) ?_ ?_, by rw [join_tx]⟩
    · refine gc_name (by simp) ?_
      walk_at "w"
      obtain ⟨q1, q2⟩ := gd_small (g p hp) hb
      exact ⟨p, rfl, q1, q2, rfl⟩
    · intro y hy
      obtain ⟨p, hp, rfl⟩ := List.mem_map.mp hy
      exact part_lenT (g p hp) hb
    · rw [List.length_map]
      have : row.length * (1403 + 1) ≤ 3 * 1404 := Nat.mul_le_mul_right _ (by omega)
      omega
  · walk_at "w"
    refine lcM (f := fun row : List Fr => PyData.str (tx (Jn (row.map partT)))) (fun row => .str (tx (rowL row))) (by rw [M.len]; omega) (unk1 rfl) (fun row hr => ?_) ⟨_, rfl, (m.map rowL).map tx, congrArg PyData.list (strs_tx rowL m), join_ok (n := 4214) ?_ ?_, by rw [join_tx]; exact h⟩
    · refine gc_name (by simp) ?_
      have r1 := r0 row hr
      unfold rowL at r1
      rw [List.length_cons, List.length_append, List.length_singleton] at r1
      refine ew_jo (jw_lit tx_op (by simp) (jw_txt (ew_var rfl ⟨_, rfl, by simp; omega, jw_lit tx_cl (by simp; omega) (jw_end rfl)⟩)))
    · intro y hy
      obtain ⟨p, hp, rfl⟩ := List.mem_map.mp hy
      exact r0 p hp
    · rw [List.length_map, M.len]
      have : gl * (4214 + 1) ≤ 2 * 4215 := Nat.mul_le_mul_right _ (by omega)
      omega
  ) only [↓qt_eq])
theorem tx_lit {z : Str} {l : List Nat} (h : TL.tl z = l) : z = tx l := (tx_of z).trans (congrArg tx h)
theorem kid_sz {t k : Tr} (h : k ∈ t.kids) : k.sz ≤ t.sz := qt_of (by simp (disch := with_unfolding_all
  cases t with
  | nm s => cases h
  | tm n x => rw [List.mem_singleton.mp h]; exact Nat.le_succ _
  | tn x => rw [List.mem_singleton.mp h]; exact Nat.le_mul_of_pos_left _ (by decide)
  | cy m x => rw [List.mem_singleton.mp h]; show x.sz ≤ 2 * x.sz + 1; omega
  | pr w x y =>
    rcases List.mem_cons.mp h with rfl | h
    · exact (by omega : k.sz ≤ k.sz + y.sz + 2)
    · rw [List.mem_singleton.mp h]; show y.sz ≤ x.sz + y.sz + 2; omega
  ) only [↓qt_eq])
noncomputable def P_write : Nat → Pr
  | 0 => fun _ _ => False
  | n + 1 => fun ds A => ∃ t : Tr, ds = [t.enc] ∧ t.Tk ∧ t.Nl ∧ t.sz ≤ 500 ∧ t.depth ≤ n ∧ n ≤ 25 ∧ A (.ok (.str (tx t.txt)))
noncomputable def t_write (K : Fg) (n : Nat) : TS := (tSeq (tAsg (tVar 0) (gStarE K (gCons (gName 2) (gCons (gName 3) gNil))))
  (tSeq (tIfS (tTest (tOp rEq (tVar 2) (tC (V.str "name")))) (tRet (tOp (rIx K) (tVar 3) (tC (V.int 0)))) tNext)
  (tSeq (tIfS (tTest (tOp rEq (tVar 2) (tC (V.str "times")))) (tRet (tJoined [(tC (V.str "(times ")), (tFmt (tOp (rIx K) (tVar 3) (tC (V.int 0)))), (tC (V.str " ")), (tFmt (tCall (spW0 K (P_write n)) [] E0 (tCons (tOp (rIx K) (tVar 3) (tC (V.int 1))) tNil))), (tC (V.str ")"))])) tNext)
  (tSeq (tIfS (tTest (tOp rEq (tVar 2) (tC (V.str "carry")))) (tRet (tJoined [(tC (V.str "(carry ")), (tFmt (tCall (spW0 K P_wayText) [] E0 (tCons (tOp (rIx K) (tVar 3) (tC (V.int 0))) tNil))), (tC (V.str " ")), (tFmt (tCall (spW0 K (P_write n)) [] E0 (tCons (tOp (rIx K) (tVar 3) (tC (V.int 1))) tNil))), (tC (V.str ")"))])) tNext)
  (tSeq (tAsg (tM1 (rJoin K) (tC (V.str " ")) (tLc (iList K (tVar 3)) (gName 4) tYes (tCall (spW0 K (P_write n)) [] E0 (tCons (tVar 4) tNil)) [4])) (gName 1))
  (tRet (tJoined [(tC (V.str "(")), (tFmt (tVar 2)), (tC (V.str " ")), (tFmt (tVar 1)), (tC (V.str ")"))])))))))
-- slots of write: 0 tree, 1 inner, 2 word, 3 rest, 4 one
theorem ln_write {n : Nat} : ∀ ds A, P_write (n + 1) ds A → ds.length = 1 := fun ds A h => by obtain ⟨t, rfl, _⟩ := h; rfl
theorem rd_write {n : Nat} {ds A} (h : P_write (n + 1) ds A) : SW K cs W0 (t_write K n) (frame 5 ds) (rts0 A) := qt_of (by simp (disch := with_unfolding_all
  obtain ⟨t, rfl, hk, hl, hs, hd, hn, h⟩ := h
  unfold t_write
  have L := txt_len hk hl
  have kid : ∀ {x : Tr}, x ∈ t.kids → x.Tk → x.Nl → ∀ {φ : PyData → Prop} {ε : Xw → Prop}, φ (.str (tx x.txt)) → P_write n [x.enc] (rE φ ε) := fun {x} hx h1 h2 φ ε p => by
    have := Tr.kid_depth hx
    have := kid_sz hx
    obtain ⟨m, rfl⟩ : ∃ m, n = m + 1 := ⟨n - 1, by omega⟩
    exact ⟨x, rfl, h1, h2, by omega, by omega, by omega, p⟩
  cases t with
  | nm z =>
    walk_at "w"
    refine gw_starE rfl (by simp) ?_
    walk_at "wi"
    refine cnd_yes rfl ?_
    walk_at "w"
    rw [show tx (Tr.txt (.nm z)) = z from (tx_of z).symm] at h
    exact h
  | tm i x =>
    walk_at "w"
    refine gw_starE rfl (by simp) ?_
    walk_at "wi"
    refine cnd_no (by decide) ?_
    walk_at "wi"
    refine cnd_yes rfl ?_
    have e : Tr.txt (.tm i x) = 40 :: (TL.tl "times" ++ 32 :: (intL i ++ 32 :: x.txt) ++ [41]) := rfl
    have w5 : (TL.tl "times").length = 5 := by rw [TL.tl_ofString]; rfl
    rw [e] at h L
    have hs : x.sz + 1 ≤ 500 := hs
    have L : _ ≤ 9000 * (x.sz + 1) := L
    simp only [List.length_append, List.length_cons, List.length_nil] at L
    refine sw_ret (ew_jo (jw_lit (l := 40 :: (TL.tl "times" ++ [32])) (tx_lit (by rw [TL.tl_ofString, TL.tl_ofString]; rfl)) (by simp only [List.length_append, List.length_cons, List.length_nil]; omega) (jw_int ?_)))
    walk_at "w"
    refine ⟨Nat.lt_of_le_of_lt hk.1 (by decide +kernel), by simp only [List.length_append, List.length_cons, List.length_nil]; omega, jw_lit tx_sp (by simp only [List.length_append, List.length_cons, List.length_nil]; omega) (jw_txt ?_)⟩
    walk_at "w"
    refine kid (x := x) (List.mem_singleton.mpr rfl) hk.2 hl ⟨_, rfl, by simp only [List.length_append, List.length_cons, List.length_nil]; omega, jw_lit tx_cl (by simp only [List.length_append, List.length_cons, List.length_nil]; omega) (jw_end ?_)⟩
    refine (congrArg (fun l => A (.ok (.str (tx l)))) ?_).mp h
    simp
  | tn x =>
    walk_at "w"
    refine gw_starE rfl (by simp) ?_
    walk_at "wi"
    refine cnd_no (by decide) ?_
    walk_at "wi"
    refine cnd_no (by decide) ?_
    walk_at "wi"
    refine cnd_no (by decide) ?_
    have e : Tr.txt (.tn x) = 40 :: (TL.tl "turn" ++ 32 :: x.txt ++ [41]) := rfl
    have w4 : (TL.tl "turn").length = 4 := by rw [TL.tl_ofString]; rfl
    rw [e] at h L
    have hs : 2 * x.sz ≤ 500 := hs
    have L : _ ≤ 9000 * (2 * x.sz) := L
    simp only [List.length_append, List.length_cons, List.length_nil] at L
    walk_at "s"
    refine sw_seq ?_
    walk_at "s"
    refine lcM (f := Tr.enc) (xs := [x]) (fun y => .str (tx y.txt)) (by simp) (unk1 rfl) (fun y hy => ?_) ⟨_, rfl, [x.txt].map tx, rfl, join_ok (n := 9000000) ?_ (by simp), ?_⟩
    · obtain rfl := List.mem_singleton.mp hy
      refine gc_name (by simp) ?_
      walk_at "w"
      exact kid (x := y) (List.mem_singleton.mpr rfl) hk hl rfl
    · intro y hy
      obtain rfl := List.mem_singleton.mp hy
      omega
    rw [join_tx]
    refine sw_ret (ew_jo (jw_lit tx_op (by simp) (jw_txt (ew_var rfl ⟨TL.tl "turn", congrArg PyData.str (tx_of _), by simp only [List.length_append, List.length_cons, List.length_nil]; omega, jw_lit tx_sp (by simp only [List.length_append, List.length_cons, List.length_nil]; omega) (jw_txt (ew_var rfl ⟨_, rfl, ?_, jw_lit tx_cl ?_ (jw_end ?_)⟩))⟩))))
    · show (_ ++ x.txt).length ≤ _; simp only [List.length_append, List.length_cons, List.length_nil]; omega
    · show ((_ ++ x.txt) ++ _).length ≤ _; simp only [List.length_append, List.length_cons, List.length_nil]; omega
    refine (congrArg (fun l => A (.ok (.str (tx l)))) ?_).mp h
    show _ = ((_ ++ x.txt) ++ _)
    simp
  | cy m x =>
    obtain ⟨⟨b, gl, st, hb, M, h1, h2⟩, hx⟩ := hk
    walk_at "w"
    refine gw_starE rfl (by simp) ?_
    walk_at "wi"
    refine cnd_no (by decide) ?_
    walk_at "wi"
    refine cnd_no (by decide) ?_
    walk_at "wi"
    refine cnd_yes rfl ?_
    have e : Tr.txt (.cy m x) = 40 :: (TL.tl "carry" ++ 32 :: (wayL m ++ 32 :: x.txt) ++ [41]) := rfl
    have w5 : (TL.tl "carry").length = 5 := by rw [TL.tl_ofString]; rfl
    rw [e] at h L
    have hs : 2 * x.sz + 1 ≤ 500 := hs
    have L : _ ≤ 9000 * (2 * x.sz + 1) := L
    simp only [List.length_append, List.length_cons, List.length_nil] at L
    refine sw_ret (ew_jo (jw_lit (l := 40 :: (TL.tl "carry" ++ [32])) (tx_lit (by rw [TL.tl_ofString, TL.tl_ofString]; rfl)) (by simp only [List.length_append, List.length_cons, List.length_nil]; omega) (jw_txt ?_)))
    walk_at "w"
    refine ⟨m, b, gl, st, rfl, M, by omega, by omega, by omega, _, rfl, by simp only [List.length_append, List.length_cons, List.length_nil]; omega, jw_lit tx_sp (by simp only [List.length_append, List.length_cons, List.length_nil]; omega) (jw_txt ?_)⟩
    walk_at "w"
    refine kid (x := x) (List.mem_singleton.mpr rfl) hx hl ⟨_, rfl, by simp only [List.length_append, List.length_cons, List.length_nil]; omega, jw_lit tx_cl (by simp only [List.length_append, List.length_cons, List.length_nil]; omega) (jw_end ?_)⟩
    refine (congrArg (fun l => A (.ok (.str (tx l)))) ?_).mp h
    simp
  | pr z x y =>
    have hz := Tr.pairs_ne hk.1
    walk_at "w"
    refine gw_starE rfl (by simp) ?_
    walk_at "wi"
    refine cnd_no hz.1 ?_
    walk_at "wi"
    refine cnd_no hz.2.1 ?_
    walk_at "wi"
    refine cnd_no hz.2.2.1 ?_
    have e : Tr.txt (.pr z x y) = 40 :: (TL.tl z ++ 32 :: (x.txt ++ 32 :: y.txt) ++ [41]) := rfl
    have w4 := word_len hk.1
    rw [e] at h L
    have hs : x.sz + y.sz + 2 ≤ 500 := hs
    have L : _ ≤ 9000 * (x.sz + y.sz + 2) := L
    simp only [List.length_append, List.length_cons, List.length_nil] at L
    walk_at "s"
    refine sw_seq ?_
    walk_at "s"
    refine lcM (f := Tr.enc) (xs := [x, y]) (fun y => .str (tx y.txt)) (by simp) (unk1 rfl) (fun u hu => ?_) ⟨_, rfl, [x.txt, y.txt].map tx, rfl, join_ok (n := 7000000) ?_ (by simp), ?_⟩
    · refine gc_name (by simp) ?_
      walk_at "w"
      refine kid (x := u) hu ?_ ?_ rfl
      · rcases List.mem_cons.mp hu with rfl | hu
        · exact hk.2.1
        · rw [List.mem_singleton.mp hu]; exact hk.2.2
      · rcases List.mem_cons.mp hu with rfl | hu
        · exact hl.1
        · rw [List.mem_singleton.mp hu]; exact hl.2
    · intro u hu
      have L1 := txt_len hk.2.1 hl.1
      have L2 := txt_len hk.2.2 hl.2
      rcases List.mem_cons.mp hu with rfl | hu
      · omega
      · rw [List.mem_singleton.mp hu]; omega
    rw [join_tx]
    refine sw_ret (ew_jo (jw_lit tx_op (by simp) (jw_txt (ew_var rfl ⟨TL.tl z, congrArg PyData.str (tx_of _), by simp only [List.length_append, List.length_cons, List.length_nil]; omega, jw_lit tx_sp (by simp only [List.length_append, List.length_cons, List.length_nil]; omega) (jw_txt (ew_var rfl ⟨_, rfl, ?_, jw_lit tx_cl ?_ (jw_end ?_)⟩))⟩))))
    · show (_ ++ (x.txt ++ 32 :: y.txt)).length ≤ _; simp only [List.length_append, List.length_cons, List.length_nil]; omega
    · show ((_ ++ (x.txt ++ 32 :: y.txt)) ++ _).length ≤ _; simp only [List.length_append, List.length_cons, List.length_nil]; omega
    refine (congrArg (fun l => A (.ok (.str (tx l)))) ?_).mp h
    show _ = ((_ ++ (x.txt ++ 32 :: y.txt)) ++ _)
    simp
  ) only [↓qt_eq])
end


end
section
/-! Trees written by the law. -/
open PySem PyProof.Rows L2 Evl

section
variable {K : Fg} {cs : Cs} {gs : Gs} {φ : PyData → Prop} {A : Rs → Prop} {ε : Xw → Prop} {w : World}
noncomputable def P_lpartText : Pr := fun ds A => ∃ p : Fr, ds = [fr p] ∧ p.1.natAbs < 10 ^ 500 ∧ p.2.natAbs < 10 ^ 500 ∧ A (.ok (.str (tx (partT p))))
noncomputable def t__law_part_text (K : Fg) : TS := (tRet (tIf (tTest (tOp rEq (tOp (rIx K) (tVar 0) (tC (V.int 1))) (tC (V.int 1)))) (tCB rStrI (tCons (tOp (rIx K) (tVar 0) (tC (V.int 0))) tNil)) (tOp rAddStr (tOp rAddStr (tCB rStrI (tCons (tOp (rIx K) (tVar 0) (tC (V.int 0))) tNil)) (tC (V.str "/"))) (tCB rStrI (tCons (tOp (rIx K) (tVar 0) (tC (V.int 1))) tNil)))))
-- slots of _law_part_text: 0 _law_one
theorem ln__law_part_text : ∀ ds A, P_lpartText ds A → ds.length = 1 := fun ds A h => by obtain ⟨_, rfl, _⟩ := h; rfl
theorem rd__law_part_text {ds A} (h : P_lpartText ds A) : SW K cs W0 (t__law_part_text K) (frame 1 ds) (rts0 A) := qt_of (by simp (disch := with_unfolding_all
  obtain ⟨p, rfl, h1, h2, q⟩ := h
  have l1 := intL_len (Nat.lt_trans h1 (Nat.pow_lt_pow_right (by decide) (show 500 < 700 by decide)))
  have l2 := intL_len (Nat.lt_trans h2 (Nat.pow_lt_pow_right (by decide) (show 500 < 700 by decide)))
  unfold partT at q
  unfold t__law_part_text
  walk_at "w"
  refine cnd_d (fun e => ?_) (fun e => ?_)
  · rw [if_pos e] at q
    walk_at "w"
    refine ⟨log_small h1, ?_⟩
    rw [str_int]
    exact q
  · rw [if_neg e] at q
    have sz : ∀ {a b : Str} {l m : List Nat}, a = tx l → b = tx m → l.length + m.length ≤ 5000 → a.length + b.length ≤ sizeLine := fun {a b l m} ea eb h => by
      rw [ea, eb, tx_len, tx_len]
      exact Nat.le_trans h (by decide)
    walk_at "w"
    refine ⟨log_small h1, _, rfl, ?_⟩
    walk_at "w"
    refine ⟨sz (str_int _) tx_stroke (by simp only [List.length_cons, List.length_nil]; omega), _, rfl, ?_⟩
    walk_at "w"
    refine ⟨log_small h2, _, rfl, sz (by rw [str_int, tx_stroke, tx_app]) (str_int _) (by simp only [List.length_append, List.length_cons, List.length_nil]; omega), ?_⟩
    rw [str_int, str_int, tx_stroke, tx_app, tx_app, List.append_assoc]
    exact q
  ) only [↓qt_eq])
noncomputable def P_ltext : Nat → Pr
  | 0 => fun _ _ => False
  | n + 1 => fun ds A => ∃ t : Tr, ds = [t.enc] ∧ t.Tk ∧ t.Nl ∧ t.sz ≤ 300 ∧ t.depth ≤ n ∧ n ≤ 25 ∧ A (.ok (.str (tx t.txt)))
theorem k_two {t : Tr} (h : t.Tk) (e : t.word = "times" ∨ t.word = "carry") : t.kids.map Tr.enc = t.rest.drop 1 := qt_of (by simp (disch := with_unfolding_all
  cases t with
  | tm n t => rfl
  | cy m t => rfl
  | pr w t u => exact absurd e (by have := Tr.pairs_ne h.1; exact fun z => z.elim this.2.1 this.2.2.1)
  | nm s => exact absurd (show ("name" : Str) = "times" ∨ ("name" : Str) = "carry" from e) (by decide)
  | tn t => exact absurd (show ("turn" : Str) = "times" ∨ ("turn" : Str) = "carry" from e) (by decide)
  ) only [↓qt_eq])
theorem k_rest {t : Tr} (e1 : t.word ≠ "name") (e2 : ¬ (t.word = "times" ∨ t.word = "carry")) : t.kids.map Tr.enc = t.rest := by
  cases t with
  | tn t => rfl
  | pr w t u => rfl
  | nm s => exact absurd rfl e1
  | tm n t => exact absurd (.inl rfl) e2
  | cy m t => exact absurd (.inr rfl) e2
noncomputable def P_linnerK : Pr := fun ds A => ∃ t : Tr, ds = [t.enc] ∧ t.Tk ∧ A (.ok (.list (t.kids.map Tr.enc)))
noncomputable def t_linnerK (K : Fg) : TS := (tSeq (tIfS (tTest (tOp rEq (tOp (rIx K) (tVar 0) (tC (V.int 0))) (tC (V.str "name")))) (tRet (tLst tNil)) tNext)
  (tRet (tIf (tTest (tOp (rInS K false) (tOp (rIx K) (tVar 0) (tC (V.int 0))) (tLst (tCons (tC (V.str "times")) (tCons (tC (V.str "carry")) tNil))))) (tCB (rListQ K) (tCons (tSl (rSlA K) (tVar 0) (tPart (tC (V.int 2))) tNoPart) tNil)) (tCB (rListQ K) (tCons (tSl (rSlA K) (tVar 0) (tPart (tC (V.int 1))) tNoPart) tNil)))))
-- slots of linnerK: 0 _law_tree
theorem ln_linnerK : ∀ ds A, P_linnerK ds A → ds.length = 1 := fun ds A h => by obtain ⟨t, rfl, _⟩ := h; rfl
theorem rd_linnerK {ds A} (h : P_linnerK ds A) : SW K cs W0 (t_linnerK K) (frame 1 ds) (rts0 A) := qt_of (by simp (disch := with_unfolding_all
  obtain ⟨t, rfl, hw, h⟩ := h
  unfold t_linnerK
  rw [t.enc_eq]
  walk_at "wi"
  refine cnd_d (fun e => ?_) fun e => ?_
  · obtain ⟨s, rfl⟩ := Tr.k_name hw e
    walk_at "w"
    exact h
  · walk_at "w"
    refine in2 (Tr.word_shk hw) (by decide +kernel) (fun e2 => ?_) fun e2 => ?_
    · walk_at "w"
      rw [k_two hw e2] at h
      rw [show (2 : Int) = ((2 : Nat) : Int) from rfl, cutD_from]
      exact h
    · walk_at "w"
      rw [k_rest e e2] at h
      rw [show (1 : Int) = ((1 : Nat) : Int) from rfl, cutD_from]
      exact h
  ) only [↓qt_eq])
end


end
section
/-! Trees written by the law, the last part. -/
open PySem PyProof.Rows L2 Evl

noncomputable def headL : Tr → List (List Nat)
  | .nm s => [TL.tl s]
  | .tm n _ => [TL.tl "times", intL n]
  | .tn _ => [TL.tl "turn"]
  | .cy m _ => TL.tl "carry" :: m.map rowL
  | .pr w _ _ => [TL.tl w]
theorem txt_head {t : Tr} (h : t.Tk) (e : t.word ≠ "name") : t.txt = 40 :: (Jn (headL t ++ t.kids.map Tr.txt) ++ [41]) := qt_of (by simp (disch := with_unfolding_all
  cases t with
  | nm s => exact absurd rfl e
  | tm n x => rfl
  | tn x => rfl
  | pr w x y => rfl
  | cy m x =>
    obtain ⟨⟨b, gl, st, hb, M, h1, h2⟩, _⟩ := h
    have ne : m.map rowL ≠ [] := by
      intro z
      have := congrArg List.length z
      rw [List.length_map, M.len] at this
      simp at this
      omega
    show _ = 40 :: (Jn (TL.tl "carry" :: (m.map rowL ++ [x.txt])) ++ [41])
    rw [Jn_mid ne]
    rfl
  ) only [↓qt_eq])
theorem head_len {t : Tr} (h : t.Tk) : (headL t).length ≤ 3 ∧ ∀ l ∈ headL t, l.length ≤ 4214 ∨ t.word = "name" := qt_of (by simp (disch := with_unfolding_all
  cases t with
  | nm s => exact ⟨by simp [headL], fun l _ => .inr rfl⟩
  | tm n x => exact ⟨by simp [headL], fun l hl => .inl (by
      have w : (TL.tl "times").length = 5 := by rw [TL.tl_ofString]; rfl
      have := small_len h.1
      simp only [headL, List.mem_cons, List.not_mem_nil, or_false] at hl
      rcases hl with rfl | rfl <;> omega)⟩
  | tn x => exact ⟨by simp [headL], fun l hl => .inl (by
      have w : (TL.tl "turn").length = 4 := by rw [TL.tl_ofString]; rfl
      rw [List.mem_singleton.mp hl]; omega)⟩
  | pr w x y => exact ⟨by simp [headL], fun l hl => .inl (by
      have := word_len h.1
      rw [List.mem_singleton.mp hl]; omega)⟩
  | cy m x =>
    obtain ⟨⟨b, gl, st, hb, M, h1, h2⟩, _⟩ := h
    refine ⟨by show (TL.tl "carry" :: m.map rowL).length ≤ 3; rw [List.length_cons, List.length_map, M.len]; omega, fun l hl => .inl ?_⟩
    have w : (TL.tl "carry").length = 5 := by rw [TL.tl_ofString]; rfl
    rcases List.mem_cons.mp hl with rfl | hl
    · omega
    · obtain ⟨r, hr, rfl⟩ := List.mem_map.mp hl
      exact row_lenT (M.row r hr).2 (by omega) (by rw [(M.row r hr).1]; omega)
  ) only [↓qt_eq])
noncomputable def head1 (t : Tr) : List (List Nat) := match t with
  | .tm n _ => [TL.tl "times", intL n]
  | t => [TL.tl t.word]
noncomputable abbrev GL (t : Tr) (hd : List (List Nat)) : Gam := [.d (.tuple (.str t.word :: t.rest)), .ow (ol (hd.map fun l => .str (tx l))), .un, .un, .un]
theorem head1_ne {t : Tr} (e : t.word ≠ "times") : head1 t = [TL.tl t.word] := by cases t <;> first | rfl | exact absurd rfl e
section
variable {K : Fg} {cs : Cs} {gs : Gs} {φ : PyData → Prop} {A : Rs → Prop} {ε : Xw → Prop} {w : World}
noncomputable def t__law_text (K : Fg) (n : Nat) : TS := (tSeq (tIfS (tTest (tOp rEq (tOp (rIx K) (tVar 0) (tC (V.int 0))) (tC (V.str "name")))) (tRet (tOp (rIx K) (tVar 0) (tC (V.int 1)))) tNext)
  (tSeq (tAsg (tLst (tCons (tOp (rIx K) (tVar 0) (tC (V.int 0))) tNil)) (gName 1))
  (tSeq (tIfS (tTest (tOp rEq (tOp (rIx K) (tVar 0) (tC (V.int 0))) (tC (V.str "times")))) (tDrop (tBM K "list" rAppend (tVar 1) (tCons (tCB rStrI (tCons (tOp (rIx K) (tVar 0) (tC (V.int 1))) tNil)) tNil))) tNext)
  (tSeq (tIfS (tTest (tOp rEq (tOp (rIx K) (tVar 0) (tC (V.int 0))) (tC (V.str "carry")))) (tDrop (tBM K "list" rExtend (tVar 1) (tCons (tLc (iTup K (tOp (rIx K) (tVar 0) (tC (V.int 1)))) (gName 2) tYes (tOp rAddStr (tOp rAddStr (tC (V.str "(")) (tM1 (rJoin K) (tC (V.str " ")) (tLc (iTup K (tVar 2)) (gName 4) tYes (tCall (spW0 K P_lpartText) [] E0 (tCons (tVar 4) tNil)) [4]))) (tC (V.str ")"))) [2]) tNil))) tNext)
  (tRet (tOp rAddStr (tOp rAddStr (tC (V.str "(")) (tM1 (rJoin K) (tC (V.str " ")) (tOp (rCatL K) (tVar 1) (tLc (iList K (tCall (spW0 K P_linnerK) [] E0 (tCons (tVar 0) tNil))) (gName 3) tYes (tCall (spW0 K (P_ltext n)) [] E0 (tCons (tVar 3) tNil)) [3])))) (tC (V.str ")"))))))))
-- slots of _law_text: 0 _law_tree, 1 _law_words, 2 _law_row, 3 _law_inner_here, 4 _law_one
theorem ln__law_text {n : Nat} : ∀ ds A, P_ltext (n + 1) ds A → ds.length = 1 := fun ds A h => by obtain ⟨t, rfl, _⟩ := h; rfl
theorem rd__law_text {n : Nat} {ds A} (h : P_ltext (n + 1) ds A) : SW K cs W0 (t__law_text K n) (frame 5 ds) (rts0 A) := qt_of (by simp (disch := with_unfolding_all
  obtain ⟨t, rfl, hk, hl, hs, hd, hn, h⟩ := h
  unfold t__law_text
  have L := txt_len hk hl
  have kid : ∀ {x : Tr}, x ∈ t.kids → x.Tk → x.Nl → ∀ {φ : PyData → Prop} {ε : Xw → Prop}, φ (.str (tx x.txt)) → P_ltext n [x.enc] (rE φ ε) := fun {x} hx h1 h2 φ ε p => by
    have := Tr.kid_depth hx
    have := kid_sz hx
    obtain ⟨m, rfl⟩ : ∃ m, n = m + 1 := ⟨n - 1, by omega⟩
    exact ⟨x, rfl, h1, h2, by omega, by omega, by omega, p⟩
  rw [t.enc_eq]
  walk_at "wi"
  refine cnd_d (fun e => ?_) fun e => ?_
  · obtain ⟨z, rfl⟩ := Tr.k_name hk e
    walk_at "w"
    rw [show tx (Tr.txt (.nm z)) = z from (tx_of z).symm] at h
    exact h
  walk_at "s"
  refine sw_seq (sw_asgF (ef_lst1 ?_))
  walk_at "w"
  have e0 : ([PyData.str t.word] : List PyData) = [TL.tl t.word].map fun l => PyData.str (tx l) := by rw [List.map_cons, tx_tl]; rfl
  rw [e0]
  refine sw_cut (fun G => G = GL t (head1 t)) ?_ ?_
  · walk_at "wi"
    refine cnd_d (fun e1 => ?_) fun e1 => ?_
    · obtain ⟨i, x, rfl⟩ := Tr.k_times hk e1
      refine sw_app (i := 1) rfl (by simp) ?_
      walk_at "w"
      refine ⟨log_small (Nat.lt_of_le_of_lt hk.1 (by decide +kernel)), ?_⟩
      rw [str_int]
      exact x_nx rfl
    · walk_at "w"
      rw [head1_ne e1]
      rfl
  rintro _ rfl
  refine sw_cut (fun G => G = GL t (headL t)) ?_ ?_
  · walk_at "wi"
    refine cnd_d (fun e1 => ?_) fun e1 => ?_
    · obtain ⟨m, x, rfl⟩ := Tr.k_carry hk e1
      obtain ⟨⟨b, gl, st, hb, M, h1, h2⟩, _⟩ := hk
      refine sw_ext (i := 1) rfl (ef_lc ?_)
      walk_at "w"
      refine lcM (f := frs) (fun row => .str (tx (rowL row))) (by rw [M.len]; omega) (unk1 rfl) (fun row hr => ?_) ⟨_, rfl, ?_, ?_⟩
      · refine gc_name (by simp) ?_
        have l := (M.row row hr).1
        have g := (M.row row hr).2
        have r1 := row_lenT g (by omega) (by omega)
        unfold rowL at r1
        rw [List.length_cons, List.length_append, List.length_singleton] at r1
        walk_at "w"
        refine lcM (f := fr) (fun p => .str (tx (partT p))) (by omega) (unk1 rfl) (fun p hp => ?_) ⟨_, rfl, (row.map partT).map tx, congrArg PyData.list (strs_tx partT row), join_ok (n := 1403) ?_ ?_, ?_⟩
        · refine gc_name (by simp) ?_
          walk_at "w"
          obtain ⟨q1, q2⟩ := gd_small (g p hp) (by omega)
          exact ⟨p, rfl, q1, q2, rfl⟩
        · intro y hy
          obtain ⟨p, hp, rfl⟩ := List.mem_map.mp hy
          exact part_lenT (g p hp) (by omega)
        · rw [List.length_map]
          have : row.length * (1403 + 1) ≤ 3 * 1404 := Nat.mul_le_mul_right _ (by omega)
          omega
        rw [join_tx, tx_op, tx_cl]
        refine ⟨_, rfl, ?_, _, rfl, ?_⟩
        · rw [tx_len, tx_len]; exact Nat.le_trans (show [40].length + (Jn (row.map partT)).length ≤ 5000 by simp only [List.length_cons, List.length_nil]; omega) (by decide)
        walk_at "w"
        rw [tx_app]
        refine ⟨?_, ?_⟩
        · rw [tx_len, tx_len]; exact Nat.le_trans (show ([40] ++ Jn (row.map partT)).length + [41].length ≤ 5000 by simp only [List.length_append, List.length_cons, List.length_nil]; omega) (by decide)
        rw [tx_app]
        rfl
      · show (1 + _ : Nat) ≤ _
        rw [List.length_map, M.len]; omega
      · refine x_nx ?_
        show _ = [_, En.ow (ol (_ :: (m.map rowL).map fun l => PyData.str (tx l))), _, _, _]
        rw [List.map_map]
        rfl
    · walk_at "w"
      cases t <;> first | rfl | exact absurd rfl e | exact absurd rfl e1
  rintro _ rfl
  refine sw_freeze (i := 1) rfl ?_
  walk_at "w"
  have k2 : t.kids.length ≤ 2 := by cases t <;> first | exact Nat.le_refl 2 | exact Nat.le_succ 1 | exact Nat.zero_le 2
  obtain ⟨c1, c2⟩ := head_len hk
  have kt : ∀ {u : Tr}, u ∈ t.kids → u.Tk ∧ u.Nl := fun {u} hu => by
    cases t with
    | nm z => cases hu
    | tm i x => rw [List.mem_singleton.mp hu]; exact ⟨hk.2, hl⟩
    | tn x => rw [List.mem_singleton.mp hu]; exact ⟨hk, hl⟩
    | cy m x => rw [List.mem_singleton.mp hu]; exact ⟨hk.2, hl⟩
    | pr z x y =>
      rcases List.mem_cons.mp hu with rfl | hu
      · exact ⟨hk.2.1, hl.1⟩
      · rw [List.mem_singleton.mp hu]; exact ⟨hk.2.2, hl.2⟩
  have lt := txt_head hk e
  have el : (headL t).map (fun l => PyData.str (tx l)) ++ t.kids.map (fun u => PyData.str (tx u.txt)) = ((headL t ++ t.kids.map Tr.txt).map tx).map PyData.str := by
    rw [List.map_append, List.map_append, List.map_map, List.map_map, List.map_map]
    rfl
  refine ⟨t, by rw [t.enc_eq], hk, _, rfl, ?_⟩
  refine lcM (f := Tr.enc) (fun u => .str (tx u.txt)) (by omega) (unk1 rfl) (fun u hu => ?_) ⟨_, rfl, _, rfl, ?_, _, congrArg PyData.list el, join_ok (n := 2700000) ?_ ?_, ?_⟩
  · refine gc_name (by simp) ?_
    walk_at "w"
    exact kid hu (kt hu).1 (kt hu).2 rfl
  · rw [List.length_map, List.length_map]; omega
  · intro l hml
    rcases List.mem_append.mp hml with hml | hml
    · rcases c2 l hml with z | z
      · omega
      · exact absurd z e
    · obtain ⟨u, hu, rfl⟩ := List.mem_map.mp hml
      have := txt_len (kt hu).1 (kt hu).2
      have := kid_sz hu
      omega
  · rw [List.length_append, List.length_map]
    have : ((headL t).length + t.kids.length) * (2700000 + 1) ≤ 5 * 2700001 := Nat.mul_le_mul_right _ (by omega)
    omega
  rw [join_tx, tx_op, tx_cl]
  rw [lt] at h L
  simp only [List.length_append, List.length_cons, List.length_nil] at L
  refine ⟨_, rfl, ?_, _, rfl, ?_⟩
  · rw [tx_len, tx_len]; exact Nat.le_trans (show [40].length + (Jn (headL t ++ t.kids.map Tr.txt)).length ≤ 5000000 by simp only [List.length_cons, List.length_nil]; omega) (by decide)
  walk_at "w"
  rw [tx_app]
  refine ⟨?_, ?_⟩
  · rw [tx_len, tx_len]; exact Nat.le_trans (show ([40] ++ Jn (headL t ++ t.kids.map Tr.txt)).length + [41].length ≤ 5000000 by simp only [List.length_append, List.length_cons, List.length_nil]; omega) (by decide)
  rw [tx_app]
  exact h
  ) only [↓qt_eq])
end


end
section
/-! The law's own rules. -/
open PySem PyProof.Rows L2 Evl

section
variable {K : Fg} {cs : Cs} {gs : Gs} {φ : PyData → Prop} {A : Rs → Prop} {ε : Xw → Prop} {w : World}
/-- what the first rule that fits makes of a turned tree -/
noncomputable def topTn : Tr → Option (Str × Tr)
  | .tn y => some ("twice", y)
  | .cy m y => some ("turncarry", .cy m (.tn y))
  | .tm n y => some ("turntimes", .tm n (.tn y))
  | .pr z x y => if Tr.Free z then some ("turnpair", .pr z (.tn x) (.tn y)) else none
  | .nm _ => none
theorem top_tn (x : Tr) : Tr.top (.tn x) = .ok (topTn x) := qt_of (by simp (disch := with_unfolding_all
  unfold Tr.top Tr.ruleL
  cases x with
  | pr z x y =>
    simp only [first_cons, Tr.Clash, and_false, if_false, Tr.rTwice, Tr.rOnce, Tr.rProduct, Tr.rStill, Tr.rOnward, Tr.rTurncarry, Tr.rTurntimes, Tr.rCarrytimes, Tr.rTurnpair, Tr.rCarrypair, Tr.rLeft, Tr.rRight, topTn]
    by_cases e : Tr.Free z
    · rw [if_pos e, if_pos e]
    · rw [if_neg e, if_neg e]; rfl
  | _ => rfl
  ) only [↓qt_eq])
noncomputable def P_lturn : Pr := fun ds A => ∃ x : Tr, ds = [(Tr.tn x).enc] ∧ x.Tk ∧ A (.ok (stepD (topTn x)))
noncomputable def t__law_rule_turn (K : Fg) : TS := (tSeq (tAsg (tOp (rIx K) (tVar 0) (tC (V.int 1))) (gName 1))
  (tSeq (tIfS (tTest (tOp rEq (tOp (rIx K) (tVar 1) (tC (V.int 0))) (tC (V.str "turn")))) (tRet (tTup (tCons (tC (V.str "twice")) (tCons (tOp (rIx K) (tVar 1) (tC (V.int 1))) tNil)))) tNext)
  (tSeq (tIfS (tTest (tOp rEq (tOp (rIx K) (tVar 1) (tC (V.int 0))) (tC (V.str "carry")))) (tRet (tTup (tCons (tC (V.str "turncarry")) (tCons (tTup (tCons (tC (V.str "carry")) (tCons (tOp (rIx K) (tVar 1) (tC (V.int 1))) (tCons (tTup (tCons (tC (V.str "turn")) (tCons (tOp (rIx K) (tVar 1) (tC (V.int 2))) tNil))) tNil)))) tNil)))) tNext)
  (tSeq (tIfS (tTest (tOp rEq (tOp (rIx K) (tVar 1) (tC (V.int 0))) (tC (V.str "times")))) (tRet (tTup (tCons (tC (V.str "turntimes")) (tCons (tTup (tCons (tC (V.str "times")) (tCons (tOp (rIx K) (tVar 1) (tC (V.int 1))) (tCons (tTup (tCons (tC (V.str "turn")) (tCons (tOp (rIx K) (tVar 1) (tC (V.int 2))) tNil))) tNil)))) tNil)))) tNext)
  (tSeq (tIfS (tTest (tOp (rInS K false) (tOp (rIx K) (tVar 1) (tC (V.int 0))) (tLst (tCons (tC (V.str "add")) (tCons (tC (V.str "take")) (tCons (tC (V.str "lay")) tNil)))))) (tRet (tTup (tCons (tC (V.str "turnpair")) (tCons (tTup (tCons (tOp (rIx K) (tVar 1) (tC (V.int 0))) (tCons (tTup (tCons (tC (V.str "turn")) (tCons (tOp (rIx K) (tVar 1) (tC (V.int 1))) tNil))) (tCons (tTup (tCons (tC (V.str "turn")) (tCons (tOp (rIx K) (tVar 1) (tC (V.int 2))) tNil))) tNil)))) tNil)))) tNext)
  (tRet (tC V.non)))))))
-- slots of _law_rule_turn: 0 _law_tree, 1 _law_inner_here
theorem ln__law_rule_turn : ∀ ds A, P_lturn ds A → ds.length = 1 := fun ds A h => by obtain ⟨t, rfl, _⟩ := h; rfl
theorem rd__law_rule_turn {ds A} (h : P_lturn ds A) : SW K cs W0 (t__law_rule_turn K) (frame 2 ds) (rts0 A) := qt_of (by simp (disch := with_unfolding_all
  obtain ⟨x, rfl, hk, h⟩ := h
  unfold t__law_rule_turn
  refine sw_seq ?_
  walk_at "s"
  cases x with
  | nm z =>
    walk_at "wi"
    refine cnd_no (by decide) ?_
    walk_at "wi"
    refine cnd_no (by decide) ?_
    walk_at "wi"
    refine cnd_no (by decide) ?_
    walk_at "wi"
    refine in3 (by decide +kernel) (by decide +kernel) (fun e => absurd e (by decide)) fun _ => ?_
    walk_at "w"
    exact h
  | tn y =>
    walk_at "wi"
    refine cnd_yes rfl ?_
    walk_at "w"
    exact h
  | cy m y =>
    walk_at "wi"
    refine cnd_no (by decide) ?_
    walk_at "wi"
    refine cnd_yes rfl ?_
    walk_at "w"
    exact h
  | tm n y =>
    walk_at "wi"
    refine cnd_no (by decide) ?_
    walk_at "wi"
    refine cnd_no (by decide) ?_
    walk_at "wi"
    refine cnd_yes rfl ?_
    walk_at "w"
    exact h
  | pr z x y =>
    have hz := Tr.pairs_ne hk.1
    walk_at "wi"
    refine cnd_no hz.2.2.2 ?_
    walk_at "wi"
    refine cnd_no hz.2.2.1 ?_
    walk_at "wi"
    refine cnd_no hz.2.1 ?_
    walk_at "wi"
    refine in3 (Tr.word_shk (t := .pr z x y) hk) (by decide +kernel) (fun e => ?_) fun e => ?_
    · rw [show topTn (Tr.pr z x y) = some (("turnpair" : Str), Tr.pr z (.tn x) (.tn y)) from if_pos e] at h
      walk_at "w"
      exact h
    · rw [show topTn (Tr.pr z x y) = none from if_neg e] at h
      walk_at "w"
      exact h
  ) only [↓qt_eq])
end


end
section
/-! What the first rule that fits does, by the word at the top. -/
open PySem PyProof.Rows L2 Evl
noncomputable def topCy (m : List (List Fr)) (x : Tr) : Option (Str × Tr) := if Tr.Unit1 m then some ("still", x) else match x with
  | .cy k y => some ("onward", .cy (behF (Tr.stOf k) k m) y)
  | .tm n y => some ("carrytimes", .tm n (.cy m y))
  | .pr z a b => if Tr.Free z then some ("carrypair", .pr z (.cy m a) (.cy (if z = "lay" then straightM m else m) b)) else none
  | _ => none
theorem top_cy {m : List (List Fr)} {x : Tr} (h : ¬ Tr.Clash (.cy m x)) : Tr.top (.cy m x) = .ok (topCy m x) := qt_of (by simp (disch := with_unfolding_all
  unfold Tr.top Tr.ruleL topCy
  by_cases u : Tr.Unit1 m
  · simp only [first_cons, h, and_false, if_false, Tr.rTwice, Tr.rOnce, Tr.rProduct, Tr.rStill, if_pos u]
  · cases x with
    | pr z a b =>
      simp only [first_cons, h, and_false, if_false, Tr.rTwice, Tr.rOnce, Tr.rProduct, Tr.rStill, Tr.rOnward, Tr.rTurncarry, Tr.rTurntimes, Tr.rCarrytimes, Tr.rTurnpair, Tr.rCarrypair, Tr.rLeft, Tr.rRight, if_neg u]
      by_cases e : Tr.Free z
      · rw [if_pos e, if_pos e]
      · rw [if_neg e, if_neg e]; rfl
    | _ =>
      simp only [first_cons, h, and_false, if_false, Tr.rTwice, Tr.rOnce, Tr.rProduct, Tr.rStill, Tr.rOnward, Tr.rTurncarry, Tr.rTurntimes, Tr.rCarrytimes, Tr.rTurnpair, Tr.rCarrypair, Tr.rLeft, Tr.rRight, if_neg u]
      first | rfl | skip
  ) only [↓qt_eq])
noncomputable def topTm (n : Int) (x : Tr) : Option (Str × Tr) := if n = 1 then some ("once", x) else match x with
  | .tm k y => some ("product", .tm (n * k) y)
  | _ => none
theorem top_tm {n : Int} {x : Tr} : Tr.top (.tm n x) = .ok (topTm n x) := qt_of (by simp (disch := with_unfolding_all
  unfold Tr.top Tr.ruleL topTm
  have h : ¬ Tr.Clash (.tm n x) := fun z => z
  by_cases u : n = 1
  · simp only [first_cons, h, and_false, if_false, Tr.rTwice, Tr.rOnce, if_pos u]
  · cases x <;> (simp only [first_cons, h, and_false, if_false, Tr.rTwice, Tr.rOnce, Tr.rProduct, Tr.rStill, Tr.rOnward, Tr.rTurncarry, Tr.rTurntimes, Tr.rCarrytimes, Tr.rTurnpair, Tr.rCarrypair, Tr.rLeft, Tr.rRight, if_neg u]; first | rfl | skip)
  ) only [↓qt_eq])
noncomputable def topPr (z : Str) (x y : Tr) : Option (Str × Tr) := match Tr.rLeft (.pr z x y) with
  | some u => some ("left", u)
  | none => match Tr.rRight (.pr z x y) with
    | some u => some ("right", u)
    | none => none
theorem top_pr {z : Str} {x y : Tr} : Tr.top (.pr z x y) = .ok (topPr z x y) := qt_of (by simp (disch := with_unfolding_all
  unfold Tr.top Tr.ruleL topPr
  have h : ¬ Tr.Clash (.pr z x y) := fun z => z
  simp only [first_cons, h, and_false, if_false, Tr.rTwice, Tr.rOnce, Tr.rProduct, Tr.rStill, Tr.rOnward, Tr.rTurncarry, Tr.rTurntimes, Tr.rCarrytimes, Tr.rTurnpair, Tr.rCarrypair]
  cases Tr.rLeft (.pr z x y) with
  | some u => rfl
  | none =>
    cases Tr.rRight (.pr z x y) with
    | some u => rfl
    | none => rfl
  ) only [↓qt_eq])


end
section
/-! The law's rule at the top of any tree. -/
open PySem PyProof.Rows L2 Evl

section
variable {K : Fg} {cs : Cs} {gs : Gs} {φ : PyData → Prop} {A : Rs → Prop} {ε : Xw → Prop} {w : World}
noncomputable def P_lcarry : Pr := fun ds A => ∃ (m : List (List Fr)) (x : Tr) (nps : List (Str × Int)) (k r : Nat), ds = [(Tr.cy m x).enc] ∧ (Tr.cy m x).Tk ∧ k ≤ 4 ∧ Tr.Gw true nps k r (.cy m x) ∧ A (.ok (stepD (topCy m x)))
noncomputable def P_lrule : Pr := fun ds A => ∃ (t : Tr) (nps : List (Str × Int)) (k r : Nat), ds = [t.enc] ∧ t.Tk ∧ k ≤ 4 ∧ Tr.Gw true nps k r t ∧ t.word ≠ "name" ∧ ∀ o, Tr.top t = .ok o → A (.ok (stepD o))
theorem ln__law_rule : ∀ ds A, P_lrule ds A → ds.length = 1 := fun ds A h => by obtain ⟨t, _, _, _, rfl, _⟩ := h; rfl
noncomputable def t__law_rule (K : Fg) : TS := (tSeq (tIfS (tTest (tOp rEq (tOp (rIx K) (tVar 0) (tC (V.int 0))) (tC (V.str "turn")))) (tRet (tCall (spW0 K P_lturn) [] E0 (tCons (tVar 0) tNil))) tNext)
  (tSeq (tIfS (tTest (tOp rEq (tOp (rIx K) (tVar 0) (tC (V.int 0))) (tC (V.str "carry")))) (tRet (tCall (spW0 K P_lcarry) [] E0 (tCons (tVar 0) tNil))) tNext)
  (tSeq (tIfS (tTest (tOp rEq (tOp (rIx K) (tVar 0) (tC (V.int 0))) (tC (V.str "times")))) (tSeq (tIfS (tTest (tOp rEq (tOp (rIx K) (tVar 0) (tC (V.int 1))) (tC (V.int 1)))) (tRet (tTup (tCons (tC (V.str "once")) (tCons (tOp (rIx K) (tVar 0) (tC (V.int 2))) tNil)))) tNext)
  (tIfS (tTest (tOp rEq (tOp (rIx K) (tOp (rIx K) (tVar 0) (tC (V.int 2))) (tC (V.int 0))) (tC (V.str "times")))) (tRet (tTup (tCons (tC (V.str "product")) (tCons (tTup (tCons (tC (V.str "times")) (tCons (tOp rMulI (tOp (rIx K) (tVar 0) (tC (V.int 1))) (tOp (rIx K) (tOp (rIx K) (tVar 0) (tC (V.int 2))) (tC (V.int 1)))) (tCons (tOp (rIx K) (tOp (rIx K) (tVar 0) (tC (V.int 2))) (tC (V.int 2))) tNil)))) tNil)))) tNext)) tNext)
  (tSeq (tIfS (tAnd (tTest (tOp (rInS K false) (tOp (rIx K) (tVar 0) (tC (V.int 0))) (tLst (tCons (tC (V.str "meet")) (tCons (tC (V.str "lay")) tNil))))) (tTest (tOp rEq (tOp (rIx K) (tOp (rIx K) (tVar 0) (tC (V.int 1))) (tC (V.int 0))) (tC (V.str "times"))))) (tRet (tTup (tCons (tC (V.str "left")) (tCons (tTup (tCons (tC (V.str "times")) (tCons (tOp (rIx K) (tOp (rIx K) (tVar 0) (tC (V.int 1))) (tC (V.int 1))) (tCons (tTup (tCons (tOp (rIx K) (tVar 0) (tC (V.int 0))) (tCons (tOp (rIx K) (tOp (rIx K) (tVar 0) (tC (V.int 1))) (tC (V.int 2))) (tCons (tOp (rIx K) (tVar 0) (tC (V.int 2))) tNil)))) tNil)))) tNil)))) tNext)
  (tSeq (tIfS (tAnd (tTest (tOp (rInS K false) (tOp (rIx K) (tVar 0) (tC (V.int 0))) (tLst (tCons (tC (V.str "meet")) (tCons (tC (V.str "lay")) tNil))))) (tTest (tOp rEq (tOp (rIx K) (tOp (rIx K) (tVar 0) (tC (V.int 2))) (tC (V.int 0))) (tC (V.str "times"))))) (tRet (tTup (tCons (tC (V.str "right")) (tCons (tTup (tCons (tC (V.str "times")) (tCons (tOp (rIx K) (tOp (rIx K) (tVar 0) (tC (V.int 2))) (tC (V.int 1))) (tCons (tTup (tCons (tOp (rIx K) (tVar 0) (tC (V.int 0))) (tCons (tOp (rIx K) (tVar 0) (tC (V.int 1))) (tCons (tOp (rIx K) (tOp (rIx K) (tVar 0) (tC (V.int 2))) (tC (V.int 2))) tNil)))) tNil)))) tNil)))) tNext)
  (tRet (tC V.non)))))))
-- slots of _law_rule: 0 _law_tree
theorem rd__law_rule {ds A} (h : P_lrule ds A) : SW K cs W0 (t__law_rule K) (frame 1 ds) (rts0 A) := qt_of (by simp (disch := with_unfolding_all
  obtain ⟨t, nps, k, r, rfl, hk, hkk, hg, hn, h⟩ := h
  unfold t__law_rule
  cases t with
  | nm z => exact absurd rfl hn
  | tn x =>
    have h := h _ (top_tn x)
    walk_at "wi"
    refine cnd_yes rfl ?_
    walk_at "w"
    exact ⟨x, rfl, hk, h⟩
  | cy m x =>
    have h := h _ (top_cy (hg.clash))
    walk_at "wi"
    refine cnd_no (by decide) ?_
    walk_at "wi"
    refine cnd_yes rfl ?_
    walk_at "w"
    exact ⟨m, x, nps, k, r, rfl, hk, hkk, hg, h⟩
  | tm n x =>
    have h := h _ top_tm
    have hx : x.Tk := hk.2
    rw [show (Tr.tm n x).enc = .tuple [.str "times", .int n, .tuple (.str x.word :: x.rest)] from by show PyData.tuple [_, _, x.enc] = _; rw [x.enc_eq]]
    walk_at "wi"
    refine cnd_no (by decide) ?_
    walk_at "wi"
    refine cnd_no (by decide) ?_
    walk_at "wi"
    refine cnd_yes rfl ?_
    walk_at "wi"
    refine cnd_d (fun e => ?_) fun e => ?_
    · rw [show topTm n x = some (("once" : Str), x) from if_pos e, show stepD (some (("once" : Str), x)) = .tuple [.str "once", x.enc] from rfl, x.enc_eq] at h
      walk_at "w"
      exact h
    · walk_at "wi"
      refine cnd_d (fun e1 => ?_) fun e1 => ?_
      · obtain ⟨i, y, rfl⟩ := Tr.k_times hx e1
        rw [show topTm n (.tm i y) = some (("product" : Str), Tr.tm (n * i) y) from if_neg e] at h
        walk_at "w"
        refine ⟨c_small hk.1 hx.1, ?_⟩
        walk_at "w"
        exact h
      · have z : topTm n x = none := (if_neg e).trans (by cases x <;> first | rfl | exact absurd rfl e1)
        rw [z] at h
        walk_at "wi"
        walk_at "wi"
        refine in2 (w := "times") (by decide +kernel) (by decide +kernel) (fun e => absurd e (by decide)) fun _ => ?_
        walk_at "wi"
        refine in2 (w := "times") (by decide +kernel) (by decide +kernel) (fun e => absurd e (by decide)) fun _ => ?_
        walk_at "w"
        exact h
  | pr z x y =>
    have h := h _ top_pr
    have hz := Tr.pairs_ne hk.1
    have sh := Tr.word_shk (t := .pr z x y) hk
    have hx : x.Tk := hk.2.1
    have hy : y.Tk := hk.2.2
    rw [show (Tr.pr z x y).enc = .tuple [.str z, .tuple (.str x.word :: x.rest), .tuple (.str y.word :: y.rest)] from by show PyData.tuple [_, x.enc, y.enc] = _; rw [x.enc_eq, y.enc_eq]]
    walk_at "wi"
    refine cnd_no hz.2.2.2 ?_
    walk_at "wi"
    refine cnd_no hz.2.2.1 ?_
    walk_at "wi"
    refine cnd_no hz.2.1 ?_
    walk_at "wi"
    walk_at "wi"
    refine in2 (w := z) sh (by decide +kernel) (fun e => ?_) fun e => ?_
    · walk_at "w"
      refine cnd_d (fun e1 => ?_) fun e1 => ?_
      · obtain ⟨n, u, rfl⟩ := Tr.k_times hx e1
        have q : topPr z (.tm n u) y = some (("left" : Str), Tr.tm n (.pr z u y)) := by unfold topPr; rw [show Tr.rLeft (.pr z (.tm n u) y) = some (Tr.tm n (.pr z u y)) from if_pos e]
        rw [q] at h
        rw [show stepD (some (("left" : Str), Tr.tm n (.pr z u y))) = .tuple [.str "left", .tuple [.str "times", .int n, .tuple [.str z, u.enc, y.enc]]] from rfl, y.enc_eq] at h
        walk_at "w"
        exact h
      · have q1 : Tr.rLeft (.pr z x y) = none := by cases x <;> first | rfl | exact absurd rfl e1
        walk_at "wi"
        walk_at "wi"
        refine in2 (w := z) sh (by decide +kernel) (fun _ => ?_) fun z => absurd e z
        walk_at "w"
        refine cnd_d (fun e2 => ?_) fun e2 => ?_
        · obtain ⟨n, u, rfl⟩ := Tr.k_times hy e2
          have q : topPr z x (.tm n u) = some (("right" : Str), Tr.tm n (.pr z x u)) := by unfold topPr; rw [q1]; show (match Tr.rRight _ with | some u => _ | none => _) = _; rw [show Tr.rRight (.pr z x (.tm n u)) = some (Tr.tm n (.pr z x u)) from if_pos e]
          rw [q] at h
          rw [show stepD (some (("right" : Str), Tr.tm n (.pr z x u))) = .tuple [.str "right", .tuple [.str "times", .int n, .tuple [.str z, x.enc, u.enc]]] from rfl, x.enc_eq] at h
          walk_at "w"
          exact h
        · have q2 : Tr.rRight (.pr z x y) = none := by cases y <;> first | rfl | exact absurd rfl e2
          have q : topPr z x y = none := by unfold topPr; rw [q1]; show (match Tr.rRight _ with | some u => _ | none => _) = _; rw [q2]
          rw [q] at h
          walk_at "w"
          exact h
    · have q1 : Tr.rLeft (.pr z x y) = none := by cases x <;> first | rfl | exact if_neg e
      have q2 : Tr.rRight (.pr z x y) = none := by cases y <;> first | rfl | exact if_neg e
      have q : topPr z x y = none := by unfold topPr; rw [q1]; show (match Tr.rRight _ with | some u => _ | none => _) = _; rw [q2]
      rw [q] at h
      walk_at "wi"
      walk_at "wi"
      refine in2 (w := z) sh (by decide +kernel) (fun z => absurd z e) fun _ => ?_
      walk_at "w"
      exact h
  ) only [↓qt_eq])
end


end
section
/-! The law's own step. -/
open PySem PyProof.Rows L2 Evl

section
variable {K : Fg} {cs : Cs} {gs : Gs} {φ : PyData → Prop} {A : Rs → Prop} {ε : Xw → Prop} {w : World} {W : WX} {Φ : Out → Prop}
noncomputable def P_lone : Nat → Pr
  | 0 => fun _ _ => False
  | n + 1 => fun ds A => ∃ (t : Tr) (nps : List (Str × Int)) (k r : Nat), ds = [t.enc] ∧ t.Tk ∧ k ≤ 4 ∧ Tr.Gw true nps k r t ∧ t.depth ≤ n ∧ n ≤ 25 ∧ ∀ o, Tr.step t = .ok o → A (.ok (stepD o))
noncomputable def t__law_one_rule (K : Fg) (n : Nat) : TS := (tSeq (tAsg (tOp rSubI (tCB (rLenQ K) (tCons (tVar 0) tNil)) (tCB (rLenQ K) (tCons (tCall (spW0 K P_linnerK) [] E0 (tCons (tVar 0) tNil)) tNil))) (gName 1))
  (tSeq (tIfS (tTest (tOp rEq (tOp (rIx K) (tVar 0) (tC (V.int 0))) (tC (V.str "name")))) (tRet (tC V.non)) tNext)
  (tSeq (tFor (iRng2 (tCons (tVar 1) (tCons (tCB (rLenQ K) (tCons (tVar 0) tNil)) tNil))) (gName 2) (tSeq (tAsg (tCall (spW0 K (P_lone n)) [] E0 (tCons (tOp (rIx K) (tVar 0) (tVar 2)) tNil)) (gName 3))
  (tIfS (tTest (tOp rNoNo (tVar 3) (tC V.non))) (tRet (tTup (tCons (tOp (rIx K) (tVar 3) (tC (V.int 0))) (tCons (tOp (rCatA K) (tOp (rCatA K) (tSl (rSlA K) (tVar 0) tNoPart (tPart (tVar 2))) (tTup (tCons (tOp (rIx K) (tVar 3) (tC (V.int 1))) tNil))) (tSl (rSlA K) (tVar 0) (tPart (tOp rAddI (tVar 2) (tC (V.int 1)))) tNoPart)) tNil)))) tNext)))
  (tRet (tCall (spW0 K P_lrule) [] E0 (tCons (tVar 0) tNil))))))
-- slots of _law_one_rule: 0 _law_tree, 1 _law_size, 2 _law_at, 3 _law_found
theorem ln__law_one_rule {n : Nat} : ∀ ds A, P_lone (n + 1) ds A → ds.length = 1 := fun ds A h => by obtain ⟨t, _, _, _, rfl, _⟩ := h; rfl
theorem lone_body {n : Nat} {x : Tr} {xs pre post : List PyData} {i : Int} {s : PyData} {e3 : En} (hok : ∃ o, Tr.step x = .ok o) (hc : ∀ A' : Rs → Prop, (∀ o, Tr.step x = .ok o → A' (.ok (stepD o))) → P_lone n [x.enc] A')
    (hat : atI xs i = some x.enc) (h1 : cutD xs none (some i) = pre) (h2 : cutD xs (some (i + 1)) none = post) (hl : pre.length + post.length ≤ 10)
    (hS : ∀ r y, Tr.step x = .ok (some (r, y)) → Φ (.rt (.tuple [.str r, .tuple (pre ++ [y.enc] ++ post)]))) (hN : Tr.step x = .ok none → Φ (.nx [.d (.tuple xs), .d s, .d (.int i), .d .none])) :
    SW K cs W (tSeq (tAsg (tCall (spW0 K (P_lone n)) [] E0 (tCons (tOp (rIx K) (tVar 0) (tVar 2)) tNil)) (gName 3))
  (tIfS (tTest (tOp rNoNo (tVar 3) (tC V.non))) (tRet (tTup (tCons (tOp (rIx K) (tVar 3) (tC (V.int 0))) (tCons (tOp (rCatA K) (tOp (rCatA K) (tSl (rSlA K) (tVar 0) tNoPart (tPart (tVar 2))) (tTup (tCons (tOp (rIx K) (tVar 3) (tC (V.int 1))) tNil))) (tSl (rSlA K) (tVar 0) (tPart (tOp rAddI (tVar 2) (tC (V.int 1)))) tNoPart)) tNil)))) tNext)) [.d (.tuple xs), .d s, .d (.int i), e3] Φ := qt_of (by simp (disch := with_unfolding_all
  refine sw_seq ?_
  walk_at "s"
  refine ⟨_, hat, ?_⟩
  walk_at "s"
  refine hc _ fun o ho => ?_
  cases o with
  | none =>
    have hN := hN ho
    show SW K cs W _ [.d (.tuple xs), .d s, .d (.int i), .d .none] _
    walk_at "w"
    refine cnd_f ?_
    walk_at "w"
    exact hN
  | some q =>
    obtain ⟨r, y⟩ := q
    have hS := hS r y ho
    show SW K cs W _ [.d (.tuple xs), .d s, .d (.int i), .d (.tuple [.str r, y.enc])] _
    walk_at "w"
    refine cnd_t ?_
    walk_at "w"
    rw [h1]
    refine ⟨by simp only [List.length_cons, List.length_nil]; omega, _, rfl, ?_⟩
    walk_at "w"
    rw [h2]
    refine ⟨by simp only [List.length_append, List.length_cons, List.length_nil]; omega, ?_⟩
    exact hS
  ) only [↓qt_eq])
end


end
section
/-! The law's rule of carrying, and its own step. -/
open PySem PyProof.Rows L2 Evl

section
variable {K : Fg} {cs : Cs} {gs : Gs} {φ : PyData → Prop} {A : Rs → Prop} {ε : Xw → Prop} {w : World}
theorem unit_iff {m : List (List Fr)} {b gl st : Nat} (M : Mp b gl st m) (h : gl = 1 ∨ gl = 2) : Tr.Unit1 m ↔ m = unitM gl := qt_of (by simp (disch := with_unfolding_all
  have l := M.len
  constructor
  · rintro (e | e)
    · subst e
      have : gl = 1 := by rw [← l]; rfl
      rw [this]
    · subst e
      have : gl = 2 := by rw [← l]; rfl
      rw [this]
  · rintro rfl
    rcases h with rfl | rfl
    · exact .inl rfl
    · exact .inr rfl
  ) only [↓qt_eq])
theorem sh_unit {r : Nat} (h : r = 1 ∨ r = 2) : SeqAt.shaped (mp (unitM r)) = true := by rcases h with rfl | rfl <;> decide +kernel
noncomputable def t__law_rule_carry (K : Fg) : TS := (tSeq (tAsg (tOp (rIx K) (tVar 0) (tC (V.int 1))) (gName 1))
  (tSeq (tAsg (tOp (rIx K) (tVar 0) (tC (V.int 2))) (gName 2))
  (tSeq (tIfS (tTest (tOp (rEqD K) (tVar 1) (tCall (spW0 K P_lunit) [] E0 (tCons (tCB (rLenQ K) (tCons (tVar 1) tNil)) tNil)))) (tRet (tTup (tCons (tC (V.str "still")) (tCons (tVar 2) tNil)))) tNext)
  (tSeq (tIfS (tTest (tOp rEq (tOp (rIx K) (tVar 2) (tC (V.int 0))) (tC (V.str "carry")))) (tRet (tTup (tCons (tC (V.str "onward")) (tCons (tTup (tCons (tC (V.str "carry")) (tCons (tCall (spW0 K P_lends) [] E0 (tCons (tOp (rIx K) (tVar 2) (tC (V.int 1))) (tCons (tVar 1) (tCons (tOp rSubI (tCB (rLenQ K) (tCons (tOp (rIx K) (tOp (rIx K) (tVar 2) (tC (V.int 1))) (tC (V.int 0))) tNil)) (tC (V.int 1))) tNil)))) (tCons (tOp (rIx K) (tVar 2) (tC (V.int 2))) tNil)))) tNil)))) tNext)
  (tSeq (tIfS (tTest (tOp rEq (tOp (rIx K) (tVar 2) (tC (V.int 0))) (tC (V.str "times")))) (tRet (tTup (tCons (tC (V.str "carrytimes")) (tCons (tTup (tCons (tC (V.str "times")) (tCons (tOp (rIx K) (tVar 2) (tC (V.int 1))) (tCons (tTup (tCons (tC (V.str "carry")) (tCons (tVar 1) (tCons (tOp (rIx K) (tVar 2) (tC (V.int 2))) tNil)))) tNil)))) tNil)))) tNext)
  (tSeq (tIfS (tTest (tOp (rInS K false) (tOp (rIx K) (tVar 2) (tC (V.int 0))) (tLst (tCons (tC (V.str "add")) (tCons (tC (V.str "take")) (tCons (tC (V.str "lay")) tNil)))))) (tSeq (tAsg (tVar 1) (gName 3))
  (tSeq (tIfS (tTest (tOp rEq (tOp (rIx K) (tVar 2) (tC (V.int 0))) (tC (V.str "lay")))) (tAsg (tCB (rTupQ K) (tCons (tLc (iTup K (tVar 1)) (gName 4) tYes (tOp (rCatA K) (tSl (rSlA K) (tVar 4) tNoPart (tPart (tUn rNegI (tC (V.int 1))))) (tTup (tCons (tTup (tCons (tC (V.int 0)) (tCons (tC (V.int 1)) tNil))) tNil))) [4]) tNil)) (gName 3)) tNext)
  (tRet (tTup (tCons (tC (V.str "carrypair")) (tCons (tTup (tCons (tOp (rIx K) (tVar 2) (tC (V.int 0))) (tCons (tTup (tCons (tC (V.str "carry")) (tCons (tVar 1) (tCons (tOp (rIx K) (tVar 2) (tC (V.int 1))) tNil)))) (tCons (tTup (tCons (tC (V.str "carry")) (tCons (tVar 3) (tCons (tOp (rIx K) (tVar 2) (tC (V.int 2))) tNil)))) tNil)))) tNil)))))) tNext)
  (tRet (tC V.non))))))))
-- slots of _law_rule_carry: 0 _law_tree, 1 _law_table, 2 _law_inner_here, 3 _law_second, 4 _law_row
theorem ln__law_rule_carry : ∀ ds A, P_lcarry ds A → ds.length = 1 := fun ds A h => by obtain ⟨_, _, _, _, _, rfl, _⟩ := h; rfl
theorem rd__law_rule_carry {ds A} (h : P_lcarry ds A) : SW K cs W0 (t__law_rule_carry K) (frame 5 ds) (rts0 A) := qt_of (by simp (disch := with_unfolding_all
  obtain ⟨m, x, nps, k, r, rfl, hk, hkk, hg, h⟩ := h
  unfold t__law_rule_carry
  have hx : x.Tk := hk.2
  obtain ⟨j, gl, st, r', j1, j2, M, h1, h2, h3, hg2⟩ := hg
  rw [show (Tr.cy m x).enc = .tuple [.str "carry", mp m, .tuple (.str x.word :: x.rest)] from by show PyData.tuple [_, _, x.enc] = _; rw [x.enc_eq]]
  have ml := M.len
  walk_at "wi"
  refine ⟨gl, by rw [List.length_map, ml], h1, ?_⟩
  walk_at "wi"
  refine ⟨sh_mp M h1 h2, sh_unit h1, ?_⟩
  rw [eqv_mpD]
  walk_at "wi"
  refine cnd_d (fun e => ?_) fun e => ?_
  · rw [show topCy m x = some (("still" : Str), x) from if_pos ((unit_iff M h1).mpr e), show stepD (some (("still" : Str), x)) = .tuple [.str "still", x.enc] from rfl, x.enc_eq] at h
    walk_at "w"
    exact h
  have u : ¬ Tr.Unit1 m := fun z => e ((unit_iff M h1).mp z)
  cases x with
  | nm z =>
    rw [show topCy m (.nm z) = none from if_neg u] at h
    walk_at "wi"
    refine cnd_no (show ¬ (("name" : Str) = "carry") from by decide) ?_
    walk_at "wi"
    refine cnd_no (show ¬ (("name" : Str) = "times") from by decide) ?_
    walk_at "wi"
    refine in3 (w := "name") (by decide +kernel) (by decide +kernel) (fun e => absurd e (by decide)) fun _ => ?_
    walk_at "w"
    exact h
  | tn y =>
    rw [show topCy m (.tn y) = none from if_neg u] at h
    walk_at "wi"
    refine cnd_no (show ¬ (("turn" : Str) = "carry") from by decide) ?_
    walk_at "wi"
    refine cnd_no (show ¬ (("turn" : Str) = "times") from by decide) ?_
    walk_at "wi"
    refine in3 (w := "turn") (by decide +kernel) (by decide +kernel) (fun e => absurd e (by decide)) fun _ => ?_
    walk_at "w"
    exact h
  | cy q y =>
    rw [show topCy m (.cy q y) = some (("onward" : Str), Tr.cy (behF (Tr.stOf q) q m) y) from if_neg u] at h
    obtain ⟨i, gl', st', _, i1, i2, M', h1', h2', h3', _⟩ := hg2
    have fl := Tr.fb_add j1 i1 (show j + i ≤ 4 by omega)
    have e2 := Tr.stOf_mp M' h1'
    have l' := M'.len
    have eg : gl' = st := by
      have := (h3' rfl).1
      have := (h3 rfl).2
      omega
    subst eg
    rw [e2] at h
    obtain ⟨q0, qr, rfl⟩ : ∃ a l, q = a :: l := by
      cases q with
      | nil => simp at l'; omega
      | cons a l => exact ⟨a, l, rfl⟩
    have lq := (M'.row q0 List.mem_cons_self).1
    have fb2 : Tr.fb i ≤ 200 ∧ Tr.fb i + Tr.fb j ≤ 200 := by
      have key : ∀ j ∈ [1, 2, 3], ∀ i ∈ [1, 2, 3], j + i ≤ 4 → Tr.fb i ≤ 200 ∧ Tr.fb i + Tr.fb j ≤ 200 := by decide
      exact key j (by simp; omega) i (by simp; omega) (by omega)
    walk_at "wi"
    refine cnd_yes rfl ?_
    walk_at "w"
    rw [show ((((q0.map fr).length : Nat) : Int) - 1) = (st' : Int) by rw [List.length_map, lq]; omega]
    refine ⟨Tr.fb i, Tr.fb j, gl', st', gl, q0 :: qr, m, rfl, M', M, h1', h2', h1, fb2.1, fb2.2, ?_⟩
    walk_at "w"
    exact h
  | tm n y =>
    rw [show topCy m (.tm n y) = some (("carrytimes" : Str), Tr.tm n (.cy m y)) from if_neg u] at h
    walk_at "wi"
    refine cnd_no (show ¬ (("times" : Str) = "carry") from by decide) ?_
    walk_at "wi"
    refine cnd_yes rfl ?_
    walk_at "w"
    exact h
  | pr z a b =>
    have hz := Tr.pairs_ne hx.1
    walk_at "wi"
    refine cnd_no hz.2.2.1 ?_
    walk_at "wi"
    refine cnd_no hz.2.1 ?_
    walk_at "wi"
    refine in3 (Tr.word_shk (t := .pr z a b) hx) (by decide +kernel) (fun e => ?_) fun e => ?_
    · rw [show topCy m (.pr z a b) = some (("carrypair" : Str), Tr.pr z (.cy m a) (.cy (if z = "lay" then straightM m else m) b)) from (if_neg u).trans (if_pos e)] at h
      walk_at "wi"
      refine cnd_d (fun el => ?_) fun el => ?_
      · rw [if_pos (show z = "lay" from el)] at h
        walk_at "w"
        refine lcM (fun r : List Fr => frs (r.dropLast ++ [(0, 1)])) (by omega) (unk1 rfl) (fun q hq => ?_) ?_
        · refine gc_name (by simp) ?_
          have := (M.row q hq).1
          walk_at "w"
          refine ⟨by rw [cutD_init, List.length_dropLast, List.length_map]; simp; omega, ?_⟩
          rw [show PyData.tuple [.int 0, .int 1] = fr (0, 1) from rfl, cut_init_fr]
        · walk_at "w"
          rw [show (m.map fun r => frs (r.dropLast ++ [(0, 1)])) = (straightM m).map frs by unfold straightM; rw [List.map_map]; rfl]
          exact h
      · rw [if_neg (show ¬ z = "lay" from el)] at h
        walk_at "w"
        exact h
    · rw [show topCy m (.pr z a b) = none from (if_neg u).trans (if_neg e)] at h
      walk_at "w"
      exact h
  ) only [↓qt_eq])
theorem rd__law_one_rule {n : Nat} {ds A} (h : P_lone (n + 1) ds A) : SW K cs W0 (t__law_one_rule K n) (frame 4 ds) (rts0 A) := qt_of (by simp (disch := with_unfolding_all
  obtain ⟨t, nps, k, r, rfl, hk, hkk, hg, hd, hn, hO⟩ := h
  unfold t__law_one_rule
  have top : t.word ≠ "name" → Tr.step t = Tr.top t → ∀ {ε : Xw → Prop}, P_lrule [t.enc] (rE (fun x => rts0 A (.rt x)) ε) := fun nw e {ε} =>
    ⟨t, nps, k, r, rfl, hk, hkk, hg, nw, fun o z => hO o (e.trans z)⟩
  have kid : ∀ {x : Tr} {k' r' : Nat}, x.Tk → k' ≤ 4 → Tr.Gw true nps k' r' x → x.depth < t.depth → ∀ A' : Rs → Prop, (∀ o, Tr.step x = .ok o → A' (.ok (stepD o))) → P_lone n [x.enc] A' := fun {x k' r'} h1 h2 h3 h4 A' b => by
    obtain ⟨m, rfl⟩ : ∃ m, n = m + 1 := ⟨n - 1, by omega⟩
    exact ⟨x, nps, k', r', rfl, h1, h2, h3, by omega, by omega, b⟩
  have inn : ∀ {A' : Rs → Prop}, A' (.ok (.list (t.kids.map Tr.enc))) → P_linnerK [t.enc] A' := fun a => ⟨t, rfl, hk, a⟩
  cases t with
  | nm z =>
    have h := hO none rfl
    walk_at "wi"
    refine inn ?_
    walk_at "wi"
    refine cnd_yes rfl ?_
    walk_at "w"
    exact h
  | tm i x =>
    walk_at "wi"
    refine inn ?_
    walk_at "wi"
    refine cnd_no (by decide) ?_
    walk_at "s"
    refine sw_seq ?_
    refine sw_for (iw_rng2 (aw_cons (ew_var rfl (aw_cons (ew_len (aw_cons (ew_var rfl (aw_nil ⟨_, _, rfl, rfl, aw_nil ⟨2, 3, rfl, by decide, by decide, ?_⟩⟩))))))))
    show ForI K cs W0 _ _ _ _ [.int 2]
    refine for1 (gw_name (lone_body (pre := [.str "times", .int i]) (post := []) (Tr.Gw.step (t := x) hg) (kid (x := x) hk.2 hkk hg (Nat.lt_succ_self _)) rfl rfl rfl (by simp) (fun r y z => hO (some (r, .tm i y)) ?_) fun z => ?_))
    · show Tr.inK _ _ _ = _
      rw [z]; rfl
    · walk_at "s"
      exact top (show (("times" : Str) ≠ "name") from by decide) (show Tr.inK _ _ _ = _ by rw [z]; rfl)
  | tn x =>
    walk_at "wi"
    refine inn ?_
    walk_at "wi"
    refine cnd_no (by decide) ?_
    walk_at "s"
    refine sw_seq ?_
    refine sw_for (iw_rng2 (aw_cons (ew_var rfl (aw_cons (ew_len (aw_cons (ew_var rfl (aw_nil ⟨_, _, rfl, rfl, aw_nil ⟨1, 2, rfl, by decide, by decide, ?_⟩⟩))))))))
    show ForI K cs W0 _ _ _ _ [.int 1]
    refine for1 (gw_name (lone_body (pre := [.str "turn"]) (post := []) (Tr.Gw.step (t := x) hg) (kid (x := x) hk hkk hg (Nat.lt_succ_self _)) rfl rfl rfl (by simp) (fun r y z => hO (some (r, .tn y)) ?_) fun z => ?_))
    · show Tr.inK _ _ _ = _
      rw [z]; rfl
    · walk_at "s"
      exact top (show (("turn" : Str) ≠ "name") from by decide) (show Tr.inK _ _ _ = _ by rw [z]; rfl)
  | cy m x =>
    obtain ⟨j, gl, st, r', j1, j2, M, h1, h2, h3, hx⟩ := hg
    walk_at "wi"
    refine inn ?_
    walk_at "wi"
    refine cnd_no (by decide) ?_
    walk_at "s"
    refine sw_seq ?_
    refine sw_for (iw_rng2 (aw_cons (ew_var rfl (aw_cons (ew_len (aw_cons (ew_var rfl (aw_nil ⟨_, _, rfl, rfl, aw_nil ⟨2, 3, rfl, by decide, by decide, ?_⟩⟩))))))))
    show ForI K cs W0 _ _ _ _ [.int 2]
    refine for1 (gw_name (lone_body (pre := [.str "carry", mp m]) (post := []) hx.step (kid (x := x) hk.2 (by omega) hx (Nat.lt_succ_self _)) rfl rfl rfl (by simp) (fun r y z => hO (some (r, .cy m y)) ?_) fun z => ?_))
    · show Tr.inK _ _ _ = _
      rw [z]; rfl
    · walk_at "s"
      exact top (show (("carry" : Str) ≠ "name") from by decide) (show Tr.inK _ _ _ = _ by rw [z]; rfl)
  | pr z x y =>
    have hz := Tr.pairs_ne hk.1
    walk_at "wi"
    refine inn ?_
    walk_at "wi"
    refine cnd_no hz.1 ?_
    walk_at "s"
    refine sw_seq ?_
    refine sw_for (iw_rng2 (aw_cons (ew_var rfl (aw_cons (ew_len (aw_cons (ew_var rfl (aw_nil ⟨_, _, rfl, rfl, aw_nil ⟨1, 3, rfl, by decide, by decide, ?_⟩⟩))))))))
    show ForI K cs W0 _ _ _ _ [.int 1, .int 2]
    refine for2 (gw_name (lone_body (pre := [.str z]) (post := [y.enc]) hg.2.1.step (kid (x := x) hk.2.1 hkk hg.2.1 (by show x.depth < max _ _ + 1; omega)) rfl rfl rfl (by simp) (fun r u e => hO (some (r, .pr z u y)) ?_) fun ex => ?_))
    · show Tr.inK _ _ _ = _
      rw [e]; rfl
    refine gw_name (lone_body (pre := [.str z, x.enc]) (post := []) hg.2.2.step (kid (x := y) hk.2.2 hkk hg.2.2 (by show y.depth < max _ _ + 1; omega)) rfl rfl rfl (by simp) (fun r u e => hO (some (r, .pr z x u)) ?_) fun e => ?_)
    · show Tr.inK _ _ (Tr.inK _ _ _) = _
      rw [ex, e]; rfl
    · walk_at "s"
      exact top hz.1 (show Tr.inK _ _ (Tr.inK _ _ _) = _ by rw [ex, e]; rfl)
  ) only [↓qt_eq])
end


end
section
/-! Settling a tree. -/
open PySem PyProof.Rows L2 Evl

namespace Tr
theorem St.nl {r : Str} {t u : Tr} (h : St r t u) : t.Nl → u.Nl := qt_of (by simp (disch := with_unfolding_all
  induction h with
  | twice => exact fun h => h
  | once => exact fun h => h
  | product => exact fun h => h
  | still _ => exact fun h => h
  | onward _ => exact fun h => h
  | turncarry => exact fun h => h
  | turntimes => exact fun h => h
  | carrytimes => exact fun h => h
  | turnpair _ => exact fun h => h
  | carrypair _ => exact fun h => h
  | left _ => exact fun h => h
  | right _ => exact fun h => h
  | tm _ ih => exact ih
  | tn _ ih => exact ih
  | cy _ ih => exact ih
  | prL _ ih => exact fun h => ⟨ih h.1, h.2⟩
  | prR _ ih => exact fun h => ⟨h.1, ih h.2⟩
  ) only [↓qt_eq])
theorem Run.inv {t : Tr} {p : List (Str × Tr)} {e : Option Tr} (h : Run t p e) : (step t = .error () → p = [] ∧ e = none) ∧ (step t = .ok none → p = [] ∧ e = some t) ∧ ∀ r u, step t = .ok (some (r, u)) → ∃ p', p = (r, u) :: p' ∧ Run u p' e := qt_of (by simp (disch := with_unfolding_all
  cases h with
  | fin s => exact ⟨fun z => (by rw [s] at z; cases z), fun _ => ⟨rfl, rfl⟩, fun r u z => (by rw [s] at z; cases z)⟩
  | bad s => exact ⟨fun _ => ⟨rfl, rfl⟩, fun z => (by rw [s] at z; cases z), fun r u z => (by rw [s] at z; cases z)⟩
  | go s h => exact ⟨fun z => (by rw [s] at z; cases z), fun z => (by rw [s] at z; cases z), fun r u z => by rw [s] at z; cases z; exact ⟨_, rfl, h⟩⟩
  ) only [↓qt_eq])
end Tr
noncomputable def paperD (p : List (Str × Tr)) : List PyData := p.map fun q => .tuple [.str q.1, .str (tx q.2.txt)]
section
variable {K : Fg} {cs : Cs} {gs : Gs} {φ : PyData → Prop} {A : Rp → Prop} {ε : Xw → Prop} {w : World} {W : WX} {Φ : Out → Prop}
/-- a tree on its way -/
structure OnWay (ok : Bool) (nps : List (Str × Int)) (r : Nat) (t : Tr) : Prop where
  sd : Tr.Sd1 ok nps r t
  nl : t.Nl
  sz : t.sz ≤ 300
theorem OnWay.step {ok : Bool} {nps : List (Str × Int)} {r : Nat} {t u : Tr} {x : Str} (h : OnWay ok nps r t) (s : Tr.St x t u) : OnWay ok nps r u := ⟨h.sd.step s, s.nl h.nl, Nat.le_trans s.less.1 h.sz⟩
theorem OnWay.depth {ok : Bool} {nps : List (Str × Int)} {r : Nat} {t : Tr} (h : OnWay ok nps r t) : t.depth ≤ 24 := Nat.le_trans t.depth_dz h.sd.d
noncomputable def P_setl : PrP := fun ds A => ∃ (t : Tr) (ok : Bool) (nps : List (Str × Int)) (r : Nat) (p : List (Str × Tr)) (e : Option Tr), ds = [t.enc] ∧ OnWay ok nps r t ∧ Tr.Run t p e ∧ p.length ≤ 1000 ∧ (∀ u, e = some u → A (.ok u.enc (paperD p))) ∧ (e = none → A (.er xOther))
theorem ln_settled : ∀ ds A, P_setl ds A → ds.length = 1 := fun ds A h => by obtain ⟨t, _, _, _, _, _, rfl, _⟩ := h; rfl
noncomputable def t_settled (K : Fg) (cs : Cs) (W : WX) : TS := (tSeq (tAsg (tLst tNil) (gName 1))
  (tSeq (tAsg (tCallSD (spW K cs (P_oneStep 26)) [] (WE W) (tCons (tVar 0) tNil)) (gName 2))
  (tSeq (tWhile (tTest (tOp rNoNo (tVar 2) (tC V.non))) (tSeq (tAsg (tVar 2) (gTup K 2 (gCons (gName 3) (gCons (gName 0) gNil))))
  (tSeq (tDrop (tBM K "list" rAppend (tVar 1) (tCons (tTup (tCons (tVar 3) (tCons (tCall (spW0 K (P_write 26)) [] E0 (tCons (tVar 0) tNil)) tNil))) tNil)))
  (tAsg (tCallSD (spW K cs (P_oneStep 26)) [] (WE W) (tCons (tVar 0) tNil)) (gName 2)))))
  (tRet (tTup (tCons (tVar 0) (tCons (tVar 1) tNil)))))))
-- slots of settled: 0 tree, 1 paper, 2 step, 3 rule
theorem c_oneStep {ok : Bool} {nps : List (Str × Int)} {r : Nat} {t : Tr} {A : Rs → Prop} (h : OnWay ok nps r t) (hE : Tr.step t = .error () → A (.er xOther)) (hO : ∀ o, Tr.step t = .ok o → A (.ok (stepD o))) : P_oneStep 26 [t.enc] A :=
  ⟨t, ok, nps, 4, r, rfl, h.sd.tk, Nat.le_refl _, h.sd.g, show t.depth ≤ 25 by have := h.depth; omega, by decide, hE, hO⟩
theorem rd_settled {ds A} (h : P_setl ds A) (W : WX) : SP K cs W (t_settled K cs W) (frame 4 ds) A := qt_of (by simp (disch := with_unfolding_all
  obtain ⟨t, ok, nps, r, p, e, rfl, hw, hr, hl, hA, hE⟩ := h
  unfold t_settled
  refine sp_seq (sw_asgF (ef_lst0 ?_))
  refine sp_seq ?_
  walk_at "s"
  refine c_oneStep hw (fun z => hE (hr.inv.1 z).2) fun o ho => ?_
  refine sp_seq ?_
  refine sw_while (fun n G => ∃ (c : Tr) (a b : List (Str × Tr)) (o : Option (Str × Tr)) (e3 : En), OnWay ok nps r c ∧ Tr.Run c b e ∧ p = a ++ b ∧ n = b.length ∧ Tr.step c = .ok o ∧ G = [.d c.enc, .ow (ol (paperD a)), .d (stepD o), e3]) p.length ⟨t, [], p, o, _, hw, hr, rfl, rfl, ho, rfl⟩ ?_
  rintro n _ ⟨c, a, b, o, e3, hw, hr, hp, hn, ho, rfl⟩
  cases o with
  | none =>
    obtain ⟨rfl, rfl⟩ := hr.inv.2.1 ho
    show TW K cs W _ [.d c.enc, .ow (ol (paperD a)), .d .none, e3] _ _
    walk_at "s"
    refine cnd_f ?_
    refine sp_ret rfl rfl ?_
    rw [List.append_nil] at hp
    rw [← hp]
    exact hA _ rfl
  | some q =>
    obtain ⟨r1, u⟩ := q
    obtain ⟨b', rfl, hr'⟩ := hr.inv.2.2 _ _ ho
    have hu := hw.step (Tr.step_st ho)
    show TW K cs W _ [.d c.enc, .ow (ol (paperD a)), .d (.tuple [.str r1, u.enc]), e3] _ _
    walk_at "s"
    refine cnd_t ?_
    refine sw_seq ?_
    walk_at "s"
    show GW K _ _ (.tuple [.str r1, u.enc]) _
    walk_at "s"
    refine sw_seq ?_
    have hpl := congrArg List.length hp
    rw [List.length_append, List.length_cons] at hpl
    refine sw_app (i := 1) rfl (by unfold paperD; rw [List.length_map]; omega) ?_
    walk_at "s"
    refine ⟨u, rfl, hu.sd.tk, hu.nl, by have := hu.sz; omega, show u.depth ≤ 25 by have := hu.depth; omega, by decide, ?_⟩
    walk_at "s"
    refine c_oneStep hu (fun z => hE (hr'.inv.1 z).2) fun o2 ho2 => ?_
    walk_at "s"
    refine ⟨b'.length, by rw [hn, List.length_cons]; omega, u, a ++ [(r1, u)], b', o2, .d (.str r1), hu, hr', by rw [hp]; simp, rfl, ho2, ?_⟩
    unfold paperD
    rw [List.map_append]
    rfl
  ) only [↓qt_eq])
theorem c_settled {ok : Bool} {nps : List (Str × Int)} {r : Nat} {t : Tr} {A : Rp → Prop} {p : List (Str × Tr)} {e : Option Tr} (h : OnWay ok nps r t) (hr : Tr.Run t p e) (hl : p.length ≤ 1000) (hA : ∀ u, e = some u → A (.ok u.enc (paperD p))) (hE : e = none → A (.er xOther)) : P_setl [t.enc] A := ⟨t, ok, nps, r, p, e, rfl, h, hr, hl, hA, hE⟩
end


end
section
/-! Trees whose settling is refused. -/
open PySem PyProof.Rows L2 Evl
namespace Tr
noncomputable def Fails (t : Tr) : Prop := ∃ p, Run t p none
noncomputable def Ctx (c : Tr → Tr) : Prop := ∀ x, ∃ e, step (c x) = inK c (step x) e
theorem ctx_tn : Ctx tn := fun x => ⟨_, rfl⟩
theorem ctx_tm {n : Int} : Ctx (tm n) := fun x => ⟨_, rfl⟩
theorem ctx_cy {m : List (List Fr)} : Ctx (cy m) := fun x => ⟨_, rfl⟩
theorem ctx_L {w : Str} {v : Tr} : Ctx (fun x => pr w x v) := fun x => ⟨_, rfl⟩
theorem ctx_R {w : Str} {v : Tr} (h : step v = .ok none) : Ctx (pr w v) := fun x => ⟨_, show inK _ (step v) _ = _ by rw [h]; rfl⟩
theorem ctx_id : Ctx fun x => x := fun x => ⟨.ok none, by
  cases step x with
  | error u => rfl
  | ok o => cases o <;> rfl⟩
theorem Ctx.comp {c d : Tr → Tr} (h : Ctx c) (g : Ctx d) : Ctx fun x => c (d x) := fun x => by
  obtain ⟨e, h⟩ := h (d x)
  obtain ⟨e', g⟩ := g x
  refine ⟨inK c e' e, ?_⟩
  rw [h, g]
  cases step x with
  | error u => rfl
  | ok o => cases o <;> rfl
theorem Ctx.go {c : Tr → Tr} (h : Ctx c) {x u : Tr} {r : Str} (s : step x = .ok (some (r, u))) (f : Fails (c u)) : Fails (c x) := by
  obtain ⟨e, h⟩ := h x
  obtain ⟨p, f⟩ := f
  rw [s] at h
  exact ⟨_, .go h f⟩
theorem Ctx.fails {c : Tr → Tr} (h : Ctx c) {x : Tr} (f : Fails x) : Fails (c x) := qt_of (by simp (disch := with_unfolding_all
  obtain ⟨p, f⟩ := f
  generalize hn : (none : Option Tr) = n at f
  induction f with
  | fin _ => cases hn
  | @bad t s =>
    obtain ⟨e, h⟩ := h t
    rw [s] at h
    exact ⟨_, .bad h⟩
  | @go t r u p e s _ ih => exact h.go s (ih hn)
  ) only [↓qt_eq])
theorem step_tn {x : Tr} : step (tn x) = inK tn (step x) (.ok (topTn x)) := by rw [← top_tn]; rfl
theorem step_tm {n : Int} {x : Tr} : step (tm n x) = inK (tm n) (step x) (.ok (topTm n x)) := by rw [← top_tm]; rfl
theorem step_pr {w : Str} {x y : Tr} : step (pr w x y) = inK (fun u => pr w u y) (step x) (inK (pr w x) (step y) (.ok (topPr w x y))) := by rw [← top_pr]; rfl
theorem step_cy {m : List (List Fr)} {x : Tr} (h : ¬ Clash (cy m x)) : step (cy m x) = inK (cy m) (step x) (.ok (topCy m x)) := by rw [← top_cy h]; rfl
theorem clash_bad {m k : List (List Fr)} {x : Tr} (hu : ¬ Unit1 m) (hs : step (cy k x) = .ok none) (hc : stOf m ≠ k.length) : Fails (cy m (cy k x)) := by
  refine ⟨_, .bad ?_⟩
  show inK _ (step (cy k x)) (top (cy m (cy k x))) = _
  rw [hs, show inK (cy m) (Except.ok none) (top (cy m (cy k x))) = top (cy m (cy k x)) from rfl]
  unfold top ruleL
  rw [first_cons, if_neg (fun z => absurd z.1 (by decide))]
  show first _ _ = _
  rw [first_cons, if_neg (fun z => absurd z.1 (by decide))]
  show first _ _ = _
  rw [first_cons, if_neg (fun z => absurd z.1 (by decide))]
  show first _ _ = _
  rw [first_cons, if_neg (fun z => absurd z.1 (by decide))]
  show (match rStill (cy m (cy k x)) with | some x => _ | none => _) = _
  rw [show rStill (cy m (cy k x)) = none from if_neg hu]
  show first _ _ = _
  rw [first_cons, if_pos ⟨rfl, hc⟩]
theorem step_cy_nm {m : List (List Fr)} {z : Str} : step (cy m (nm z)) = inK (cy m) (step (nm z)) (.ok (topCy m (nm z))) := step_cy fun z => z
theorem step_cy_tm {m : List (List Fr)} {n : Int} {x : Tr} : step (cy m (tm n x)) = inK (cy m) (step (tm n x)) (.ok (topCy m (tm n x))) := step_cy fun z => z
theorem step_cy_pr {m : List (List Fr)} {w : Str} {x y : Tr} : step (cy m (pr w x y)) = inK (cy m) (step (pr w x y)) (.ok (topCy m (pr w x y))) := step_cy fun z => z
/-- one that is left alone beneath a map -/
structure Still1 (m : List (List Fr)) (y : Tr) : Prop where
  s : step y = .ok none
  c : ¬ Clash (cy m y)
  t : topCy m y = none
theorem Still1.step {m : List (List Fr)} {y : Tr} (h : Still1 m y) : Tr.step (cy m y) = .ok none := by rw [step_cy h.c, h.s, h.t]; rfl
inductive Bare : Tr → Prop where
  | b1 {z} : Bare (nm z)
  | b2 {z} : Bare (tn (nm z))
  | b3 {z} : Bare (tm 3 (nm z))
  | b4 {z} : Bare (pr "add" (nm z) (tm (-2) (nm z)))
  | b5 {z} : Bare (pr "lay" (nm z) (nm z))
  | b6 {z} : Bare (pr "meet" (nm z) (nm z))
theorem step_nm {z : Str} : step (nm z) = .ok none := rfl
theorem step_tnn {z : Str} : step (tn (nm z)) = .ok none := by rw [step_tn, step_nm]; rfl
theorem step_tm3 {z : Str} : step (tm 3 (nm z)) = .ok none := by rw [step_tm, step_nm]; rfl
theorem step_tm2 {z : Str} : step (tm (-2) (nm z)) = .ok none := by rw [step_tm, step_nm]; rfl
theorem Bare.step {b : Tr} (h : Bare b) : step b = .ok none := by
  cases h with
  | b1 => rfl
  | b2 => exact step_tnn
  | b3 => exact step_tm3
  | b4 => rw [step_pr, step_nm, step_tm2]; rfl
  | b5 => rw [step_pr, step_nm]; rfl
  | b6 => rw [step_pr, step_nm]; rfl
theorem fails_core {b : Tr} {M m : List (List Fr)} (h : Bare b) (hm : ¬ Unit1 m) (hM : ¬ Unit1 M) (hc : stOf M ≠ m.length) : Fails (cy M (cy m (tn (tn b)))) := qt_of (by simp (disch := with_unfolding_all
  have c0 : Ctx fun x => cy M (cy m x) := ctx_cy.comp ctx_cy
  have fin : ∀ {y : Tr}, Still1 m y → Fails (cy M (cy m y)) := fun h => clash_bad hM h.step hc
  have q1 : ∀ {z}, Still1 m (nm z) := fun {z} => ⟨rfl, fun z => z, if_neg hm⟩
  have tt : ∀ {y : Tr}, step (tn y) = .ok none → step (tn (tn y)) = .ok (some ("twice", y)) := fun h => by rw [step_tn, h]; rfl
  cases h with
  | @b1 z => exact c0.go (tt step_tnn) (fin q1)
  | @b2 z => exact (c0.comp ctx_tn).go (tt step_tnn) (fin ⟨step_tnn, fun z => z, if_neg hm⟩)
  | @b3 z =>
    have s1 : step (tn (tm 3 (nm z))) = .ok (some ("turntimes", tm 3 (tn (nm z)))) := by rw [step_tn, step_tm3]; rfl
    have s2 : step (tm 3 (tn (nm z))) = .ok none := by rw [step_tm, step_tnn]; rfl
    have s3 : step (tn (tm 3 (tn (nm z)))) = .ok (some ("turntimes", tm 3 (tn (tn (nm z))))) := by rw [step_tn, s2]; rfl
    have s5 : step (cy m (tm 3 (nm z))) = .ok (some ("carrytimes", tm 3 (cy m (nm z)))) := by
      rw [step_cy_tm, step_tm3, show topCy m (tm 3 (nm z)) = some (("carrytimes" : Str), tm 3 (cy m (nm z))) from if_neg hm]; rfl
    have s6 : step (tm 3 (cy m (nm z))) = .ok none := by rw [step_tm, q1.step]; rfl
    have s7 : step (cy M (tm 3 (cy m (nm z)))) = .ok (some ("carrytimes", tm 3 (cy M (cy m (nm z))))) := by
      rw [step_cy_tm, s6, show topCy M (tm 3 (cy m (nm z))) = some (("carrytimes" : Str), tm 3 (cy M (cy m (nm z)))) from if_neg hM]; rfl
    refine (c0.comp ctx_tn).go s1 (c0.go s3 ((c0.comp (ctx_tm (n := 3))).go (tt step_tnn) ?_))
    exact (ctx_cy (m := M)).go s5 (ctx_id.go s7 ((ctx_tm (n := 3)).fails (fin q1)))
  | @b6 z =>
    have s0 := (Bare.b6 (z := z)).step
    have s1 : step (tn (pr "meet" (nm z) (nm z))) = .ok none := by rw [step_tn, s0]; rfl
    exact c0.go (tt s1) (fin ⟨s0, fun z => z, if_neg hm⟩)
  | @b5 z =>
    have s0 := (Bare.b5 (z := z)).step
    have s1 : step (tn (pr "lay" (nm z) (nm z))) = .ok (some ("turnpair", pr "lay" (tn (nm z)) (tn (nm z)))) := by rw [step_tn, s0]; rfl
    have s2 : step (pr "lay" (tn (nm z)) (tn (nm z))) = .ok none := by rw [step_pr, step_tnn]; rfl
    have s3 : step (tn (pr "lay" (tn (nm z)) (tn (nm z)))) = .ok (some ("turnpair", pr "lay" (tn (tn (nm z))) (tn (tn (nm z))))) := by rw [step_tn, s2]; rfl
    have s6 : step (cy m (pr "lay" (nm z) (nm z))) = .ok (some ("carrypair", pr "lay" (cy m (nm z)) (cy (straightM m) (nm z)))) := by
      rw [step_cy_pr, s0, show topCy m (pr "lay" (nm z) (nm z)) = some (("carrypair" : Str), pr "lay" (cy m (nm z)) (cy (straightM m) (nm z))) from if_neg hm]; rfl
    refine (c0.comp ctx_tn).go s1 (c0.go s3 ?_)
    refine (c0.comp (ctx_L (w := "lay") (v := tn (tn (nm z))))).go (tt step_tnn) ?_
    refine (c0.comp (ctx_R (w := "lay") (v := nm z) rfl)).go (tt step_tnn) ?_
    refine (ctx_cy (m := M)).go s6 ?_
    have last : ∀ {v : Tr}, step v = .ok none → (∀ n x, v ≠ tm n x) → Fails (cy M (pr "lay" (cy m (nm z)) v)) := fun {v} hv nv => by
      have tp : topPr "lay" (cy m (nm z)) v = none := by
        cases v <;> first | rfl | exact absurd rfl (nv _ _)
      have s8 : step (pr "lay" (cy m (nm z)) v) = .ok none := by rw [step_pr, q1.step, hv, tp]; rfl
      have s9 : step (cy M (pr "lay" (cy m (nm z)) v)) = .ok (some ("carrypair", pr "lay" (cy M (cy m (nm z))) (cy (straightM M) v))) := by
        rw [step_cy_pr, s8, show topCy M (pr "lay" (cy m (nm z)) v) = some (("carrypair" : Str), pr "lay" (cy M (cy m (nm z))) (cy (straightM M) v)) from if_neg hM]; rfl
      exact ctx_id.go s9 ((ctx_L (w := "lay") (v := cy (straightM M) v)).fails (fin q1))
    by_cases u : Unit1 (straightM m)
    · have s7 : step (cy (straightM m) (nm z)) = .ok (some ("still", nm z)) := by
        rw [step_cy_nm, show topCy (straightM m) (nm z) = some (("still" : Str), nm z) from if_pos u]; rfl
      refine ((ctx_cy (m := M)).comp (ctx_R (w := "lay") (v := cy m (nm z)) q1.step)).go s7 ?_
      exact last rfl fun _ _ h => by cases h
    · exact last (Still1.step ⟨rfl, fun z => z, if_neg u⟩) fun _ _ h => by cases h
  | @b4 z =>
    have s0 := (Bare.b4 (z := z)).step
    have s1 : step (tn (pr "add" (nm z) (tm (-2) (nm z)))) = .ok (some ("turnpair", pr "add" (tn (nm z)) (tn (tm (-2) (nm z))))) := by rw [step_tn, s0]; rfl
    have t1 : step (tn (tm (-2) (nm z))) = .ok (some ("turntimes", tm (-2) (tn (nm z)))) := by rw [step_tn, step_tm2]; rfl
    have t2 : step (tm (-2) (tn (nm z))) = .ok none := by rw [step_tm, step_tnn]; rfl
    have t3 : step (tn (tm (-2) (tn (nm z)))) = .ok (some ("turntimes", tm (-2) (tn (tn (nm z))))) := by rw [step_tn, t2]; rfl
    have s2 : step (pr "add" (tn (nm z)) (tm (-2) (tn (nm z)))) = .ok none := by rw [step_pr, step_tnn, t2]; rfl
    have s3 : step (tn (pr "add" (tn (nm z)) (tm (-2) (tn (nm z))))) = .ok (some ("turnpair", pr "add" (tn (tn (nm z))) (tn (tm (-2) (tn (nm z)))))) := by rw [step_tn, s2]; rfl
    have s6 : step (cy m (pr "add" (nm z) (tm (-2) (nm z)))) = .ok (some ("carrypair", pr "add" (cy m (nm z)) (cy m (tm (-2) (nm z))))) := by
      rw [step_cy_pr, s0, show topCy m (pr "add" (nm z) (tm (-2) (nm z))) = some (("carrypair" : Str), pr "add" (cy m (nm z)) (cy m (tm (-2) (nm z)))) from if_neg hm]; rfl
    have s7 : step (cy m (tm (-2) (nm z))) = .ok (some ("carrytimes", tm (-2) (cy m (nm z)))) := by
      rw [step_cy_tm, step_tm2, show topCy m (tm (-2) (nm z)) = some (("carrytimes" : Str), tm (-2) (cy m (nm z))) from if_neg hm]; rfl
    have s8 : step (tm (-2) (cy m (nm z))) = .ok none := by rw [step_tm, q1.step]; rfl
    have s9 : step (pr "add" (cy m (nm z)) (tm (-2) (cy m (nm z)))) = .ok none := by rw [step_pr, q1.step, s8]; rfl
    have s10 : step (cy M (pr "add" (cy m (nm z)) (tm (-2) (cy m (nm z))))) = .ok (some ("carrypair", pr "add" (cy M (cy m (nm z))) (cy M (tm (-2) (cy m (nm z)))))) := by
      rw [step_cy_pr, s9, show topCy M (pr "add" (cy m (nm z)) (tm (-2) (cy m (nm z)))) = some (("carrypair" : Str), pr "add" (cy M (cy m (nm z))) (cy M (tm (-2) (cy m (nm z))))) from if_neg hM]; rfl
    refine (c0.comp ctx_tn).go s1 ?_
    refine ((c0.comp ctx_tn).comp (ctx_R (w := "add") (v := tn (nm z)) step_tnn)).go t1 (c0.go s3 ?_)
    refine (c0.comp (ctx_L (w := "add") (v := tn (tm (-2) (tn (nm z)))))).go (tt step_tnn) ?_
    refine (c0.comp (ctx_R (w := "add") (v := nm z) rfl)).go t3 ?_
    refine ((c0.comp (ctx_R (w := "add") (v := nm z) rfl)).comp (ctx_tm (n := -2))).go (tt step_tnn) ?_
    refine (ctx_cy (m := M)).go s6 ?_
    refine ((ctx_cy (m := M)).comp (ctx_R (w := "add") (v := cy m (nm z)) q1.step)).go s7 ?_
    exact ctx_id.go s10 ((ctx_L (w := "add") (v := cy M (tm (-2) (cy m (nm z))))).fails (fin q1))
  ) only [↓qt_eq])
/-- a map with something behind it that no still map has -/
structure Lean (gl st : Nat) (m : List (List Fr)) : Prop where
  mp : Mp 10 gl st m
  g : gl = 1 ∨ gl = 2
  s : st = 1 ∨ st = 2
  l : ∀ r ∈ m, r.getLast? = some (5, 1)
theorem Lean.nu {gl st : Nat} {m : List (List Fr)} (h : Lean gl st m) : ¬ Unit1 m := by
  rintro (rfl | rfl)
  · have := h.l [(1, 1), (0, 1)] (by decide); exact absurd this (by decide)
  · have := h.l [(1, 1), (0, 1), (0, 1)] (by decide); exact absurd this (by decide)
inductive Unlike : Tr → Prop where
  | mk {b M m : _} {gl st gl' st' : Nat} {t : Tr} : Bare b → Lean gl st m → Lean gl' st' M → st' ≠ gl → b.Ns ["a", "b", "c"] →
    (t = cy M (cy m (tn (tn b))) ∨ t = tn (cy M (cy m (tn (tn b)))) ∨ t = tm 1 (cy M (cy m (tn (tn b)))) ∨ t = pr "add" (tm 1 b) (cy M (cy m (tn (tn b)))) ∨ t = pr "meet" (cy M (cy m (tn (tn b)))) b) → Unlike t
theorem Unlike.fails {t : Tr} (h : Unlike t) : Fails t := qt_of (by simp (disch := with_unfolding_all
  obtain ⟨hb, h1, h2, hc, _, e⟩ := h
  have F := fails_core hb h1.nu h2.nu (by rw [stOf_mp h2.mp h2.g, h1.mp.len]; exact hc)
  rcases e with rfl | rfl | rfl | rfl | rfl
  · exact F
  · exact ctx_tn.fails F
  · exact ctx_tm.fails F
  · have s1 : ∀ {b : Tr}, step b = .ok none → step (tm 1 b) = .ok (some ("once", b)) := fun {b} h => by rw [step_tm, h, show topTm 1 b = some (("once" : Str), b) from if_pos rfl]; rfl
    exact (ctx_L (w := "add")).go (s1 hb.step) ((ctx_R (w := "add") hb.step).fails F)
  · exact (ctx_L (w := "meet")).fails F
  ) only [↓qt_eq])
noncomputable abbrev abcR : List (Str × Int) := [("a", 2), ("b", 1), ("c", 2)]
theorem abc_len {z : Str} (h : z ∈ (["a", "b", "c"] : List Str)) : (TL.tl z).length ≤ 1000 := by
  simp only [List.mem_cons, List.not_mem_nil, or_false] at h
  rcases h with rfl | rfl | rfl <;> (rw [TL.tl_ofString]; decide)
structure BareOk (b : Tr) : Prop where
  g : ∀ k r, Gw false abcR k r b
  n : Nw 1 b
  d : dz b + nT b ≤ 2
  s : b.sz ≤ 5
  p : b.bP ≤ 2
  l : b.Nl
  t : nT b ≤ 1
  z : dz b ≤ 1
theorem Bare.ok {b : Tr} (h : Bare b) (hn : b.Ns ["a", "b", "c"]) : BareOk b := qt_of (by simp (disch := with_unfolding_all
  have key : ∀ {z : Str}, z ∈ (["a", "b", "c"] : List Str) → ∀ k r, Gw false abcR k r (nm z) := fun {z} hz k r => ⟨hz, fun z => by cases z⟩
  cases h with
  | @b1 z =>
    have hn : z ∈ (["a", "b", "c"] : List Str) := hn
    exact ⟨key hn, trivial, show 0 + 0 ≤ 2 by decide, show 1 ≤ 5 by decide, show 0 ≤ 2 by decide, abc_len hn, show 0 ≤ 1 by decide, show 0 ≤ 1 by decide⟩
  | @b2 z =>
    have hn : z ∈ (["a", "b", "c"] : List Str) := hn
    exact ⟨key hn, trivial, show 0 + 1 + 0 ≤ 2 by decide, show 2 * 1 ≤ 5 by decide, show 0 ≤ 2 by decide, abc_len hn, show 0 ≤ 1 by decide, show 0 + 1 ≤ 1 by decide⟩
  | @b3 z =>
    have hn : z ∈ (["a", "b", "c"] : List Str) := hn
    exact ⟨key hn, ⟨1, by decide, by decide, trivial⟩, show 0 + (0 + 1) ≤ 2 by decide, show 1 + 1 ≤ 5 by decide, show 0 ≤ 2 by decide, abc_len hn, show 0 + 1 ≤ 1 by decide, show 0 ≤ 1 by decide⟩
  | @b4 z =>
    have hn : z ∈ (["a", "b", "c"] : List Str) := hn.1
    exact ⟨fun k r => ⟨by decide, key hn k r, key hn k r⟩, ⟨0, by decide, trivial, 1, by decide, by decide, trivial⟩, show max 0 0 + 1 + (0 + (0 + 1)) ≤ 2 by decide, show 1 + (1 + 1) + 2 ≤ 5 by decide, (show 0 + 0 + (if Bnd "add" then 0 + (0 + 1) else 0) ≤ 2 by split <;> decide), ⟨abc_len hn, abc_len hn⟩, show 0 + (0 + 1) ≤ 1 by decide, show max 0 0 + 1 ≤ 1 by decide⟩
  | @b5 z =>
    have hn : z ∈ (["a", "b", "c"] : List Str) := hn.1
    exact ⟨fun k r => ⟨by decide, key hn k r, key hn k r⟩, ⟨0, by decide, trivial, trivial⟩, show max 0 0 + 1 + (0 + 0) ≤ 2 by decide, show 1 + 1 + 2 ≤ 5 by decide, (show 0 + 0 + (if Bnd "lay" then 0 + 0 else 0) ≤ 2 by split <;> decide), ⟨abc_len hn, abc_len hn⟩, show 0 + 0 ≤ 1 by decide, show max 0 0 + 1 ≤ 1 by decide⟩
  | @b6 z =>
    have hn : z ∈ (["a", "b", "c"] : List Str) := hn.1
    exact ⟨fun k r => ⟨by decide, key hn k r, key hn k r⟩, ⟨0, by decide, trivial, trivial⟩, show max 0 0 + 1 + (0 + 0) ≤ 2 by decide, show 1 + 1 + 2 ≤ 5 by decide, (show 0 + 0 + (if Bnd "meet" then 0 + 0 else 0) ≤ 2 by split <;> decide), ⟨abc_len hn, abc_len hn⟩, show 0 + 0 ≤ 1 by decide, show max 0 0 + 1 ≤ 1 by decide⟩
  ) only [↓qt_eq])
end Tr
theorem Tr.Unlike.way {t : Tr} (h : Tr.Unlike t) : OnWay false Tr.abcR 1 t ∧ t.sz + t.bP ≤ 1000 := qt_of (by simp (disch := with_unfolding_all
  obtain ⟨hb, h1, h2, hc, hn, e⟩ := h
  rename_i b M m gl st gl' st'
  have B := hb.ok hn
  have G0 : ∀ k r, 2 ≤ k → Tr.Gw false Tr.abcR k r (.cy M (.cy m (.tn (.tn b)))) := fun k r hk =>
    ⟨1, gl', st', 1, by decide, by omega, h2.mp, h2.g, h2.s, (fun z => by cases z), 1, gl, st, 1, by decide, by omega, h1.mp, h1.g, h1.s, (fun z => by cases z), B.g _ _⟩
  have N0 : Tr.Nw 1 (.cy M (.cy m (.tn (.tn b)))) := B.n
  have D0 : Tr.dz (.cy M (.cy m (.tn (.tn b)))) = Tr.dz b + 4 := rfl
  have T0 : Tr.nT (.cy M (.cy m (.tn (.tn b)))) = Tr.nT b := rfl
  have S0 : Tr.sz (.cy M (.cy m (.tn (.tn b)))) = 2 * (2 * (2 * (2 * Tr.sz b)) + 1) + 1 := rfl
  have P0 : Tr.bP (.cy M (.cy m (.tn (.tn b)))) = Tr.bP b := rfl
  have L0 : Tr.Nl (.cy M (.cy m (.tn (.tn b)))) := B.l
  generalize Tr.cy M (.cy m (.tn (.tn b))) = x at *
  have := B.d
  have := B.s
  have := B.p
  have := B.t
  have := B.z
  rcases e with rfl | rfl | rfl | rfl | rfl
  · exact ⟨⟨⟨G0 _ _ (by decide), N0.mono (by decide), by omega⟩, L0, by omega⟩, by omega⟩
  · have d : Tr.dz (.tn x) = Tr.dz x + 1 := rfl
    have tt : Tr.nT (.tn x) = Tr.nT x := rfl
    have s : Tr.sz (.tn x) = 2 * Tr.sz x := rfl
    have p : Tr.bP (.tn x) = Tr.bP x := rfl
    exact ⟨⟨⟨G0 _ _ (by decide), Tr.Nw.mono (t := .tn x) (s := 1) (by decide) N0, by omega⟩, L0, by omega⟩, by omega⟩
  · have d : Tr.dz (.tm 1 x) = Tr.dz x := rfl
    have tt : Tr.nT (.tm 1 x) = Tr.nT x + 1 := rfl
    have s : Tr.sz (.tm 1 x) = Tr.sz x + 1 := rfl
    have p : Tr.bP (.tm 1 x) = Tr.bP x := rfl
    exact ⟨⟨⟨G0 _ _ (by decide), ⟨1, by decide, by decide, N0.mono (by decide)⟩, by omega⟩, L0, by omega⟩, by omega⟩
  · have d : Tr.dz (.pr "add" (.tm 1 b) x) = max (Tr.dz b) (Tr.dz x) + 1 := rfl
    have tt : Tr.nT (.pr "add" (.tm 1 b) x) = Tr.nT b + 1 + Tr.nT x := rfl
    have s : Tr.sz (.pr "add" (.tm 1 b) x) = Tr.sz b + 1 + Tr.sz x + 2 := rfl
    have p : Tr.bP (.pr "add" (.tm 1 b) x) = Tr.bP b + Tr.bP x + 0 := by
      show Tr.bP b + Tr.bP x + (if Tr.Bnd "add" then _ else 0) = _
      rw [if_neg (by decide)]
    exact ⟨⟨⟨⟨by decide, B.g _ _, G0 _ _ (by decide)⟩, ⟨2, by decide, ⟨1, by decide, by decide, B.n⟩, N0.mono (by decide)⟩, by omega⟩, ⟨B.l, L0⟩, by omega⟩, by omega⟩
  · have d : Tr.dz (.pr "meet" x b) = max (Tr.dz x) (Tr.dz b) + 1 := rfl
    have tt : Tr.nT (.pr "meet" x b) = Tr.nT x + Tr.nT b := rfl
    have s : Tr.sz (.pr "meet" x b) = Tr.sz x + Tr.sz b + 2 := rfl
    have p : Tr.bP (.pr "meet" x b) = Tr.bP x + Tr.bP b + (Tr.nT x + Tr.nT b) := by
      show Tr.bP x + Tr.bP b + (if Tr.Bnd "meet" then _ else 0) = _
      rw [if_pos (by decide)]
    exact ⟨⟨⟨⟨by decide, G0 _ _ (by decide), B.g _ _⟩, ⟨1, by decide, N0, B.n.mono (by decide)⟩, by omega⟩, ⟨L0, B.l⟩, by omega⟩, by omega⟩
  ) only [↓qt_eq])


end
section
/-! Trees of unlike rooms, as drawn; what is refused. -/
open PySem PyProof.Rows L2 Evl

section
variable {K : Fg} {cs : Cs} {gs : Gs} {φ : PyData → Prop} {A : Rs → Prop} {ε : Xw → Prop} {w : World}
noncomputable def P_llean : Pr := fun ds A => ∃ st gl : Nat, ds = [.int st, .int gl] ∧ (st = 1 ∨ st = 2) ∧ (gl = 1 ∨ gl = 2) ∧ ∀ m, Tr.Lean gl st m → A (.ok (mp m))
noncomputable def t__law_lean_map (K : Fg) : TS := (tRet (tCB (rTupQ K) (tCons (tLc (iRng1 (tCons (tVar 2) tNil)) (gName 3) tYes (tCB (rTupQ K) (tCons (tOp (rCatL K) (tLc (iRng1 (tCons (tVar 1) tNil)) (gName 4) tYes (tCall (spB K P_entry) [] E0 (tCons (tVar 0) tNil)) [4]) (tLst (tCons (tTup (tCons (tC (V.int 5)) (tCons (tC (V.int 1)) tNil))) tNil))) tNil)) [3]) tNil)))
-- slots of _law_lean_map: 0 _law_bag_here, 1 _law_start, 2 _law_goal, 3 _law_row, 4 _law_at
theorem ln__law_lean_map : ∀ ds A, P_llean ds A → ds.length + 1 = 3 := fun ds A h => by obtain ⟨_, _, rfl, _⟩ := h; rfl
theorem rd__law_lean_map {ds A} (h : P_llean ds A) : SW K cs W0 (t__law_lean_map K) (.bag :: frame 4 ds) (rts0 A) := qt_of (by simp (disch := with_unfolding_all
  obtain ⟨st, gl, rfl, h1, h2, h⟩ := h
  unfold t__law_lean_map
  walk_at "w"
  rw [show ((gl : Int)).toNat = gl from Int.toNat_natCast gl, rng_map]
  refine lcD frs (fun r => Gds 10 r ∧ r.length = st + 1 ∧ r.getLast? = some (5, 1)) (by rw [List.length_range]; omega) (unk1 rfl) (fun y my => ?_) ?_
  · refine gc_name (by simp) ?_
    walk_at "w"
    rw [show ((st : Int)).toNat = st from Int.toNat_natCast st, rng_map]
    refine lcD fr (Gd 10) (by rw [List.length_range]; omega) (unk1 rfl) (fun z mz => ?_) ?_
    · refine gc_name (by simp) ?_
      walk_at "w"
      exact ⟨_, rfl, by assumption⟩
    · intro ps hl hg
      walk_at "w"
      rw [List.length_range] at hl
      have g5 : Gd 10 ((5, 1) : Fr) := ⟨⟨by unfold Bd; decide, by unfold Bd; decide⟩, by decide, by decide⟩
      refine ⟨by rw [List.length_map, hl, List.length_singleton]; omega, ?_⟩
      walk_at "w"
      refine ⟨ps ++ [(5, 1)], by rw [show frs (ps ++ [(5, 1)]) = .tuple ((ps ++ [(5, 1)]).map fr) from rfl, List.map_append]; rfl, fun x hx => ?_, by simp [hl], by simp⟩
      rcases List.mem_append.mp hx with hx | hx
      · exact hg x hx
      · rw [List.mem_singleton.mp hx]; exact g5
  · intro rs hl hr
    walk_at "w"
    refine h rs ⟨⟨by rw [hl, List.length_range], fun r mr => ⟨(hr r mr).2.1, (hr r mr).1⟩⟩, h2, h1, fun r mr => (hr r mr).2.2⟩
  ) only [↓qt_eq])
noncomputable def P_lbare : Pr := fun ds A => ds = [] ∧ ∀ b, Tr.Bare b → b.Ns ["a", "b", "c"] → A (.ok b.enc)
noncomputable def t__law_bare_tree (K : Fg) : TS := (tSeq (tAsg (tTup (tCons (tC (V.str "name")) (tCons (tOp (rIx K) (tLst (tCons (tC (V.str "a")) (tCons (tC (V.str "b")) (tCons (tC (V.str "c")) tNil)))) (tCall (spB K P_pull) [] E0 (tCons (tVar 0) (tCons (tC (V.int 3)) tNil)))) tNil))) (gName 1))
  (tSeq (tAsg (tLst (tCons (tVar 1) (tCons (tTup (tCons (tC (V.str "turn")) (tCons (tVar 1) tNil))) (tCons (tTup (tCons (tC (V.str "times")) (tCons (tC (V.int 3)) (tCons (tVar 1) tNil)))) (tCons (tTup (tCons (tC (V.str "add")) (tCons (tVar 1) (tCons (tTup (tCons (tC (V.str "times")) (tCons (tUn rNegI (tC (V.int 2))) (tCons (tVar 1) tNil)))) tNil)))) tNil))))) (gName 2))
  (tSeq (tDrop (tBM K "list" rExtend (tVar 2) (tCons (tLst (tCons (tTup (tCons (tC (V.str "lay")) (tCons (tVar 1) (tCons (tVar 1) tNil)))) (tCons (tTup (tCons (tC (V.str "meet")) (tCons (tVar 1) (tCons (tVar 1) tNil)))) tNil))) tNil)))
  (tRet (tOp (rIx K) (tVar 2) (tCall (spB K P_pull) [] E0 (tCons (tVar 0) (tCons (tC (V.int 6)) tNil))))))))
-- slots of _law_bare_tree: 0 _law_bag_here, 1 _law_one, 2 _law_menu
theorem ln__law_bare_tree : ∀ ds A, P_lbare ds A → ds.length + 1 = 1 := fun ds A h => by obtain ⟨rfl, _⟩ := h; rfl
theorem rd__law_bare_tree {ds A} (h : P_lbare ds A) : SW K cs W0 (t__law_bare_tree K) (.bag :: frame 2 ds) (rts0 A) := qt_of (by simp (disch := with_unfolding_all
  obtain ⟨rfl, h⟩ := h
  unfold t__law_bare_tree
  refine sw_seq ?_
  walk_at "s"
  rename_i v v0 v1
  obtain ⟨z, mz, ez⟩ := menu_at (xs := [PyData.str "a", PyData.str "b", PyData.str "c"]) v0 v1
  refine ⟨z, ez, ?_⟩
  obtain ⟨s, rfl, ms⟩ : ∃ s, z = .str s ∧ s ∈ (["a", "b", "c"] : List Str) := by
    simp only [List.mem_cons, List.not_mem_nil, or_false] at mz
    rcases mz with rfl | rfl | rfl <;> exact ⟨_, rfl, by decide⟩
  walk_at "s"
  refine sw_seq (sw_asgF (ef_lst ?_))
  walk_at "s"
  refine ⟨by simp, ?_⟩
  walk_at "s"
  refine sw_seq (sw_ext (i := 2) rfl (ef_lst2 ?_))
  walk_at "s"
  refine ⟨by simp, ?_⟩
  walk_at "s"
  rename_i k k0 k1
  obtain ⟨z, mz, ez⟩ := menu_at (xs := [(Tr.nm s).enc, (Tr.tn (.nm s)).enc, (Tr.tm 3 (.nm s)).enc, (Tr.pr "add" (.nm s) (.tm (-2) (.nm s))).enc, (Tr.pr "lay" (.nm s) (.nm s)).enc, (Tr.pr "meet" (.nm s) (.nm s)).enc]) k0 k1
  refine ⟨z, ez, ?_⟩
  simp only [List.mem_cons, List.not_mem_nil, or_false] at mz
  rcases mz with rfl | rfl | rfl | rfl | rfl | rfl
  · exact h _ .b1 ms
  · exact h _ .b2 ms
  · exact h _ .b3 ms
  · exact h _ .b4 ⟨ms, ms⟩
  · exact h _ .b5 ⟨ms, ms⟩
  · exact h _ .b6 ⟨ms, ms⟩
  ) only [↓qt_eq])
noncomputable def P_lunlike : Pr := fun ds A => ds = [] ∧ ∀ t, Tr.Unlike t → A (.ok t.enc)
noncomputable def t__law_unlike_rooms (K : Fg) : TS := (tSeq (tAsg (tOp rAddI (tC (V.int 1)) (tCall (spB K P_pull) [] E0 (tCons (tVar 0) (tCons (tC (V.int 2)) tNil)))) (gName 1))
  (tSeq (tAsg (tOp rAddI (tC (V.int 1)) (tCall (spB K P_pull) [] E0 (tCons (tVar 0) (tCons (tC (V.int 2)) tNil)))) (gName 2))
  (tSeq (tAsg (tCall (spWB K P_lbare) [] E0 (tCons (tVar 0) tNil)) (gName 3))
  (tSeq (tAsg (tTup (tCons (tC (V.str "carry")) (tCons (tCall (spWB K P_llean) [] E0 (tCons (tVar 0) (tCons (tVar 1) (tCons (tVar 2) tNil)))) (tCons (tTup (tCons (tC (V.str "turn")) (tCons (tTup (tCons (tC (V.str "turn")) (tCons (tVar 3) tNil))) tNil))) tNil)))) (gName 4))
  (tSeq (tAsg (tTup (tCons (tC (V.str "carry")) (tCons (tCall (spWB K P_llean) [] E0 (tCons (tVar 0) (tCons (tOp rSubI (tC (V.int 3)) (tVar 2)) (tCons (tOp rAddI (tC (V.int 1)) (tCall (spB K P_pull) [] E0 (tCons (tVar 0) (tCons (tC (V.int 2)) tNil)))) tNil)))) (tCons (tVar 4) tNil)))) (gName 5))
  (tSeq (tAsg (tLst (tCons (tVar 5) (tCons (tTup (tCons (tC (V.str "turn")) (tCons (tVar 5) tNil))) (tCons (tTup (tCons (tC (V.str "times")) (tCons (tC (V.int 1)) (tCons (tVar 5) tNil)))) (tCons (tTup (tCons (tC (V.str "add")) (tCons (tTup (tCons (tC (V.str "times")) (tCons (tC (V.int 1)) (tCons (tVar 3) tNil)))) (tCons (tVar 5) tNil)))) (tCons (tTup (tCons (tC (V.str "meet")) (tCons (tVar 5) (tCons (tVar 3) tNil)))) tNil)))))) (gName 6))
  (tRet (tOp (rIx K) (tVar 6) (tCall (spB K P_pull) [] E0 (tCons (tVar 0) (tCons (tC (V.int 5)) tNil)))))))))))
-- slots of _law_unlike_rooms: 0 _law_bag_here, 1 _law_start, 2 _law_goal, 3 _law_tree, 4 _law_inner_here, 5 _law_outer, 6 _law_around
theorem ln__law_unlike_rooms : ∀ ds A, P_lunlike ds A → ds.length + 1 = 1 := fun ds A h => by obtain ⟨rfl, _⟩ := h; rfl
theorem rd__law_unlike_rooms {ds A} (h : P_lunlike ds A) : SW K cs W0 (t__law_unlike_rooms K) (.bag :: frame 6 ds) (rts0 A) := qt_of (by simp (disch := with_unfolding_all
  obtain ⟨rfl, h⟩ := h
  unfold t__law_unlike_rooms
  walk_at "w"
  rename_i v v0 v1 g g0 g1
  obtain ⟨v, rfl⟩ := Int.eq_ofNat_of_zero_le v0
  obtain ⟨g, rfl⟩ := Int.eq_ofNat_of_zero_le g0
  have ev : (1 : Int) + (v : Int) = ((v + 1 : Nat) : Int) := by omega
  have eg : (1 : Int) + (g : Int) = ((g + 1 : Nat) : Int) := by omega
  rw [ev, eg]
  refine ⟨rfl, fun b hb hn => ?_⟩
  walk_at "w"
  refine ⟨v + 1, g + 1, rfl, by omega, by omega, fun m hm => ?_⟩
  walk_at "w"
  rename_i u u0 u1
  obtain ⟨u, rfl⟩ := Int.eq_ofNat_of_zero_le u0
  have e3 : (3 : Int) - ((g + 1 : Nat) : Int) = ((2 - g : Nat) : Int) := by omega
  have eu : (1 : Int) + (u : Int) = ((u + 1 : Nat) : Int) := by omega
  rw [e3, eu]
  refine ⟨2 - g, u + 1, rfl, by omega, by omega, fun M hM => ?_⟩
  walk_at "w"
  refine ⟨by simp, ?_⟩
  walk_at "w"
  rename_i k k0 k1
  obtain ⟨z, mz, ez⟩ := menu_at (xs := [(Tr.cy M (.cy m (.tn (.tn b)))).enc, (Tr.tn (.cy M (.cy m (.tn (.tn b))))).enc, (Tr.tm 1 (.cy M (.cy m (.tn (.tn b))))).enc, (Tr.pr "add" (.tm 1 b) (.cy M (.cy m (.tn (.tn b))))).enc, (Tr.pr "meet" (.cy M (.cy m (.tn (.tn b)))) b).enc]) k0 k1
  refine ⟨z, ez, ?_⟩
  have U := fun {t} => Tr.Unlike.mk (t := t) hb hm hM (by omega) hn
  simp only [List.mem_cons, List.not_mem_nil, or_false] at mz
  rcases mz with rfl | rfl | rfl | rfl | rfl
  · exact h _ (U (.inl rfl))
  · exact h _ (U (.inr (.inl rfl)))
  · exact h _ (U (.inr (.inr (.inl rfl))))
  · exact h _ (U (.inr (.inr (.inr (.inl rfl)))))
  · exact h _ (U (.inr (.inr (.inr (.inr rfl)))))
  ) only [↓qt_eq])
theorem Tr.Run.same {t : Tr} {p q : List (Str × Tr)} {e f : Option Tr} (h : Tr.Run t p e) : Tr.Run t q f → p = q ∧ e = f := qt_of (by simp (disch := with_unfolding_all
  induction h generalizing q f with
  | fin s =>
    intro g
    obtain ⟨rfl, rfl⟩ := g.inv.2.1 s
    exact ⟨rfl, rfl⟩
  | bad s =>
    intro g
    obtain ⟨rfl, rfl⟩ := g.inv.1 s
    exact ⟨rfl, rfl⟩
  | go s _ ih =>
    intro g
    obtain ⟨q', rfl, g'⟩ := g.inv.2.2 _ _ s
    obtain ⟨rfl, rfl⟩ := ih g'
    exact ⟨rfl, rfl⟩
  ) only [↓qt_eq])
noncomputable def P_lrefused : Pr := fun ds A => ∃ (t : Tr) (ok : Bool) (nps : List (Str × Int)) (r : Nat), ds = [t.enc] ∧ OnWay ok nps r t ∧ t.sz + t.bP ≤ 1000 ∧ t.Fails ∧ A (.ok (.str "OtherRoom"))
noncomputable def t__law_refused (K : Fg) (cs : Cs) : TS := (tSeq (tTryAs K (.ref (cs "OtherRoom")) 1 (fun W => (tDrop (tCallSD (spPL K cs P_setl) [] (WE W) (tCons (tVar 0) tNil)))) (fun a cls d => (tRet (tXf a cls d (cs "OtherRoom") "word" (tVar 1)))))
  (tRet (tC (V.str ""))))
-- slots of _law_refused: 0 _law_tree, 1 why
theorem ln__law_refused : ∀ ds A, P_lrefused ds A → ds.length = 1 := fun ds A h => by obtain ⟨_, _, _, _, rfl, _⟩ := h; rfl
theorem rd__law_refused {ds A} (e1 : PySem.W.exmOne K (.ref (cs "OtherRoom")) (.ref (cs "OtherRoom")) = some true) (h : P_lrefused ds A) : SW K cs W0 (t__law_refused K cs) (frame 2 ds) (rts0 A) := qt_of (by simp (disch := with_unfolding_all
  obtain ⟨t, ok, nps, r, rfl, hw, hs, hf, h⟩ := h
  unfold t__law_refused
  obtain ⟨p, hr⟩ := hf
  obtain ⟨p', e', hr', hl⟩ := Tr.run_ex _ t (Nat.le_refl _)
  obtain ⟨rfl, rfl⟩ := hr.same hr'
  refine sw_seq (sw_try fun W' => ?_)
  refine sw_dropX (ew_callPL ?_)
  walk_at "s"
  refine c_settled hw hr (by omega) (fun u z => by cases z) fun _ => ?_
  refine ⟨e1, fun a d => ?_⟩
  walk_at "w"
  refine ew_xfS rfl rfl ?_
  exact h
  ) only [↓qt_eq])
end


end
section
/-! Likeness of still deeper data. -/
open PySem PyProof.Rows L2 Evl
noncomputable abbrev t_like34 := @t__law_like
theorem ln_like34 {n : Nat} : ∀ ds r, P_like (n + 1) ds r → ds.length = 2 := ln__law_like
theorem rd_like34 {K : Fg} {n : Nat} {ds r} (h : P_like (n + 1) ds r) (b : Bag) : SG K (t_like34 K n) (U.frame 3 ds) b (.rt r b) := rd__law_like h b
theorem c_like34 {φ : PyData → Prop} {x y : PyData} (e : x = y) (hy : okD 33 y = true) (h : φ (.bool true)) : ∃ r, P_like 34 [x, y] r ∧ φ r := by
  subst e
  exact ⟨_, ⟨x, rfl, hy, rfl⟩, h⟩
theorem okD_str0 (n : Nat) (s : Str) : okD n (.str s) = true := by cases n <;> rfl
theorem okD_int0 (n : Nat) (i : Int) : okD n (.int i) = true := by cases n <;> rfl
theorem okD_mpW {b gl st n : Nat} {m : List (List Fr)} (h : Mp b gl st m) (g : gl ≤ 2) (s : st ≤ 2) : okD (n + 3) (mp m) = true := okD_tup (by rw [List.length_map, h.len]; omega) fun x hx => by
  obtain ⟨r, hr, rfl⟩ := List.mem_map.mp hx
  exact okD_frs (by rw [(h.row r hr).1]; omega)
theorem okD_trW : ∀ {t : Tr} {n : Nat}, t.Tk → okD (t.depth + n + 4) t.enc = true
  | .nm s, n, _ => okD_tup (by simp) fun x hx => by
    simp only [List.mem_cons, List.not_mem_nil, or_false] at hx
    rcases hx with rfl | rfl <;> exact okD_str0 _ _
  | .tm i t, n, h => by
    show okD (t.depth + 1 + n + 4) _ = true
    rw [show t.depth + 1 + n + 4 = (t.depth + n + 4) + 1 by omega]
    refine okD_tup (by simp) fun x hx => ?_
    simp only [List.mem_cons, List.not_mem_nil, or_false] at hx
    rcases hx with rfl | rfl | rfl
    · exact okD_str0 _ _
    · exact okD_int0 _ _
    · exact okD_trW h.2
  | .tn t, n, h => by
    show okD (t.depth + 1 + n + 4) _ = true
    rw [show t.depth + 1 + n + 4 = (t.depth + n + 4) + 1 by omega]
    refine okD_tup (by simp) fun x hx => ?_
    simp only [List.mem_cons, List.not_mem_nil, or_false] at hx
    rcases hx with rfl | rfl
    · exact okD_str0 _ _
    · exact okD_trW (t := t) h
  | .cy m t, n, h => by
    obtain ⟨⟨b, gl, st, hb, hm, g, s⟩, h⟩ := h
    show okD (t.depth + 1 + n + 4) _ = true
    rw [show t.depth + 1 + n + 4 = (t.depth + n + 4) + 1 by omega]
    refine okD_tup (by simp) fun x hx => ?_
    simp only [List.mem_cons, List.not_mem_nil, or_false] at hx
    rcases hx with rfl | rfl | rfl
    · exact okD_str0 _ _
    · exact okD_mpW (n := t.depth + n + 1) hm (by omega) (by omega)
    · exact okD_trW h
  | .pr w t u, n, h => by
    show okD (max t.depth u.depth + 1 + n + 4) _ = true
    rw [show max t.depth u.depth + 1 + n + 4 = (max t.depth u.depth + n + 4) + 1 by omega]
    refine okD_tup (by simp) fun x hx => ?_
    simp only [List.mem_cons, List.not_mem_nil, or_false] at hx
    rcases hx with rfl | rfl | rfl
    · exact okD_str0 _ _
    · rw [show max t.depth u.depth + n + 4 = t.depth + (max t.depth u.depth - t.depth + n) + 4 by omega]; exact okD_trW h.2.1
    · rw [show max t.depth u.depth + n + 4 = u.depth + (max t.depth u.depth - u.depth + n) + 4 by omega]; exact okD_trW h.2.2
theorem okD_way {ok : Bool} {nps : List (Str × Int)} {r n : Nat} {t : Tr} (h : OnWay ok nps r t) (hn : 28 ≤ n) : okD n t.enc = true := by
  have := h.depth
  rw [show n = t.depth + (n - 4 - t.depth) + 4 by omega]
  exact okD_trW h.sd.tk
theorem okD_paper {n : Nat} {p : List (Str × Tr)} (h : p.length ≤ 1000000) : okD (n + 2) (.list (paperD p)) = true := okD_list (by unfold paperD; rw [List.length_map]; exact h) fun x hx => by
  obtain ⟨q, _, rfl⟩ := List.mem_map.mp hx
  exact okD_tup (by simp) fun y hy => by
    simp only [List.mem_cons, List.not_mem_nil, or_false] at hy
    rcases hy with rfl | rfl <;> exact okD_str0 _ _
theorem okD_end {ok : Bool} {nps : List (Str × Int)} {r n : Nat} {t : Tr} (h : OnWay ok nps r t) (hn : 28 ≤ n) : okD (n + 1) (.tuple [t.enc, .list []]) = true := okD_tup (by simp) fun y hy => by
  simp only [List.mem_cons, List.not_mem_nil, or_false] at hy
  rcases hy with rfl | rfl
  · exact okD_way h hn
  · obtain ⟨m, rfl⟩ : ∃ m, n = m + 1 := ⟨n - 1, by omega⟩
    exact okD_list (by simp) fun x hx => by cases hx
theorem ln_twice : ∀ ds A, P_rule Tr.rTwice ds A → ds.length = 1 := ln_rule
theorem ln_once : ∀ ds A, P_rule Tr.rOnce ds A → ds.length = 1 := ln_rule
theorem ln_product : ∀ ds A, P_rule Tr.rProduct ds A → ds.length = 1 := ln_rule
theorem ln_still_rule : ∀ ds A, P_rule Tr.rStill ds A → ds.length = 1 := ln_rule
theorem ln_turncarry : ∀ ds A, P_rule Tr.rTurncarry ds A → ds.length = 1 := ln_rule
theorem ln_turntimes : ∀ ds A, P_rule Tr.rTurntimes ds A → ds.length = 1 := ln_rule
theorem ln_carrytimes : ∀ ds A, P_rule Tr.rCarrytimes ds A → ds.length = 1 := ln_rule
theorem ln_turnpair : ∀ ds A, P_rule Tr.rTurnpair ds A → ds.length = 1 := ln_rule
theorem ln_carrypair : ∀ ds A, P_rule Tr.rCarrypair ds A → ds.length = 1 := ln_rule
theorem ln_left : ∀ ds A, P_rule Tr.rLeft ds A → ds.length = 1 := ln_rule
theorem ln_right : ∀ ds A, P_rule Tr.rRight ds A → ds.length = 1 := ln_rule


end
end
namespace Law
local macro_rules | `(tactic| walk_at "sd") => `(tactic| first | with_reducible assumption | omega | rfl | decide | assumption | exact Gd.mono (by assumption) (by first | decide | omega) | (simp only [List.length_map, List.length_append, List.length_cons, List.length_nil]; omega) | (simp; done))
local macro_rules | `(tactic| walk_at "ca") => `(tactic| first
  | ((with_reducible apply c_pull); (case h0 => walk_at "sd"); (case h1 => walk_at "sd"); intro _ _ _)
  | ((with_reducible apply c_entry); intro _ _)
  | ((with_reducible apply c_plus); (case hp => walk_at "sd"); (case hq => walk_at "sd"); (case hl => walk_at "sd"); intro _)
  | ((with_reducible apply c_times); (case hp => walk_at "sd"); (case hq => walk_at "sd"); (case hl => walk_at "sd"); intro _)
  | ((with_reducible apply c_ladd); (case hp => walk_at "sd"); (case hq => walk_at "sd"); (case hl => walk_at "sd"); intro _)
  | ((with_reducible apply c_lsub); (case hp => walk_at "sd"); (case hq => walk_at "sd"); (case hl => walk_at "sd"); intro _)
  | ((with_reducible apply c_lmul); (case hp => walk_at "sd"); (case hq => walk_at "sd"); (case hl => walk_at "sd"); intro _)
  | ((with_reducible apply c_map); (case h1 => walk_at "sd"); (case h2 => walk_at "sd"); (case l1 => walk_at "sd"); (case l2 => walk_at "sd"); intro _ _))
local macro_rules | `(tactic| walk_at "keo") => `(tactic| first
  | ((with_reducible apply ew_ixO); (case hi => rfl))
  | with_reducible refine ew_add ?_
  | with_reducible refine ew_sub ?_
  | with_reducible refine ew_mul ?_
  | with_reducible refine ew_lt ?_
  | with_reducible refine ew_gt ?_
  | with_reducible refine ew_eq ?_
  | with_reducible refine ew_ne ?_
  | with_reducible refine ew_eqD ?_
  | with_reducible refine ew_isNo ?_
  | with_reducible refine ew_noNo ?_
  | with_reducible refine ew_catL ?_
  | with_reducible refine ew_catA ?_
  | with_reducible refine ew_inS ?_
  | with_reducible refine ew_addStr ?_
  | with_reducible refine ew_ix ?_)
local macro_rules | `(tactic| walk_at "keb") => `(tactic| first
  | ((with_reducible apply ew_tupO); (case hi => rfl))
  | with_reducible refine ew_len ?_
  | with_reducible refine ew_list ?_
  | with_reducible refine ew_tuple ?_
  | with_reducible refine ew_isi ?_
  | with_reducible refine ew_strI ?_)
local macro_rules | `(tactic| walk_at "kec") => `(tactic| first
  | ((with_reducible apply ew_glob); (case h => assumption))
  | with_reducible refine ew_int ?_
  | with_reducible refine ew_str ?_
  | with_reducible refine ew_non ?_)
local macro_rules | `(tactic| walk_at "kev") => `(tactic| first
  | ((with_reducible apply ew_var); (case h => rfl)))
local macro_rules | `(tactic| walk_at "kex") => `(tactic| first
  | ((with_reducible apply ew_callB); (case hi => rfl))
  | ((with_reducible apply ew_callWB); (case hi => rfl))
  | with_reducible refine ew_tup1 ?_
  | with_reducible refine ew_tup2 ?_
  | with_reducible refine ew_tup3 ?_
  | with_reducible refine ew_tup4 ?_
  | with_reducible refine ew_tup ?_
  | with_reducible refine ew_lst0 ?_
  | with_reducible refine ew_lst1 ?_
  | with_reducible refine ew_lst2 ?_
  | with_reducible refine ew_lst3 ?_
  | with_reducible refine ew_lst ?_
  | with_reducible refine ew_neg ?_
  | with_reducible refine ew_if ?_
  | with_reducible refine ew_cP ?_
  | with_reducible refine ew_c0 ?_
  | with_reducible refine ew_cW ?_
  | with_reducible refine ew_slA ?_
  | with_reducible refine ew_lc ?_
  | with_reducible refine ew_joinS ?_
  | with_reducible refine ew_fmt ?_
  | with_reducible refine ew_joined ?_
  | with_reducible refine ew_callNW ?_
  | with_reducible refine ew_callN ?_
  | with_reducible refine ew_callN0 ?_)
local macro_rules | `(tactic| walk_at "kew") => `(tactic| first
  | ((with_reducible show EW _ _ _ (tVar _) _ _ _); walk_at "kev")
  | ((with_reducible show EW _ _ _ (tOp _ _ _) _ _ _); walk_at "keo")
  | ((with_reducible show EW _ _ _ (tC _) _ _ _); walk_at "kec")
  | ((with_reducible show EW _ _ _ (tCB _ _) _ _ _); walk_at "keb")
  | walk_at "kex")
local macro_rules | `(tactic| walk_at "ksw") => `(tactic| first
  | ((with_reducible apply sw_app); (case hi => rfl); (case hl => walk_at "sd"))
  | ((with_reducible apply sw_clear); (case hi => rfl))
  | with_reducible refine sw_next ?_
  | with_reducible refine sw_brk ?_
  | with_reducible refine sw_if ?_
  | with_reducible refine sw_ret ?_
  | with_reducible refine sw_dropX ?_
  | with_reducible refine sw_for ?_
  | with_reducible refine sw_try ?_
  | with_reducible refine sw_asg ?_
  | ((with_reducible apply sw_dset); (case hi => rfl))
  | ((with_reducible apply sw_setI); (case hi => rfl))
  | with_reducible refine sw_asgT ?_)
local macro_rules | `(tactic| walk_at "ktw") => `(tactic| first
  | with_reducible refine tw_test ?_
  | with_reducible refine tw_B ?_
  | with_reducible refine tw_yes ?_
  | with_reducible refine tw_not ?_
  | with_reducible refine tw_and ?_
  | with_reducible refine tw_or ?_)
local macro_rules | `(tactic| walk_at "kaw") => `(tactic| first
  | with_reducible refine aw_nil ?_
  | with_reducible refine aw_cons ?_)
local macro_rules | `(tactic| walk_at "kiw") => `(tactic| first
  | with_reducible refine iw_list ?_
  | with_reducible refine iw_tup ?_
  | with_reducible refine iw_rng1 ?_
  | with_reducible refine iw_rng2 ?_
  | with_reducible refine iw_zipM ?_)
local macro_rules | `(tactic| walk_at "kow") => `(tactic| first
  | with_reducible refine ow_none ?_
  | with_reducible refine ow_some ?_)
local macro_rules | `(tactic| walk_at "km") => `(tactic| first
  | ((with_reducible apply x_all); (case h => exact allB_map))
  | ((with_reducible apply x_any); (case h => exact anyB_map))
  | ((with_reducible apply x_sum); (case h => exact sumI_map))
  | ((with_reducible apply cw_elt); (case hm => walk_at "sd"))
  | ((with_reducible apply x1_rng); (case hb => walk_at "sd"))
  | ((with_reducible apply x2_rng); (case hb => walk_at "sd"); (case hc => walk_at "sd"))
  | ((with_reducible apply at0); (case h => rfl))
  | ((with_reducible apply at1); (case h => rfl))
  | ((with_reducible apply at2); (case h => rfl))
  | ((with_reducible apply xi_it); (case h => rfl))
  | ((with_reducible apply x1_it); (case h => rfl))
  | with_reducible refine sq_nx ?_
  | with_reducible refine sq_rt ?_
  | with_reducible refine sq_bk ?_
  | with_reducible refine lp_nx ?_
  | with_reducible refine lp_bk ?_
  | with_reducible refine gsc_nil ?_
  | with_reducible refine gsc_cons ?_
  | with_reducible refine gsw_nil ?_
  | with_reducible refine gsw_cons ?_
  | with_reducible refine rE_ok ?_
  | with_reducible refine atm1 ?_
  | with_reducible refine xi_int ?_
  | with_reducible refine xi_bool ?_
  | with_reducible refine xi_str ?_
  | with_reducible refine xi_tup ?_
  | with_reducible refine xi_list ?_
  | with_reducible refine x1_int ?_
  | with_reducible refine sc_int ?_
  | with_reducible refine sc_str ?_
  | with_reducible refine x_ol ?_
  | with_reducible refine atm1M ?_
  | with_reducible refine x_nx ?_
  | with_reducible refine jw_cons ?_
  | with_reducible refine jw_nil ?_
  | with_reducible refine gw_name ?_
  | ((with_reducible refine gc_name ?wa ?_); (case wa => simp))
  | ((with_reducible refine gc_tup ?wa ?_); (case wa => rfl))
  | ((with_reducible refine gw_tup ?wa ?_); (case wa => rfl))
  | with_reducible refine cnd_t ?_
  | with_reducible refine cnd_f ?_
  | with_reducible refine cnd_nt ?_
  | with_reducible refine cnd_nf ?_
  | walk_at "ca"
  | ((with_reducible apply zip_f); (case hx => rfl); (case hy => rfl))
  | ((with_reducible apply zip_t); (case hx => rfl); (case hy => rfl); (case hl => walk_at "sd"))
  | refine gsw_cons ?_
  | refine gsc_cons ?_
  | refine gsw_nil ?_
  | refine gsc_nil ?_
  | with_reducible exact trivial)
local macro_rules | `(tactic| walk_at "s1") => `(tactic| first
  | ((with_reducible show EW _ _ _ _ _ _ _); walk_at "kew")
  | ((with_reducible show SW _ _ _ _ _ _); walk_at "ksw")
  | ((with_reducible show TW _ _ _ _ _ _ _); walk_at "ktw")
  | ((with_reducible show AW _ _ _ _ _ _ _); walk_at "kaw")
  | ((with_reducible show IW _ _ _ _ _ _ _); walk_at "kiw")
  | ((with_reducible show OW _ _ _ _ _ _ _); walk_at "kow")
  | walk_at "km")
local macro_rules | `(tactic| walk_at "w1") => `(tactic| first | ((with_reducible show SW _ _ _ _ _ _); first | walk_at "ksw" | with_reducible refine sw_seqA ?_ | with_reducible refine sw_seqD ?_ | with_reducible refine sw_seqF ?_ | with_reducible refine sw_seqP ?_ | with_reducible refine sw_seqG ?_ | with_reducible refine sw_seqW ?_) | walk_at "s1")
local macro_rules | `(tactic| walk_at "s") => `(tactic| repeat walk_at "s1")
local macro_rules | `(tactic| walk_at "ef") => `(tactic| first
  | with_reducible refine ef_lst0 ?_
  | with_reducible refine ef_lst1 ?_
  | with_reducible refine ef_lst2 ?_
  | with_reducible refine ef_lst3 ?_
  | with_reducible refine ef_lst ?_
  | with_reducible refine ef_lc ?_
  | with_reducible refine ef_list ?_
  | with_reducible refine ef_catL ?_)
local macro_rules | `(tactic| walk_at "wi") => `(tactic| repeat (first | walk_at "w1" | with_reducible refine sw_seq ?_))
local macro_rules | `(tactic| walk_at "w") => `(tactic| repeat walk_at "w1")
def topS (i : Nat) : Stmt := PySem.Challenge.pw_umbrage_k58_whole_settlings_by_their_pap.main.body.getD i (.Pass ⟨0, 0, 0, 0⟩)
def clsS (i j : Nat) : Stmt := match topS i with | .ClassDef _ _ _ b _ _ _ _ _ _ _ => b.getD j (.Pass ⟨0, 0, 0, 0⟩) | _ => .Pass ⟨0, 0, 0, 0⟩
abbrev si_Unfit : Stmt := clsS 1 0
theorem sci_Unfit : FnScope ["self", "word"] ["self", "word"] (defScope si_Unfit) := ⟨rfl, rfl, rfl, by decide +kernel, rfl, by decide +kernel, by decide +kernel⟩
abbrev si_OtherRoom : Stmt := clsS 2 0
theorem sci_OtherRoom : FnScope ["self"] ["self"] (defScope si_OtherRoom) := ⟨rfl, rfl, rfl, by decide +kernel, rfl, by decide +kernel, by decide +kernel⟩
abbrev si_Flat : Stmt := clsS 3 0
theorem sci_Flat : FnScope ["self"] ["self"] (defScope si_Flat) := ⟨rfl, rfl, rfl, by decide +kernel, rfl, by decide +kernel, by decide +kernel⟩
abbrev s__law_bag : Stmt := topS 42
theorem sc__law_bag : FnScope ["_law_script"] ["_law_script"] (defScope s__law_bag) := ⟨rfl, rfl, rfl, by decide +kernel, rfl, by decide +kernel, by decide +kernel⟩
abbrev s__law_pull : Stmt := topS 43
theorem sc__law_pull : FnScope ["_law_bag_here", "_law_size", "_law_cells", "_law_cell", "_law_spot"] ["_law_bag_here", "_law_size"] (defScope s__law_pull) := ⟨rfl, rfl, rfl, by decide +kernel, rfl, by decide +kernel, by decide +kernel⟩
abbrev s__law_gcd : Stmt := topS 45
theorem sc__law_gcd : FnScope ["_law_one", "_law_other", "_law_kept"] ["_law_one", "_law_other"] (defScope s__law_gcd) := ⟨rfl, rfl, rfl, by decide +kernel, rfl, by decide +kernel, by decide +kernel⟩
abbrev s__law_frac : Stmt := topS 46
theorem sc__law_frac : FnScope ["_law_above", "_law_below", "_law_divisor"] ["_law_above", "_law_below"] (defScope s__law_frac) := ⟨rfl, rfl, rfl, by decide +kernel, rfl, by decide +kernel, by decide +kernel⟩
abbrev s__law_part : Stmt := topS 50
theorem sc__law_part : FnScope ["_law_bag_here"] ["_law_bag_here"] (defScope s__law_part) := ⟨rfl, rfl, rfl, by decide +kernel, rfl, by decide +kernel, by decide +kernel⟩
abbrev s__law_whole_part : Stmt := topS 51
theorem sc__law_whole_part : FnScope ["_law_bag_here"] ["_law_bag_here"] (defScope s__law_whole_part) := ⟨rfl, rfl, rfl, by decide +kernel, rfl, by decide +kernel, by decide +kernel⟩
abbrev s__law_entry : Stmt := topS 54
theorem sc__law_entry : FnScope ["_law_bag_here"] ["_law_bag_here"] (defScope s__law_entry) := ⟨rfl, rfl, rfl, by decide +kernel, rfl, by decide +kernel, by decide +kernel⟩
abbrev s__law_map : Stmt := topS 52
theorem sc__law_map : FnScope ["_law_bag_here", "_law_start", "_law_goal", "_law_row", "_law_at"] ["_law_bag_here", "_law_start", "_law_goal"] (defScope s__law_map) := ⟨rfl, rfl, rfl, by decide +kernel, rfl, by decide +kernel, by decide +kernel⟩
abbrev s__law_unit : Stmt := topS 59
theorem sc__law_unit : FnScope ["_law_rank", "_law_found", "_law_at", "_law_row", "_law_to"] ["_law_rank"] (defScope s__law_unit) := ⟨rfl, rfl, rfl, by decide +kernel, rfl, by decide +kernel, by decide +kernel⟩
abbrev s__law_fit_tree : Stmt := topS 58
theorem sc__law_fit_tree : FnScope ["_law_bag_here", "_law_deep", "_law_rank", "_law_names", "_law_kind", "_law_word", "_law_first", "_law_fitting", "_law_start", "_law_table", "_law_name", "_law_size"] ["_law_bag_here", "_law_deep", "_law_rank", "_law_names"] (defScope s__law_fit_tree) := ⟨rfl, rfl, rfl, by decide +kernel, rfl, by decide +kernel, by decide +kernel⟩
abbrev s__law_like : Stmt := topS 44
theorem sc__law_like : FnScope ["_law_found", "_law_due", "_law_at"] ["_law_found", "_law_due"] (defScope s__law_like) := ⟨rfl, rfl, rfl, by decide +kernel, rfl, by decide +kernel, by decide +kernel⟩
abbrev s__law_rule_turn : Stmt := topS 61
theorem sc__law_rule_turn : FnScope ["_law_tree", "_law_inner_here"] ["_law_tree"] (defScope s__law_rule_turn) := ⟨rfl, rfl, rfl, by decide +kernel, rfl, by decide +kernel, by decide +kernel⟩
abbrev s__law_add : Stmt := topS 47
theorem sc__law_add : FnScope ["_law_one", "_law_other"] ["_law_one", "_law_other"] (defScope s__law_add) := ⟨rfl, rfl, rfl, by decide +kernel, rfl, by decide +kernel, by decide +kernel⟩
abbrev s__law_mul : Stmt := topS 49
theorem sc__law_mul : FnScope ["_law_one", "_law_other"] ["_law_one", "_law_other"] (defScope s__law_mul) := ⟨rfl, rfl, rfl, by decide +kernel, rfl, by decide +kernel, by decide +kernel⟩
abbrev s__law_led : Stmt := topS 53
theorem sc__law_led : FnScope ["_law_kind", "_law_spot", "_law_found", "_law_row", "_law_total", "_law_at"] ["_law_kind", "_law_spot"] (defScope s__law_led) := ⟨rfl, rfl, rfl, by decide +kernel, rfl, by decide +kernel, by decide +kernel⟩
abbrev s__law_sub : Stmt := topS 48
theorem sc__law_sub : FnScope ["_law_one", "_law_other"] ["_law_one", "_law_other"] (defScope s__law_sub) := ⟨rfl, rfl, rfl, by decide +kernel, rfl, by decide +kernel, by decide +kernel⟩
abbrev s__law_behind_map : Stmt := topS 60
theorem sc__law_behind_map : FnScope ["_law_first", "_law_then", "_law_start", "_law_none", "_law_last", "_law_found", "_law_at", "_law_unit_here", "_law_there", "_law_row"] ["_law_first", "_law_then", "_law_start"] (defScope s__law_behind_map) := ⟨rfl, rfl, rfl, by decide +kernel, rfl, by decide +kernel, by decide +kernel⟩
abbrev s__law_rule_carry : Stmt := topS 62
theorem sc__law_rule_carry : FnScope ["_law_tree", "_law_table", "_law_inner_here", "_law_second", "_law_row"] ["_law_tree"] (defScope s__law_rule_carry) := ⟨rfl, rfl, rfl, by decide +kernel, rfl, by decide +kernel, by decide +kernel⟩
abbrev s__law_rule : Stmt := topS 63
theorem sc__law_rule : FnScope ["_law_tree"] ["_law_tree"] (defScope s__law_rule) := ⟨rfl, rfl, rfl, by decide +kernel, rfl, by decide +kernel, by decide +kernel⟩
abbrev s__law_inner : Stmt := topS 56
theorem sc__law_inner : FnScope ["_law_tree"] ["_law_tree"] (defScope s__law_inner) := ⟨rfl, rfl, rfl, by decide +kernel, rfl, by decide +kernel, by decide +kernel⟩
abbrev s__law_one_rule : Stmt := topS 64
theorem sc__law_one_rule : FnScope ["_law_tree", "_law_size", "_law_at", "_law_found"] ["_law_tree"] (defScope s__law_one_rule) := ⟨rfl, rfl, rfl, by decide +kernel, rfl, by decide +kernel, by decide +kernel⟩
abbrev s_twice : Stmt := topS 24
theorem sc_twice : FnScope ["tree"] ["tree"] (defScope s_twice) := ⟨rfl, rfl, rfl, by decide +kernel, rfl, by decide +kernel, by decide +kernel⟩
abbrev s_once : Stmt := topS 25
theorem sc_once : FnScope ["tree"] ["tree"] (defScope s_once) := ⟨rfl, rfl, rfl, by decide +kernel, rfl, by decide +kernel, by decide +kernel⟩
abbrev s_product : Stmt := topS 26
theorem sc_product : FnScope ["tree"] ["tree"] (defScope s_product) := ⟨rfl, rfl, rfl, by decide +kernel, rfl, by decide +kernel, by decide +kernel⟩
abbrev s_still : Stmt := topS 15
theorem sc_still : FnScope ["room"] ["room"] (defScope s_still) := ⟨rfl, rfl, rfl, by decide +kernel, rfl, by decide +kernel, by decide +kernel⟩
abbrev s_still_rule : Stmt := topS 27
theorem sc_still_rule : FnScope ["tree"] ["tree"] (defScope s_still_rule) := ⟨rfl, rfl, rfl, by decide +kernel, rfl, by decide +kernel, by decide +kernel⟩
abbrev s_room_from : Stmt := topS 14
theorem sc_room_from : FnScope ["way"] ["way"] (defScope s_room_from) := ⟨rfl, rfl, rfl, by decide +kernel, rfl, by decide +kernel, by decide +kernel⟩
abbrev s_shared : Stmt := topS 5
theorem sc_shared : FnScope ["one", "other"] ["one", "other"] (defScope s_shared) := ⟨rfl, rfl, rfl, by decide +kernel, rfl, by decide +kernel, by decide +kernel⟩
abbrev s_part : Stmt := topS 6
theorem sc_part : FnScope ["above", "below", "divisor"] ["above", "below"] (defScope s_part) := ⟨rfl, rfl, rfl, by decide +kernel, rfl, by decide +kernel, by decide +kernel⟩
abbrev s_plus : Stmt := topS 7
theorem sc_plus : FnScope ["one", "other"] ["one", "other"] (defScope s_plus) := ⟨rfl, rfl, rfl, by decide +kernel, rfl, by decide +kernel, by decide +kernel⟩
abbrev s_times : Stmt := topS 8
theorem sc_times : FnScope ["one", "other"] ["one", "other"] (defScope s_times) := ⟨rfl, rfl, rfl, by decide +kernel, rfl, by decide +kernel, by decide +kernel⟩
abbrev s_behind : Stmt := topS 16
theorem sc_behind : FnScope ["first", "then", "found", "row", "made", "last", "step", "inner", "steps", "one", "other"] ["first", "then"] (defScope s_behind) := ⟨rfl, rfl, rfl, by decide +kernel, rfl, by decide +kernel, by decide +kernel⟩
abbrev s_onward : Stmt := topS 28
theorem sc_onward : FnScope ["tree"] ["tree"] (defScope s_onward) := ⟨rfl, rfl, rfl, by decide +kernel, rfl, by decide +kernel, by decide +kernel⟩
abbrev s_turncarry : Stmt := topS 29
theorem sc_turncarry : FnScope ["tree"] ["tree"] (defScope s_turncarry) := ⟨rfl, rfl, rfl, by decide +kernel, rfl, by decide +kernel, by decide +kernel⟩
abbrev s_turntimes : Stmt := topS 30
theorem sc_turntimes : FnScope ["tree"] ["tree"] (defScope s_turntimes) := ⟨rfl, rfl, rfl, by decide +kernel, rfl, by decide +kernel, by decide +kernel⟩
abbrev s_carrytimes : Stmt := topS 31
theorem sc_carrytimes : FnScope ["tree"] ["tree"] (defScope s_carrytimes) := ⟨rfl, rfl, rfl, by decide +kernel, rfl, by decide +kernel, by decide +kernel⟩
abbrev s_turnpair : Stmt := topS 32
theorem sc_turnpair : FnScope ["tree", "word", "one", "other"] ["tree"] (defScope s_turnpair) := ⟨rfl, rfl, rfl, by decide +kernel, rfl, by decide +kernel, by decide +kernel⟩
abbrev s_straightened : Stmt := topS 17
theorem sc_straightened : FnScope ["way", "row"] ["way"] (defScope s_straightened) := ⟨rfl, rfl, rfl, by decide +kernel, rfl, by decide +kernel, by decide +kernel⟩
abbrev s_carrypair : Stmt := topS 33
theorem sc_carrypair : FnScope ["tree", "second", "word", "one", "other"] ["tree"] (defScope s_carrypair) := ⟨rfl, rfl, rfl, by decide +kernel, rfl, by decide +kernel, by decide +kernel⟩
abbrev s_left : Stmt := topS 34
theorem sc_left : FnScope ["tree"] ["tree"] (defScope s_left) := ⟨rfl, rfl, rfl, by decide +kernel, rfl, by decide +kernel, by decide +kernel⟩
abbrev s_right : Stmt := topS 35
theorem sc_right : FnScope ["tree"] ["tree"] (defScope s_right) := ⟨rfl, rfl, rfl, by decide +kernel, rfl, by decide +kernel, by decide +kernel⟩
abbrev s_at_top : Stmt := topS 38
theorem sc_at_top : FnScope ["tree", "rule", "fitting", "found"] ["tree"] (defScope s_at_top) := ⟨rfl, rfl, rfl, by decide +kernel, rfl, by decide +kernel, by decide +kernel⟩
abbrev s_one_step : Stmt := topS 39
theorem sc_one_step : FnScope ["tree", "start", "at", "found"] ["tree"] (defScope s_one_step) := ⟨rfl, rfl, rfl, by decide +kernel, rfl, by decide +kernel, by decide +kernel⟩
abbrev s_part_text : Stmt := topS 9
theorem sc_part_text : FnScope ["one"] ["one"] (defScope s_part_text) := ⟨rfl, rfl, rfl, by decide +kernel, rfl, by decide +kernel, by decide +kernel⟩
abbrev s_way_text : Stmt := topS 19
theorem sc_way_text : FnScope ["way", "rows", "row", "one"] ["way"] (defScope s_way_text) := ⟨rfl, rfl, rfl, by decide +kernel, rfl, by decide +kernel, by decide +kernel⟩
abbrev s_write : Stmt := topS 20
theorem sc_write : FnScope ["tree", "inner", "word", "rest", "one"] ["tree"] (defScope s_write) := ⟨rfl, rfl, rfl, by decide +kernel, rfl, by decide +kernel, by decide +kernel⟩
abbrev s_settled : Stmt := topS 40
theorem sc_settled : FnScope ["tree", "paper", "step", "rule"] ["tree"] (defScope s_settled) := ⟨rfl, rfl, rfl, by decide +kernel, rfl, by decide +kernel, by decide +kernel⟩
abbrev s__law_refused : Stmt := topS 66
theorem sc__law_refused : FnScope ["_law_tree", "why"] ["_law_tree"] (defScope s__law_refused) := ⟨rfl, rfl, rfl, by decide +kernel, rfl, by decide +kernel, by decide +kernel⟩
abbrev s__law_part_text : Stmt := topS 55
theorem sc__law_part_text : FnScope ["_law_one"] ["_law_one"] (defScope s__law_part_text) := ⟨rfl, rfl, rfl, by decide +kernel, rfl, by decide +kernel, by decide +kernel⟩
abbrev s__law_text : Stmt := topS 57
theorem sc__law_text : FnScope ["_law_tree", "_law_words", "_law_row", "_law_inner_here", "_law_one"] ["_law_tree"] (defScope s__law_text) := ⟨rfl, rfl, rfl, by decide +kernel, rfl, by decide +kernel, by decide +kernel⟩
abbrev s__law_bare_tree : Stmt := topS 67
theorem sc__law_bare_tree : FnScope ["_law_bag_here", "_law_one", "_law_menu"] ["_law_bag_here"] (defScope s__law_bare_tree) := ⟨rfl, rfl, rfl, by decide +kernel, rfl, by decide +kernel, by decide +kernel⟩
abbrev s__law_lean_map : Stmt := topS 65
theorem sc__law_lean_map : FnScope ["_law_bag_here", "_law_start", "_law_goal", "_law_row", "_law_at"] ["_law_bag_here", "_law_start", "_law_goal"] (defScope s__law_lean_map) := ⟨rfl, rfl, rfl, by decide +kernel, rfl, by decide +kernel, by decide +kernel⟩
abbrev s__law_unlike_rooms : Stmt := topS 68
theorem sc__law_unlike_rooms : FnScope ["_law_bag_here", "_law_start", "_law_goal", "_law_tree", "_law_inner_here", "_law_outer", "_law_around"] ["_law_bag_here"] (defScope s__law_unlike_rooms) := ⟨rfl, rfl, rfl, by decide +kernel, rfl, by decide +kernel, by decide +kernel⟩
abbrev s_law : Stmt := topS 69
theorem sc_law : FnScope ["_law_script", "_law_bag_here", "_law_names", "_law_tree", "_law_due", "_law_here", "_law_turn", "_law_again", "_law_words", "_law_step", "_law_found"] ["_law_script"] (defScope s_law) := ⟨rfl, rfl, rfl, by decide +kernel, rfl, by decide +kernel, by decide +kernel⟩
set_option genInjectivity false
set_option genSizeOf false
structure TX (w : World) (K : Fg) (mg : Str → Option Value) where
  cs : Cs
  ox_Unfit : OxK K (cs "Unfit")
  kC_Unfit : PySem.W.keepIn K (.ref (cs "Unfit")) = true
  fI_Unfit : Addr
  dI_Unfit : FuncData
  FI_Unfit : FunD K "__init__" "Unfit.__init__" (defArgs si_Unfit) (defBody si_Unfit) (defScope si_Unfit) [V.str "Unfit"] [] fI_Unfit dI_Unfit
  i_Unfit : PySem.W.findIn K (.ref (cs "Unfit")) "__init__" = some (some (.ref fI_Unfit))
  ti_Unfit : PySem.W.typeIn K (.ref fI_Unfit) = some (.type "function")
  bi_Unfit : Binds K dI_Unfit ["self", "word"] []
  g_Unfit : mg "Unfit" = some (.ref (cs "Unfit"))
  xf_Unfit : XfC K (cs "Unfit")
  nw_Unfit_word : PySem.W.findIn K (.ref (cs "Unfit")) "word" = some none
  cf_Unfit : ClsF K cs "Unfit" ["word"]
  rd_Unfit : PySem.W.readsIn K (cs "Unfit") (.type "type") = true
  ga_Unfit : PySem.W.specialIn K (.ref (cs "Unfit")) "__getattribute__" = some (some (.builtin "type.__getattribute__"))
  fc_Unfit : PySem.W.findCls K (.ref (cs "Unfit")) (.type "type") "__init__" = some (.val (.ref fI_Unfit))
  ox_OtherRoom : OxK K (cs "OtherRoom")
  kC_OtherRoom : PySem.W.keepIn K (.ref (cs "OtherRoom")) = true
  fI_OtherRoom : Addr
  dI_OtherRoom : FuncData
  FI_OtherRoom : Fun K "__init__" "OtherRoom.__init__" si_OtherRoom fI_OtherRoom dI_OtherRoom
  i_OtherRoom : PySem.W.findIn K (.ref (cs "OtherRoom")) "__init__" = some (some (.ref fI_OtherRoom))
  ti_OtherRoom : PySem.W.typeIn K (.ref fI_OtherRoom) = some (.type "function")
  bi_OtherRoom : Binds K dI_OtherRoom ["self"] []
  g_OtherRoom : mg "OtherRoom" = some (.ref (cs "OtherRoom"))
  xf_OtherRoom : XfC K (cs "OtherRoom")
  nw_OtherRoom_word : PySem.W.findIn K (.ref (cs "OtherRoom")) "word" = some none
  cf_OtherRoom : ClsF K cs "OtherRoom" ["word"]
  ox_Flat : OxK K (cs "Flat")
  kC_Flat : PySem.W.keepIn K (.ref (cs "Flat")) = true
  fI_Flat : Addr
  dI_Flat : FuncData
  FI_Flat : Fun K "__init__" "Flat.__init__" si_Flat fI_Flat dI_Flat
  i_Flat : PySem.W.findIn K (.ref (cs "Flat")) "__init__" = some (some (.ref fI_Flat))
  ti_Flat : PySem.W.typeIn K (.ref fI_Flat) = some (.type "function")
  bi_Flat : Binds K dI_Flat ["self"] []
  g_Flat : mg "Flat" = some (.ref (cs "Flat"))
  xf_Flat : XfC K (cs "Flat")
  nw_Flat_word : PySem.W.findIn K (.ref (cs "Flat")) "word" = some none
  cf_Flat : ClsF K cs "Flat" ["word"]
  em_OtherRoom_OtherRoom : PySem.W.exmOne K (.ref (cs "OtherRoom")) (.ref (cs "OtherRoom")) = some true
  a__law_bag : Addr
  d__law_bag : FuncData
  F__law_bag : Fun K "_law_bag" "_law_bag" s__law_bag a__law_bag d__law_bag
  g__law_bag : mg "_law_bag" = some (.ref a__law_bag)
  b__law_bag : Binds K d__law_bag ["_law_script"] []
  a__law_pull : Addr
  d__law_pull : FuncData
  F__law_pull : Fun K "_law_pull" "_law_pull" s__law_pull a__law_pull d__law_pull
  g__law_pull : mg "_law_pull" = some (.ref a__law_pull)
  b__law_pull : Binds K d__law_pull ["_law_bag_here", "_law_size"] []
  a__law_gcd : Addr
  d__law_gcd : FuncData
  F__law_gcd : Fun K "_law_gcd" "_law_gcd" s__law_gcd a__law_gcd d__law_gcd
  g__law_gcd : mg "_law_gcd" = some (.ref a__law_gcd)
  b__law_gcd : Binds K d__law_gcd ["_law_one", "_law_other"] []
  a__law_frac : Addr
  d__law_frac : FuncData
  F__law_frac : Fun K "_law_frac" "_law_frac" s__law_frac a__law_frac d__law_frac
  g__law_frac : mg "_law_frac" = some (.ref a__law_frac)
  b__law_frac : Binds K d__law_frac ["_law_above", "_law_below"] []
  a__law_part : Addr
  d__law_part : FuncData
  F__law_part : Fun K "_law_part" "_law_part" s__law_part a__law_part d__law_part
  g__law_part : mg "_law_part" = some (.ref a__law_part)
  b__law_part : Binds K d__law_part ["_law_bag_here"] []
  a__law_whole_part : Addr
  d__law_whole_part : FuncData
  F__law_whole_part : Fun K "_law_whole_part" "_law_whole_part" s__law_whole_part a__law_whole_part d__law_whole_part
  g__law_whole_part : mg "_law_whole_part" = some (.ref a__law_whole_part)
  b__law_whole_part : Binds K d__law_whole_part ["_law_bag_here"] []
  a__law_entry : Addr
  d__law_entry : FuncData
  F__law_entry : Fun K "_law_entry" "_law_entry" s__law_entry a__law_entry d__law_entry
  g__law_entry : mg "_law_entry" = some (.ref a__law_entry)
  b__law_entry : Binds K d__law_entry ["_law_bag_here"] []
  a__law_map : Addr
  d__law_map : FuncData
  F__law_map : Fun K "_law_map" "_law_map" s__law_map a__law_map d__law_map
  g__law_map : mg "_law_map" = some (.ref a__law_map)
  b__law_map : Binds K d__law_map ["_law_bag_here", "_law_start", "_law_goal"] []
  a__law_unit : Addr
  d__law_unit : FuncData
  F__law_unit : Fun K "_law_unit" "_law_unit" s__law_unit a__law_unit d__law_unit
  g__law_unit : mg "_law_unit" = some (.ref a__law_unit)
  b__law_unit : Binds K d__law_unit ["_law_rank"] []
  a__law_fit_tree : Addr
  d__law_fit_tree : FuncData
  F__law_fit_tree : Fun K "_law_fit_tree" "_law_fit_tree" s__law_fit_tree a__law_fit_tree d__law_fit_tree
  g__law_fit_tree : mg "_law_fit_tree" = some (.ref a__law_fit_tree)
  b__law_fit_tree : Binds K d__law_fit_tree ["_law_bag_here", "_law_deep", "_law_rank", "_law_names"] []
  a__law_like : Addr
  d__law_like : FuncData
  F__law_like : Fun K "_law_like" "_law_like" s__law_like a__law_like d__law_like
  g__law_like : mg "_law_like" = some (.ref a__law_like)
  b__law_like : Binds K d__law_like ["_law_found", "_law_due"] []
  a__law_rule_turn : Addr
  d__law_rule_turn : FuncData
  F__law_rule_turn : Fun K "_law_rule_turn" "_law_rule_turn" s__law_rule_turn a__law_rule_turn d__law_rule_turn
  g__law_rule_turn : mg "_law_rule_turn" = some (.ref a__law_rule_turn)
  b__law_rule_turn : Binds K d__law_rule_turn ["_law_tree"] []
  a__law_add : Addr
  d__law_add : FuncData
  F__law_add : Fun K "_law_add" "_law_add" s__law_add a__law_add d__law_add
  g__law_add : mg "_law_add" = some (.ref a__law_add)
  b__law_add : Binds K d__law_add ["_law_one", "_law_other"] []
  a__law_mul : Addr
  d__law_mul : FuncData
  F__law_mul : Fun K "_law_mul" "_law_mul" s__law_mul a__law_mul d__law_mul
  g__law_mul : mg "_law_mul" = some (.ref a__law_mul)
  b__law_mul : Binds K d__law_mul ["_law_one", "_law_other"] []
  a__law_led : Addr
  d__law_led : FuncData
  F__law_led : Fun K "_law_led" "_law_led" s__law_led a__law_led d__law_led
  g__law_led : mg "_law_led" = some (.ref a__law_led)
  b__law_led : Binds K d__law_led ["_law_kind", "_law_spot"] []
  a__law_sub : Addr
  d__law_sub : FuncData
  F__law_sub : Fun K "_law_sub" "_law_sub" s__law_sub a__law_sub d__law_sub
  g__law_sub : mg "_law_sub" = some (.ref a__law_sub)
  b__law_sub : Binds K d__law_sub ["_law_one", "_law_other"] []
  a__law_behind_map : Addr
  d__law_behind_map : FuncData
  F__law_behind_map : Fun K "_law_behind_map" "_law_behind_map" s__law_behind_map a__law_behind_map d__law_behind_map
  g__law_behind_map : mg "_law_behind_map" = some (.ref a__law_behind_map)
  b__law_behind_map : Binds K d__law_behind_map ["_law_first", "_law_then", "_law_start"] []
  a__law_rule_carry : Addr
  d__law_rule_carry : FuncData
  F__law_rule_carry : Fun K "_law_rule_carry" "_law_rule_carry" s__law_rule_carry a__law_rule_carry d__law_rule_carry
  g__law_rule_carry : mg "_law_rule_carry" = some (.ref a__law_rule_carry)
  b__law_rule_carry : Binds K d__law_rule_carry ["_law_tree"] []
  a__law_rule : Addr
  d__law_rule : FuncData
  F__law_rule : Fun K "_law_rule" "_law_rule" s__law_rule a__law_rule d__law_rule
  g__law_rule : mg "_law_rule" = some (.ref a__law_rule)
  b__law_rule : Binds K d__law_rule ["_law_tree"] []
  a__law_inner : Addr
  d__law_inner : FuncData
  F__law_inner : Fun K "_law_inner" "_law_inner" s__law_inner a__law_inner d__law_inner
  g__law_inner : mg "_law_inner" = some (.ref a__law_inner)
  b__law_inner : Binds K d__law_inner ["_law_tree"] []
  a__law_one_rule : Addr
  d__law_one_rule : FuncData
  F__law_one_rule : Fun K "_law_one_rule" "_law_one_rule" s__law_one_rule a__law_one_rule d__law_one_rule
  g__law_one_rule : mg "_law_one_rule" = some (.ref a__law_one_rule)
  b__law_one_rule : Binds K d__law_one_rule ["_law_tree"] []
  a_twice : Addr
  d_twice : FuncData
  F_twice : Fun K "twice" "twice" s_twice a_twice d_twice
  g_twice : mg "twice" = some (.ref a_twice)
  b_twice : Binds K d_twice ["tree"] []
  a_once : Addr
  d_once : FuncData
  F_once : Fun K "once" "once" s_once a_once d_once
  g_once : mg "once" = some (.ref a_once)
  b_once : Binds K d_once ["tree"] []
  a_product : Addr
  d_product : FuncData
  F_product : Fun K "product" "product" s_product a_product d_product
  g_product : mg "product" = some (.ref a_product)
  b_product : Binds K d_product ["tree"] []
  a_still : Addr
  d_still : FuncData
  F_still : FunD K "still" "still" (defArgs s_still) (defBody s_still) (defScope s_still) [V.int 2] [] a_still d_still
  g_still : mg "still" = some (.ref a_still)
  b_still : Binds K d_still ["room"] []
  e1_still : List Value
  v1_still : Vals [V.int 2] e1_still
  b1_still : Binds K d_still ["room"] e1_still
  a_still_rule : Addr
  d_still_rule : FuncData
  F_still_rule : Fun K "still_rule" "still_rule" s_still_rule a_still_rule d_still_rule
  g_still_rule : mg "still_rule" = some (.ref a_still_rule)
  b_still_rule : Binds K d_still_rule ["tree"] []
  a_room_from : Addr
  d_room_from : FuncData
  F_room_from : Fun K "room_from" "room_from" s_room_from a_room_from d_room_from
  g_room_from : mg "room_from" = some (.ref a_room_from)
  b_room_from : Binds K d_room_from ["way"] []
  a_shared : Addr
  d_shared : FuncData
  F_shared : Fun K "shared" "shared" s_shared a_shared d_shared
  g_shared : mg "shared" = some (.ref a_shared)
  b_shared : Binds K d_shared ["one", "other"] []
  a_part : Addr
  d_part : FuncData
  F_part : FunD K "part" "part" (defArgs s_part) (defBody s_part) (defScope s_part) [V.int 1] [] a_part d_part
  g_part : mg "part" = some (.ref a_part)
  b_part : Binds K d_part ["above", "below"] []
  e1_part : List Value
  v1_part : Vals [V.int 1] e1_part
  b1_part : Binds K d_part ["above", "below"] e1_part
  a_plus : Addr
  d_plus : FuncData
  F_plus : Fun K "plus" "plus" s_plus a_plus d_plus
  g_plus : mg "plus" = some (.ref a_plus)
  b_plus : Binds K d_plus ["one", "other"] []
  a_times : Addr
  d_times : FuncData
  F_times : Fun K "times" "times" s_times a_times d_times
  g_times : mg "times" = some (.ref a_times)
  b_times : Binds K d_times ["one", "other"] []
  a_behind : Addr
  d_behind : FuncData
  F_behind : Fun K "behind" "behind" s_behind a_behind d_behind
  g_behind : mg "behind" = some (.ref a_behind)
  b_behind : Binds K d_behind ["first", "then"] []
  a_onward : Addr
  d_onward : FuncData
  F_onward : Fun K "onward" "onward" s_onward a_onward d_onward
  g_onward : mg "onward" = some (.ref a_onward)
  b_onward : Binds K d_onward ["tree"] []
  a_turncarry : Addr
  d_turncarry : FuncData
  F_turncarry : Fun K "turncarry" "turncarry" s_turncarry a_turncarry d_turncarry
  g_turncarry : mg "turncarry" = some (.ref a_turncarry)
  b_turncarry : Binds K d_turncarry ["tree"] []
  a_turntimes : Addr
  d_turntimes : FuncData
  F_turntimes : Fun K "turntimes" "turntimes" s_turntimes a_turntimes d_turntimes
  g_turntimes : mg "turntimes" = some (.ref a_turntimes)
  b_turntimes : Binds K d_turntimes ["tree"] []
  a_carrytimes : Addr
  d_carrytimes : FuncData
  F_carrytimes : Fun K "carrytimes" "carrytimes" s_carrytimes a_carrytimes d_carrytimes
  g_carrytimes : mg "carrytimes" = some (.ref a_carrytimes)
  b_carrytimes : Binds K d_carrytimes ["tree"] []
  a_turnpair : Addr
  d_turnpair : FuncData
  F_turnpair : Fun K "turnpair" "turnpair" s_turnpair a_turnpair d_turnpair
  g_turnpair : mg "turnpair" = some (.ref a_turnpair)
  b_turnpair : Binds K d_turnpair ["tree"] []
  a_straightened : Addr
  d_straightened : FuncData
  F_straightened : Fun K "straightened" "straightened" s_straightened a_straightened d_straightened
  g_straightened : mg "straightened" = some (.ref a_straightened)
  b_straightened : Binds K d_straightened ["way"] []
  a_carrypair : Addr
  d_carrypair : FuncData
  F_carrypair : Fun K "carrypair" "carrypair" s_carrypair a_carrypair d_carrypair
  g_carrypair : mg "carrypair" = some (.ref a_carrypair)
  b_carrypair : Binds K d_carrypair ["tree"] []
  a_left : Addr
  d_left : FuncData
  F_left : Fun K "left" "left" s_left a_left d_left
  g_left : mg "left" = some (.ref a_left)
  b_left : Binds K d_left ["tree"] []
  a_right : Addr
  d_right : FuncData
  F_right : Fun K "right" "right" s_right a_right d_right
  g_right : mg "right" = some (.ref a_right)
  b_right : Binds K d_right ["tree"] []
  a_at_top : Addr
  d_at_top : FuncData
  F_at_top : Fun K "at_top" "at_top" s_at_top a_at_top d_at_top
  g_at_top : mg "at_top" = some (.ref a_at_top)
  b_at_top : Binds K d_at_top ["tree"] []
  a_one_step : Addr
  d_one_step : FuncData
  F_one_step : Fun K "one_step" "one_step" s_one_step a_one_step d_one_step
  g_one_step : mg "one_step" = some (.ref a_one_step)
  b_one_step : Binds K d_one_step ["tree"] []
  a_part_text : Addr
  d_part_text : FuncData
  F_part_text : Fun K "part_text" "part_text" s_part_text a_part_text d_part_text
  g_part_text : mg "part_text" = some (.ref a_part_text)
  b_part_text : Binds K d_part_text ["one"] []
  a_way_text : Addr
  d_way_text : FuncData
  F_way_text : Fun K "way_text" "way_text" s_way_text a_way_text d_way_text
  g_way_text : mg "way_text" = some (.ref a_way_text)
  b_way_text : Binds K d_way_text ["way"] []
  a_write : Addr
  d_write : FuncData
  F_write : Fun K "write" "write" s_write a_write d_write
  g_write : mg "write" = some (.ref a_write)
  b_write : Binds K d_write ["tree"] []
  a_settled : Addr
  d_settled : FuncData
  F_settled : Fun K "settled" "settled" s_settled a_settled d_settled
  g_settled : mg "settled" = some (.ref a_settled)
  b_settled : Binds K d_settled ["tree"] []
  a__law_refused : Addr
  d__law_refused : FuncData
  F__law_refused : Fun K "_law_refused" "_law_refused" s__law_refused a__law_refused d__law_refused
  g__law_refused : mg "_law_refused" = some (.ref a__law_refused)
  b__law_refused : Binds K d__law_refused ["_law_tree"] []
  a__law_part_text : Addr
  d__law_part_text : FuncData
  F__law_part_text : Fun K "_law_part_text" "_law_part_text" s__law_part_text a__law_part_text d__law_part_text
  g__law_part_text : mg "_law_part_text" = some (.ref a__law_part_text)
  b__law_part_text : Binds K d__law_part_text ["_law_one"] []
  a__law_text : Addr
  d__law_text : FuncData
  F__law_text : Fun K "_law_text" "_law_text" s__law_text a__law_text d__law_text
  g__law_text : mg "_law_text" = some (.ref a__law_text)
  b__law_text : Binds K d__law_text ["_law_tree"] []
  a__law_bare_tree : Addr
  d__law_bare_tree : FuncData
  F__law_bare_tree : Fun K "_law_bare_tree" "_law_bare_tree" s__law_bare_tree a__law_bare_tree d__law_bare_tree
  g__law_bare_tree : mg "_law_bare_tree" = some (.ref a__law_bare_tree)
  b__law_bare_tree : Binds K d__law_bare_tree ["_law_bag_here"] []
  a__law_lean_map : Addr
  d__law_lean_map : FuncData
  F__law_lean_map : Fun K "_law_lean_map" "_law_lean_map" s__law_lean_map a__law_lean_map d__law_lean_map
  g__law_lean_map : mg "_law_lean_map" = some (.ref a__law_lean_map)
  b__law_lean_map : Binds K d__law_lean_map ["_law_bag_here", "_law_start", "_law_goal"] []
  a__law_unlike_rooms : Addr
  d__law_unlike_rooms : FuncData
  F__law_unlike_rooms : Fun K "_law_unlike_rooms" "_law_unlike_rooms" s__law_unlike_rooms a__law_unlike_rooms d__law_unlike_rooms
  g__law_unlike_rooms : mg "_law_unlike_rooms" = some (.ref a__law_unlike_rooms)
  b__law_unlike_rooms : Binds K d__law_unlike_rooms ["_law_bag_here"] []
  n_abs : mg "abs" = none
  n_all : mg "all" = none
  n_bool : mg "bool" = none
  n_int : mg "int" = none
  n_isinstance : mg "isinstance" = none
  n_len : mg "len" = none
  n_list : mg "list" = none
  n_max : mg "max" = none
  n_range : mg "range" = none
  n_str : mg "str" = none
  n_tuple : mg "tuple" = none
  n_zip : mg "zip" = none
  gs : Gs
  u_BOUND : Value
  c_BOUND : mg "BOUND" = some u_BOUND
  r_BOUND : RelV (gs "BOUND") u_BOUND
  gd_BOUND : ∀ H, Dp K H (gs "BOUND") (bndD)
  m_FITTING : Addr
  c_FITTING : mg "FITTING" = some (.ref m_FITTING)
  kd_FITTING_0 : KDct K w m_FITTING "twice" (.ref a_twice)
  kd_FITTING_1 : KDct K w m_FITTING "once" (.ref a_once)
  kd_FITTING_2 : KDct K w m_FITTING "product" (.ref a_product)
  kd_FITTING_3 : KDct K w m_FITTING "still" (.ref a_still_rule)
  kd_FITTING_4 : KDct K w m_FITTING "onward" (.ref a_onward)
  kd_FITTING_5 : KDct K w m_FITTING "turncarry" (.ref a_turncarry)
  kd_FITTING_6 : KDct K w m_FITTING "turntimes" (.ref a_turntimes)
  kd_FITTING_7 : KDct K w m_FITTING "carrytimes" (.ref a_carrytimes)
  kd_FITTING_8 : KDct K w m_FITTING "turnpair" (.ref a_turnpair)
  kd_FITTING_9 : KDct K w m_FITTING "carrypair" (.ref a_carrypair)
  kd_FITTING_10 : KDct K w m_FITTING "left" (.ref a_left)
  kd_FITTING_11 : KDct K w m_FITTING "right" (.ref a_right)
  u_FREE : Value
  c_FREE : mg "FREE" = some u_FREE
  r_FREE : RelV (gs "FREE") u_FREE
  gd_FREE : ∀ H, Dp K H (gs "FREE") (freeD)
  u_NONE : Value
  c_NONE : mg "NONE" = some u_NONE
  r_NONE : RelV (gs "NONE") u_NONE
  gd_NONE : ∀ H, Dp K H (gs "NONE") (fr (0, 1))
  u_ONE : Value
  c_ONE : mg "ONE" = some u_ONE
  r_ONE : RelV (gs "ONE") u_ONE
  gd_ONE : ∀ H, Dp K H (gs "ONE") (fr (1, 1))
  u_RULES : Value
  c_RULES : mg "RULES" = some u_RULES
  r_RULES : RelV (gs "RULES") u_RULES
  gd_RULES : ∀ H, Dp K H (gs "RULES") (rulesD)
section
variable {Pg : Program} {w : World} {K : Fg} {mg : Str → Option Value} {base : Heap} {cs : Cs} {gs : Gs}
def fvOf (T : TX w K mg) : Nat → Addr
  | 10 => T.a_twice
  | 11 => T.a_once
  | 12 => T.a_product
  | 13 => T.a_still_rule
  | 14 => T.a_onward
  | 15 => T.a_turncarry
  | 16 => T.a_turntimes
  | 17 => T.a_carrytimes
  | 18 => T.a_turnpair
  | 19 => T.a_carrypair
  | 20 => T.a_left
  | 21 => T.a_right
  | 22 => T.m_FITTING
  | _ => 0
theorem ok_Unfit (T : TX w K mg) : FnOk Pg w K mg base CX0 1 T.fI_Unfit T.dI_Unfit ["self", "word"] (spIn K ["word"] gWd) :=
  okWd T.FI_Unfit sci_Unfit (fun cdv A outer sh H E => (pss_one (ps_ox (pv 0) (pv 1))))
theorem ok_OtherRoom (T : TX w K mg) : FnOk Pg w K mg base CX0 2 T.fI_OtherRoom T.dI_OtherRoom ["self"] (spIn K ["word"] (gCw "OtherRoom")) :=
  okSub "OtherRoom" T.FI_OtherRoom sci_OtherRoom (fun cdv A outer sh H E hr => (pss_one (ps_expr (pe_up (by rfl) T.g_Unfit T.rd_Unfit T.ga_Unfit T.fc_Unfit T.FI_Unfit.kp (ok_Unfit T) (hr.mono (by decide)) T.bi_Unfit .nil pass0 (pa_cons (pv 0) (pa_cons pe_str pa_nil))))))
theorem ok_Flat (T : TX w K mg) : FnOk Pg w K mg base CX0 1 T.fI_Flat T.dI_Flat ["self"] (spIn K ["word"] gFlat) :=
  okFlat T.FI_Flat sci_Flat (fun cdv A outer sh H E => (pss_one (ps_ox (pv 0) pe_str)))
theorem ok__law_bag (T : TX w K mg) : FnOk Pg w K mg base CX0 1 T.a__law_bag T.d__law_bag ["_law_script"] (spBag K) := qt_of (by simp (disch := with_unfolding_all
  refine T.F__law_bag.ok sc__law_bag (fun vs H Q E h => ?_) (fun cdv A outer sh H vs Q E hr h => ?_)
  · obtain ⟨W, ns, _, hd, _⟩ := h
    exact dpa_len hd
  · obtain ⟨W, ns, hW, hd, hl, q⟩ := h
    obtain ⟨v, rfl, dv⟩ := dp1 hd
    exact ⟨t__law_bag K, (pss_one (ps_ret (pe_lst (pa_cons (pe_callTy c_list (by rfl) T.n_list (by decide +kernel) (pa_cons (pe_slice sl_list (pv 0) po_none (po_some pe_int)) pa_nil)) (pa_cons pe_int (pa_cons pe_int pa_nil)))))), rd__law_bag dv hl q⟩
  ) only [↓qt_eq])
theorem ok__law_pull (T : TX w K mg) : FnOk Pg w K mg base CX0 1 T.a__law_pull T.d__law_pull ["_law_bag_here", "_law_size"] (spB K P_pull) := qt_of (by simp (disch := with_unfolding_all
  refine T.F__law_pull.ok sc__law_pull (fun vs H Q E h => ?_) (fun cdv A outer sh H vs Q E hr h => ?_)
  · obtain ⟨W, b, c, us, s, ds, r, s', _, rfl, _, hd, hp, _⟩ := h
    rw [List.length_cons, dpa_len hd]
    exact ln__law_pull s ds r s' hp
  · obtain ⟨W, b, c, us, s, ds, r, s', hW, rfl, hB, hd, ⟨n, rfl, h0, h1, rfl, rfl⟩, q⟩ := h
    obtain ⟨v, rfl, dv⟩ := dp1 hd
    cases dv
    exact ⟨t__law_pull K, (pss_cons (ps_set (i := 2) sc__law_pull.nd rfl (by first | exact Or.inl rfl | exact Or.inr rfl) (pe_ix ix_seq (pv 0) pe_int (fun _ _ => rfl)))
      (pss_cons (ps_set (i := 3) sc__law_pull.nd rfl (by first | exact Or.inl rfl | exact Or.inr rfl) pe_int)
      (pss_cons (ps_if (pt_cmpR op_gt (pe_callB c_len (by rfl) T.n_len PySem.boot_len (pa_cons (pv 2) pa_nil)) pe_int (nomark _)) (pss_cons (ps_set (i := 4) sc__law_pull.nd rfl (by first | exact Or.inl rfl | exact Or.inr rfl) (pe_op op_modX (pe_ix ix_seq (pv 0) pe_int (fun _ _ => rfl)) (pe_callB c_len (by rfl) T.n_len PySem.boot_len (pa_cons (pv 2) pa_nil))))
      (pss_cons (ps_set (i := 3) sc__law_pull.nd rfl (by first | exact Or.inl rfl | exact Or.inr rfl) (pe_ix ix_seq (pv 2) (pv 4) (fun _ _ => rfl)))
      (pss_one (ps_if (pt_cmpR op_ge (pe_callB c_abs (by rfl) T.n_abs (by decide +kernel) (pa_cons (pv 3) pa_nil)) (pe_op op_pow pe_int pe_int) (nomark _)) (pss_cons (ps_asg (pe_op op_fdivX (pv 3) (pv 1)) (pg_sub (pv 2) (pv 4) set_list))
      (pss_one (ps_ret (pe_op op_modX (pv 3) (pv 1))))) pss_nil)))) pss_nil)
      (pss_cons (ps_asg (pe_op op_add (pe_ix ix_seq (pv 0) pe_int (fun _ _ => rfl)) pe_int) (pg_sub (pv 0) pe_int set_list))
      (pss_cons (ps_asg (pe_op op_modX (pe_op op_add (pe_op op_add (pe_op op_mulW (pe_ix ix_seq (pv 0) pe_int (fun _ _ => rfl)) pe_int) (pe_op op_modX (pv 3) pe_int)) (pe_ix ix_seq (pv 0) pe_int (fun _ _ => rfl))) pe_int) (pg_sub (pv 0) pe_int set_list))
      (pss_one (ps_ret (pe_op op_modX (pe_op op_fdivX (pe_op op_modX (pe_op op_add (pe_op op_mulW (pe_ix ix_seq (pv 0) pe_int (fun _ _ => rfl)) pe_int) (pe_op op_fdivX (pe_ix ix_seq (pv 0) pe_int (fun _ _ => rfl)) pe_int)) pe_int) pe_int) (pv 1))))))))), rd__law_pull hB h0 h1 q⟩
  ) only [↓qt_eq])
theorem ok__law_gcd (T : TX w K mg) : FnOk Pg w K mg base CX0 1 T.a__law_gcd T.d__law_gcd ["_law_one", "_law_other"] (spP K P_gcd) :=
  okP T.F__law_gcd sc__law_gcd ln__law_gcd (fun ds r h cdv A outer sh H E hr => ⟨t__law_gcd K, (pss_cons (ps_set (i := 0) sc__law_gcd.nd rfl (by first | exact Or.inl rfl | exact Or.inr rfl) (pe_callB c_abs (by rfl) T.n_abs (by decide +kernel) (pa_cons (pv 0) pa_nil)))
      (pss_cons (ps_set (i := 1) sc__law_gcd.nd rfl (by first | exact Or.inl rfl | exact Or.inr rfl) (pe_callB c_abs (by rfl) T.n_abs (by decide +kernel) (pa_cons (pv 1) pa_nil)))
      (pss_cons (ps_while PassesOwn.never (pt_cmpR op_gt (pv 1) pe_int (nomark _)) (pss_cons (ps_set (i := 2) sc__law_gcd.nd rfl (by first | exact Or.inl rfl | exact Or.inr rfl) (pv 1))
      (pss_cons (ps_set (i := 1) sc__law_gcd.nd rfl (by first | exact Or.inl rfl | exact Or.inr rfl) (pe_op op_modX (pv 0) (pv 1)))
      (pss_one (ps_set (i := 0) sc__law_gcd.nd rfl (by first | exact Or.inl rfl | exact Or.inr rfl) (pv 2))))))
      (pss_one (ps_ret (pe_callB (c_max2 rfl) (by rfl) T.n_max (by decide +kernel) (pa_cons pe_int (pa_cons (pv 0) pa_nil)))))))), rd__law_gcd h⟩)
theorem ok__law_frac (T : TX w K mg) : FnOk Pg w K mg base CX0 2 T.a__law_frac T.d__law_frac ["_law_above", "_law_below"] (spP K P_frac) :=
  okP T.F__law_frac sc__law_frac ln__law_frac (fun ds r h cdv A outer sh H E hr => ⟨t__law_frac K, (pss_cons (ps_set (i := 2) sc__law_frac.nd rfl (by first | exact Or.inl rfl | exact Or.inr rfl) (pe_call (ok__law_gcd T) (hr.mono (by decide)) (by rfl) T.g__law_gcd T.F__law_gcd.kp T.b__law_gcd .nil pass0 (pa_cons (pv 0) (pa_cons (pv 1) pa_nil))))
      (pss_cons (ps_if (pt_cmpR op_lt (pv 1) pe_int (nomark _)) (pss_one (ps_set (i := 2) sc__law_frac.nd rfl (by first | exact Or.inl rfl | exact Or.inr rfl) (pe_un un_neg (pv 2)))) pss_nil)
      (pss_one (ps_ret (pe_tup (pa_cons (pe_op op_fdivX (pv 0) (pv 2)) (pa_cons (pe_op op_fdivX (pv 1) (pv 2)) pa_nil))))))), rd__law_frac h⟩)
theorem ok__law_part (T : TX w K mg) : FnOk Pg w K mg base CX0 3 T.a__law_part T.d__law_part ["_law_bag_here"] (spB K P_part) :=
  okB T.F__law_part sc__law_part ln__law_part (fun s ds r s' h ok cdv A outer sh H E hr => ⟨t__law_part K, (pss_one (ps_ret (pe_call (ok__law_frac T) (hr.mono (by decide)) (by rfl) T.g__law_frac T.F__law_frac.kp T.b__law_frac .nil pass0 (pa_cons (pe_op op_sub (pe_call (ok__law_pull T) (hr.mono (by decide)) (by rfl) T.g__law_pull T.F__law_pull.kp T.b__law_pull .nil pass0 (pa_cons (pv 0) (pa_cons pe_int pa_nil))) pe_int) (pa_cons (pe_ix ix_seq (pe_lst (pa_cons pe_int (pa_cons pe_int (pa_cons pe_int (pa_cons pe_int pa_nil))))) (pe_call (ok__law_pull T) (hr.mono (by decide)) (by rfl) T.g__law_pull T.F__law_pull.kp T.b__law_pull .nil pass0 (pa_cons (pv 0) (pa_cons pe_int pa_nil))) (fun _ _ => rfl)) pa_nil))))), rd__law_part h ok⟩)
theorem ok__law_whole_part (T : TX w K mg) : FnOk Pg w K mg base CX0 2 T.a__law_whole_part T.d__law_whole_part ["_law_bag_here"] (spB K P_wholePart) :=
  okB T.F__law_whole_part sc__law_whole_part ln__law_whole_part (fun s ds r s' h ok cdv A outer sh H E hr => ⟨t__law_whole_part K, (pss_one (ps_ret (pe_tup (pa_cons (pe_op op_sub (pe_call (ok__law_pull T) (hr.mono (by decide)) (by rfl) T.g__law_pull T.F__law_pull.kp T.b__law_pull .nil pass0 (pa_cons (pv 0) (pa_cons pe_int pa_nil))) pe_int) (pa_cons pe_int pa_nil))))), rd__law_whole_part h ok⟩)
theorem ok__law_entry (T : TX w K mg) : FnOk Pg w K mg base CX0 4 T.a__law_entry T.d__law_entry ["_law_bag_here"] (spB K P_entry) :=
  okB T.F__law_entry sc__law_entry ln__law_entry (fun s ds r s' h ok cdv A outer sh H E hr => ⟨t__law_entry K, (pss_one (ps_ret (pe_ifExp (pt_cmpR op_eq (pe_call (ok__law_pull T) (hr.mono (by decide)) (by rfl) T.g__law_pull T.F__law_pull.kp T.b__law_pull .nil pass0 (pa_cons (pv 0) (pa_cons pe_int pa_nil))) pe_int (nomark _)) (pe_call (ok__law_part T) (hr.mono (by decide)) (by rfl) T.g__law_part T.F__law_part.kp T.b__law_part .nil pass0 (pa_cons (pv 0) pa_nil)) (pe_call (ok__law_whole_part T) (hr.mono (by decide)) (by rfl) T.g__law_whole_part T.F__law_whole_part.kp T.b__law_whole_part .nil pass0 (pa_cons (pv 0) pa_nil))))), rd__law_entry h ok⟩)
theorem ok__law_map (T : TX w K mg) : FnOk Pg w K mg base CX0 5 T.a__law_map T.d__law_map ["_law_bag_here", "_law_start", "_law_goal"] (spB K P_map) :=
  okB T.F__law_map sc__law_map ln__law_map (fun s ds r s' h ok cdv A outer sh H E hr => ⟨t__law_map K, (pss_one (ps_ret (pe_callTy c_tuple (by rfl) T.n_tuple (by decide +kernel) (pa_cons (pe_lc (own := [("_law_row", 3)]) (g := (gName 3)) (tt := tYes) rfl sc__law_map.nd (pi_range1 (by rfl) T.n_range (pa_cons (pv 2) pa_nil)) (blkOk_by (own := [("_law_row", 3)]) (N := ["_law_bag_here", "_law_start", "_law_goal", "_law_row", "_law_at"]) (sc := defScope s__law_map) (by decide +kernel)) (fun _ _ _ _ _ => (pg_name (i := 3) sc__law_map.nd rfl (by first | exact Or.inl rfl | exact Or.inr rfl))) (fun _ _ _ _ _ => pts_nil) (fun _ _ _ _ _ => (pe_callTy c_tuple (by rfl) T.n_tuple (by decide +kernel) (pa_cons (pe_lc (own := [("_law_at", 4)]) (g := (gName 4)) (tt := tYes) rfl sc__law_map.nd (pi_range1 (by rfl) T.n_range (pa_cons (pe_op op_add (pv 1) pe_int) pa_nil)) (blkOk_by (own := [("_law_at", 4)]) (N := ["_law_bag_here", "_law_start", "_law_goal", "_law_row", "_law_at"]) (sc := ({ kind := PySem.ScopeKind.function, names := [ (PySem.Str.ofString ".0", PySem.NameKind.local), (PySem.Str.ofString "_law_row", PySem.NameKind.local), (PySem.Str.ofString "tuple", PySem.NameKind.globalImplicit), (PySem.Str.ofString "range", PySem.NameKind.globalImplicit), (PySem.Str.ofString "_law_bag_here", PySem.NameKind.cell), (PySem.Str.ofString "_law_start", PySem.NameKind.cell)], isGenerator := false, isCoroutine := false, more := [] : PySem.Scope })) (by decide +kernel)) (fun _ _ _ _ _ => (pg_name (i := 4) sc__law_map.nd rfl (by first | exact Or.inl rfl | exact Or.inr rfl))) (fun _ _ _ _ _ => pts_nil) (fun _ _ _ _ _ => (pe_call (ok__law_entry T) (hr.mono (by decide)) (by rfl) T.g__law_entry T.F__law_entry.kp T.b__law_entry .nil pass0 (pa_cons (pv 0) pa_nil)))) pa_nil)))) pa_nil)))), rd__law_map h ok⟩)
theorem ok__law_unit (T : TX w K mg) : FnOk Pg w K mg base CX0 1 T.a__law_unit T.d__law_unit ["_law_rank"] (spW0 K P_lunit) :=
  okW T.cs T.F__law_unit sc__law_unit ln__law_unit (fun ds A h cdv Ar outer sh H E hr => ⟨t__law_unit K, (pss_cons (ps_set (i := 1) sc__law_unit.nd rfl (by first | exact Or.inl rfl | exact Or.inr rfl) (pe_lst pa_nil))
      (pss_cons (ps_for PassesOwn.never rfl (pi_range1 (by rfl) T.n_range (pa_cons (pv 0) pa_nil)) (pg_name (i := 2) sc__law_unit.nd rfl (by first | exact Or.inl rfl | exact Or.inr rfl)) (pss_cons (ps_setLc (i := 3) (own := [("_law_to", 4)]) (g := (gName 4)) (tt := tYes) rfl sc__law_unit.nd rfl rfl (sw_true rfl rfl rfl (by decide +kernel)) (pi_range1 (by rfl) T.n_range (pa_cons (pe_op op_addI (pv 0) pe_int) pa_nil)) (blkOk_by (own := [("_law_to", 4)]) (N := ["_law_rank", "_law_found", "_law_at", "_law_row", "_law_to"]) (sc := defScope s__law_unit) (by decide +kernel)) (fun _ _ _ _ _ => (pg_name (i := 4) sc__law_unit.nd rfl (by first | exact Or.inl rfl | exact Or.inr rfl))) (fun _ _ _ _ _ => pts_nil) (fun _ _ _ _ _ => (pe_tup (pa_cons pe_int (pa_cons pe_int pa_nil)))))
      (pss_cons (ps_asg (pe_tup (pa_cons pe_int (pa_cons pe_int pa_nil))) (pg_sub (pv 3) (pv 2) set_list))
      (pss_one (ps_expr (pe_bm PySem.F.plainAttrs_list PySem.F.slot_list_append PySem.F.type_list_append mt_append (pv 1) (pa_cons (pe_callTy c_tuple (by rfl) T.n_tuple (by decide +kernel) (pa_cons (pv 3) pa_nil)) pa_nil)))))))
      (pss_one (ps_ret (pe_callTy c_tuple (by rfl) T.n_tuple (by decide +kernel) (pa_cons (pv 1) pa_nil)))))), rd__law_unit h⟩)
theorem ok__law_fit_tree (T : TX w K mg) : ∀ n, FnOk Pg w K mg base CX0 (9 + n) T.a__law_fit_tree T.d__law_fit_tree ["_law_bag_here", "_law_deep", "_law_rank", "_law_names"] (spWB K (P_lfit n))
  | 0 => fnok_none (fun vs H Q E h => no_WB (fun _ _ z => z) h)
  | n + 1 => okWB T.cs T.F__law_fit_tree sc__law_fit_tree ln__law_fit_tree (fun ds A h cdv Ar outer sh H E hr => ⟨t__law_fit_tree K n , (pss_cons (ps_set (i := 4) sc__law_fit_tree.nd rfl (by first | exact Or.inl rfl | exact Or.inr rfl) (pe_call (ok__law_pull T) (hr.mono (by first | omega | (simp only [Nat.add_eq]; omega))) (by rfl) T.g__law_pull T.F__law_pull.kp T.b__law_pull .nil pass0 (pa_cons (pv 0) (pa_cons pe_int pa_nil))))
      (pss_cons (ps_if (PW.pt (pw_or (pt_cmpR op_eq (pv 1) pe_int (nomark _)) (pw_or1 (pt_cmpR op_ltI (pv 4) pe_int (nomark _))))) (pss_cons (ps_setLc (i := 7) (own := [("_law_name", 10), ("_law_size", 11)]) (g := (gTup K 2 (gCons (gName 10) (gCons (gName 11) gNil)))) (tt := (tTest (tOp rEq (tVar 11) (tVar 2)))) rfl sc__law_fit_tree.nd rfl rfl (sw_true rfl rfl rfl (by decide +kernel)) (pi_list (pv 3)) (blkOk_by (own := [("_law_name", 10), ("_law_size", 11)]) (N := ["_law_bag_here", "_law_deep", "_law_rank", "_law_names", "_law_kind", "_law_word", "_law_first", "_law_fitting", "_law_start", "_law_table", "_law_name", "_law_size"]) (sc := defScope s__law_fit_tree) (by decide +kernel)) (fun _ _ _ _ _ => (pg_tup rfl (pgs_cons (pg_name (i := 10) sc__law_fit_tree.nd rfl (by first | exact Or.inl rfl | exact Or.inr rfl)) (pgs_cons (pg_name (i := 11) sc__law_fit_tree.nd rfl (by first | exact Or.inl rfl | exact Or.inr rfl)) pgs_nil)))) (fun _ _ _ _ _ => pts_one (pt_cmpR op_eq (pv 11) (pv 2) (nomark _))) (fun _ _ _ _ _ => (pv 10)))
      (pss_one (ps_if (pt_cmpR op_gtI (pe_callB c_len (by rfl) T.n_len PySem.boot_len (pa_cons (pv 7) pa_nil)) pe_int (nomark _)) (pss_one (ps_ret (pe_tup (pa_cons pe_str (pa_cons (pe_ix ix_seq (pv 7) (pe_call (ok__law_pull T) (hr.mono (by first | omega | (simp only [Nat.add_eq]; omega))) (by rfl) T.g__law_pull T.F__law_pull.kp T.b__law_pull .nil pass0 (pa_cons (pv 0) (pa_cons (pe_callB c_len (by rfl) T.n_len PySem.boot_len (pa_cons (pv 7) pa_nil)) pa_nil))) (fun _ _ => rfl)) pa_nil))))) pss_nil))) pss_nil)
      (pss_cons (ps_if (pt_cmpR op_eq (pv 1) pe_int (nomark _)) (pss_one (ps_ret (pe_tup (pa_cons pe_str (pa_cons (pe_call (ok__law_map T) (hr.mono (by first | omega | (simp only [Nat.add_eq]; omega))) (by rfl) T.g__law_map T.F__law_map.kp T.b__law_map .nil pass0 (pa_cons (pv 0) (pa_cons (pe_op op_subI pe_int (pv 2)) (pa_cons (pv 2) pa_nil)))) (pa_cons (pe_tup (pa_cons pe_str (pa_cons (pe_ix ix_seq (pe_lc (own := [("_law_name", 10), ("_law_size", 11)]) (g := (gTup K 2 (gCons (gName 10) (gCons (gName 11) gNil)))) (tt := (tTest (tOp rNe (tVar 11) (tVar 2)))) rfl sc__law_fit_tree.nd (pi_list (pv 3)) (blkOk_by (own := [("_law_name", 10), ("_law_size", 11)]) (N := ["_law_bag_here", "_law_deep", "_law_rank", "_law_names", "_law_kind", "_law_word", "_law_first", "_law_fitting", "_law_start", "_law_table", "_law_name", "_law_size"]) (sc := defScope s__law_fit_tree) (by decide +kernel)) (fun _ _ _ _ _ => (pg_tup rfl (pgs_cons (pg_name (i := 10) sc__law_fit_tree.nd rfl (by first | exact Or.inl rfl | exact Or.inr rfl)) (pgs_cons (pg_name (i := 11) sc__law_fit_tree.nd rfl (by first | exact Or.inl rfl | exact Or.inr rfl)) pgs_nil)))) (fun _ _ _ _ _ => pts_one (pt_cmpR op_ne (pv 11) (pv 2) (nomark _))) (fun _ _ _ _ _ => (pv 10))) pe_int (fun _ _ => rfl)) pa_nil))) pa_nil)))))) pss_nil)
      (pss_cons (ps_if (pt_cmpR op_ltI (pv 4) pe_int (nomark _)) (pss_one (ps_ret (pe_tup (pa_cons pe_str (pa_cons (pe_ix ix_seq (pe_lst (pa_cons pe_int (pa_cons (pe_un un_negI pe_int) (pa_cons pe_int (pa_cons (pe_un un_negI pe_int) (pa_cons pe_int pa_nil)))))) (pe_call (ok__law_pull T) (hr.mono (by first | omega | (simp only [Nat.add_eq]; omega))) (by rfl) T.g__law_pull T.F__law_pull.kp T.b__law_pull .nil pass0 (pa_cons (pv 0) (pa_cons pe_int pa_nil))) (fun _ _ => rfl)) (pa_cons (pe_call (ok__law_fit_tree T n) hr (by rfl) T.g__law_fit_tree T.F__law_fit_tree.kp T.b__law_fit_tree .nil pass0 (pa_cons (pv 0) (pa_cons (pe_op op_subI (pv 1) pe_int) (pa_cons (pv 2) (pa_cons (pv 3) pa_nil))))) pa_nil)))))) pss_nil)
      (pss_cons (ps_if (pt_cmpR op_ltI (pv 4) pe_int (nomark _)) (pss_one (ps_ret (pe_tup (pa_cons pe_str (pa_cons (pe_call (ok__law_fit_tree T n) hr (by rfl) T.g__law_fit_tree T.F__law_fit_tree.kp T.b__law_fit_tree .nil pass0 (pa_cons (pv 0) (pa_cons (pe_op op_subI (pv 1) pe_int) (pa_cons (pv 2) (pa_cons (pv 3) pa_nil))))) pa_nil))))) pss_nil)
      (pss_cons (ps_if (pt_cmpR op_ltI (pv 4) pe_int (nomark _)) (pss_cons (ps_set (i := 8) sc__law_fit_tree.nd rfl (by first | exact Or.inl rfl | exact Or.inr rfl) (pe_op op_addI pe_int (pe_call (ok__law_pull T) (hr.mono (by first | omega | (simp only [Nat.add_eq]; omega))) (by rfl) T.g__law_pull T.F__law_pull.kp T.b__law_pull .nil pass0 (pa_cons (pv 0) (pa_cons pe_int pa_nil)))))
      (pss_cons (ps_set (i := 9) sc__law_fit_tree.nd rfl (by first | exact Or.inl rfl | exact Or.inr rfl) (pe_call (ok__law_map T) (hr.mono (by first | omega | (simp only [Nat.add_eq]; omega))) (by rfl) T.g__law_map T.F__law_map.kp T.b__law_map .nil pass0 (pa_cons (pv 0) (pa_cons (pv 8) (pa_cons (pv 2) pa_nil)))))
      (pss_cons (ps_if (PW.pt (pw_and (pt_cmpR op_eq (pv 8) (pv 2) (nomark _)) (pw_and1 (pt_cmpR op_eq (pe_call (ok__law_pull T) (hr.mono (by first | omega | (simp only [Nat.add_eq]; omega))) (by rfl) T.g__law_pull T.F__law_pull.kp T.b__law_pull .nil pass0 (pa_cons (pv 0) (pa_cons pe_int pa_nil))) pe_int (nomark _))))) (pss_one (ps_set (i := 9) sc__law_fit_tree.nd rfl (by first | exact Or.inl rfl | exact Or.inr rfl) (pe_call (ok__law_unit T) (hr.mono (by first | omega | (simp only [Nat.add_eq]; omega))) (by rfl) T.g__law_unit T.F__law_unit.kp T.b__law_unit .nil pass0 (pa_cons (pv 2) pa_nil)))) pss_nil)
      (pss_one (ps_ret (pe_tup (pa_cons pe_str (pa_cons (pv 9) (pa_cons (pe_call (ok__law_fit_tree T n) hr (by rfl) T.g__law_fit_tree T.F__law_fit_tree.kp T.b__law_fit_tree .nil pass0 (pa_cons (pv 0) (pa_cons (pe_op op_subI (pv 1) pe_int) (pa_cons (pv 8) (pa_cons (pv 3) pa_nil))))) pa_nil))))))))) pss_nil)
      (pss_cons (ps_set (i := 5) sc__law_fit_tree.nd rfl (by first | exact Or.inl rfl | exact Or.inr rfl) (pe_ix ix_seq (pe_lst (pa_cons pe_str (pa_cons pe_str (pa_cons pe_str (pa_cons pe_str pa_nil))))) (pe_call (ok__law_pull T) (hr.mono (by first | omega | (simp only [Nat.add_eq]; omega))) (by rfl) T.g__law_pull T.F__law_pull.kp T.b__law_pull .nil pass0 (pa_cons (pv 0) (pa_cons pe_int pa_nil))) (fun _ _ => rfl)))
      (pss_cons (ps_set (i := 6) sc__law_fit_tree.nd rfl (by first | exact Or.inl rfl | exact Or.inr rfl) (pe_call (ok__law_fit_tree T n) hr (by rfl) T.g__law_fit_tree T.F__law_fit_tree.kp T.b__law_fit_tree .nil pass0 (pa_cons (pv 0) (pa_cons (pe_op op_subI (pv 1) pe_int) (pa_cons (pv 2) (pa_cons (pv 3) pa_nil))))))
      (pss_one (ps_ret (pe_tup (pa_cons (pv 5) (pa_cons (pv 6) (pa_cons (pe_call (ok__law_fit_tree T n) hr (by rfl) T.g__law_fit_tree T.F__law_fit_tree.kp T.b__law_fit_tree .nil pass0 (pa_cons (pv 0) (pa_cons (pe_op op_subI (pv 1) pe_int) (pa_cons (pv 2) (pa_cons (pv 3) pa_nil))))) pa_nil)))))))))))))), rd__law_fit_tree h⟩)
theorem ok__law_like (T : TX w K mg) : ∀ n, FnOk Pg w K mg base CX0 n T.a__law_like T.d__law_like ["_law_found", "_law_due"] (spP K (P_like n))
  | 0 => fnok_false
  | n + 1 => okP T.F__law_like sc__law_like ln_like34 (fun ds r h cdv A outer sh H E hr => ⟨t_like34 K n, (pss_cons (ps_if (pt_val (pe_callB call_isiT (by rfl) T.n_isinstance (by decide +kernel) (pa_cons (pv 1) (pa_cons (pe_tup (pa_cons (pe_bltn (v := .ty "tuple") (by rfl) T.n_tuple (by decide +kernel) rfl) (pa_cons (pe_bltn (v := .ty "list") (by rfl) T.n_list (by decide +kernel) rfl) pa_nil))) pa_nil)))) (pss_cons (ps_if (pt_cmpR op_ne (pe_callB call_isi (by rfl) T.n_isinstance (by decide +kernel) (pa_cons (pv 0) (pa_cons (pe_bltn (v := .ty "tuple") (by rfl) T.n_tuple (by decide +kernel) rfl) pa_nil))) (pe_callB call_isi (by rfl) T.n_isinstance (by decide +kernel) (pa_cons (pv 1) (pa_cons (pe_bltn (v := .ty "tuple") (by rfl) T.n_tuple (by decide +kernel) rfl) pa_nil))) (nomark _)) (pss_one (ps_ret pe_bl)) pss_nil)
      (pss_cons (ps_if (PW.pt (pw_or (pt_not (pt_val (pe_callB call_isiT (by rfl) T.n_isinstance (by decide +kernel) (pa_cons (pv 0) (pa_cons (pe_tup (pa_cons (pe_bltn (v := .ty "tuple") (by rfl) T.n_tuple (by decide +kernel) rfl) (pa_cons (pe_bltn (v := .ty "list") (by rfl) T.n_list (by decide +kernel) rfl) pa_nil))) pa_nil))))) (pw_or1 (pt_cmpR op_ne (pe_callB c_len (by rfl) T.n_len PySem.boot_len (pa_cons (pv 0) pa_nil)) (pe_callB c_len (by rfl) T.n_len PySem.boot_len (pa_cons (pv 1) pa_nil)) (nomark _))))) (pss_one (ps_ret pe_bl)) pss_nil)
      (pss_one (ps_ret (pe_callB (cr_all rfl) (by rfl) T.n_all (by decide +kernel) (pa_cons (pe_lc (own := [("_law_at", 2)]) (g := (gName 2)) (tt := tYes) rfl sc__law_like.nd (pi_range1 (by rfl) T.n_range (pa_cons (pe_callB c_len (by rfl) T.n_len PySem.boot_len (pa_cons (pv 1) pa_nil)) pa_nil)) (blkOk_by (own := [("_law_at", 2)]) (N := ["_law_found", "_law_due", "_law_at"]) (sc := defScope s__law_like) (by decide +kernel)) (fun _ _ _ _ _ => (pg_name (i := 2) sc__law_like.nd rfl (by first | exact Or.inl rfl | exact Or.inr rfl))) (fun _ _ _ _ _ => pts_nil) (fun _ _ _ _ _ => (pe_call (ok__law_like T n) hr (by rfl) T.g__law_like T.F__law_like.kp T.b__law_like .nil pass0 (pa_cons (pe_ix ix_seq (pv 0) (pv 2) (fun _ _ => rfl)) (pa_cons (pe_ix ix_seq (pv 1) (pv 2) (fun _ _ => rfl)) pa_nil))))) pa_nil)))))) pss_nil)
      (pss_cons (ps_if (pt_val (pe_callB call_isi (by rfl) T.n_isinstance (by decide +kernel) (pa_cons (pv 1) (pa_cons (pe_bltn (v := .ty "bool") (by rfl) T.n_bool (by decide +kernel) rfl) pa_nil)))) (pss_one (ps_ret (pe_and (pe_callB call_isi (by rfl) T.n_isinstance (by decide +kernel) (pa_cons (pv 0) (pa_cons (pe_bltn (v := .ty "bool") (by rfl) T.n_bool (by decide +kernel) rfl) pa_nil))) (pe_one (pe_cmpR op_eq (pv 0) (pv 1) (nomark _)))))) pss_nil)
      (pss_cons (ps_if (pt_val (pe_callB call_isi (by rfl) T.n_isinstance (by decide +kernel) (pa_cons (pv 1) (pa_cons (pe_bltn (v := .ty "int") (by rfl) T.n_int (by decide +kernel) rfl) pa_nil)))) (pss_one (ps_ret (pe_and (pe_callB call_isi (by rfl) T.n_isinstance (by decide +kernel) (pa_cons (pv 0) (pa_cons (pe_bltn (v := .ty "int") (by rfl) T.n_int (by decide +kernel) rfl) pa_nil))) (pe_and (pe_not (pe_callB call_isi (by rfl) T.n_isinstance (by decide +kernel) (pa_cons (pv 0) (pa_cons (pe_bltn (v := .ty "bool") (by rfl) T.n_bool (by decide +kernel) rfl) pa_nil)))) (pe_one (pe_cmpR op_eq (pv 0) (pv 1) (nomark _))))))) pss_nil)
      (pss_cons (ps_if (pt_val (pe_callB call_isi (by rfl) T.n_isinstance (by decide +kernel) (pa_cons (pv 1) (pa_cons (pe_bltn (v := .ty "str") (by rfl) T.n_str (by decide +kernel) rfl) pa_nil)))) (pss_one (ps_ret (pe_and (pe_callB call_isi (by rfl) T.n_isinstance (by decide +kernel) (pa_cons (pv 0) (pa_cons (pe_bltn (v := .ty "str") (by rfl) T.n_str (by decide +kernel) rfl) pa_nil))) (pe_one (pe_cmpR op_eq (pv 0) (pv 1) (nomark _)))))) pss_nil)
      (pss_one (ps_ret (pe_and (pe_cmpR o_isN (pv 1) pe_non (nomark _)) (pe_one (pe_cmpR o_isN (pv 0) pe_non (nomark _)))))))))), rd_like34 h⟩)
theorem ok__law_rule_turn (T : TX w K mg) : FnOk Pg w K mg base CX0 1 T.a__law_rule_turn T.d__law_rule_turn ["_law_tree"] (spW0 K P_lturn) :=
  okW T.cs T.F__law_rule_turn sc__law_rule_turn ln__law_rule_turn (fun ds A h cdv Ar outer sh H E hr => ⟨t__law_rule_turn K, (pss_cons (ps_set (i := 1) sc__law_rule_turn.nd rfl (by first | exact Or.inl rfl | exact Or.inr rfl) (pe_ix ix_seq (pv 0) pe_int (fun _ _ => rfl)))
      (pss_cons (ps_if (pt_cmpR op_eq (pe_ix ix_seq (pv 1) pe_int (fun _ _ => rfl)) pe_str (nomark _)) (pss_one (ps_ret (pe_tup (pa_cons pe_str (pa_cons (pe_ix ix_seq (pv 1) pe_int (fun _ _ => rfl)) pa_nil))))) pss_nil)
      (pss_cons (ps_if (pt_cmpR op_eq (pe_ix ix_seq (pv 1) pe_int (fun _ _ => rfl)) pe_str (nomark _)) (pss_one (ps_ret (pe_tup (pa_cons pe_str (pa_cons (pe_tup (pa_cons pe_str (pa_cons (pe_ix ix_seq (pv 1) pe_int (fun _ _ => rfl)) (pa_cons (pe_tup (pa_cons pe_str (pa_cons (pe_ix ix_seq (pv 1) pe_int (fun _ _ => rfl)) pa_nil))) pa_nil)))) pa_nil))))) pss_nil)
      (pss_cons (ps_if (pt_cmpR op_eq (pe_ix ix_seq (pv 1) pe_int (fun _ _ => rfl)) pe_str (nomark _)) (pss_one (ps_ret (pe_tup (pa_cons pe_str (pa_cons (pe_tup (pa_cons pe_str (pa_cons (pe_ix ix_seq (pv 1) pe_int (fun _ _ => rfl)) (pa_cons (pe_tup (pa_cons pe_str (pa_cons (pe_ix ix_seq (pv 1) pe_int (fun _ _ => rfl)) pa_nil))) pa_nil)))) pa_nil))))) pss_nil)
      (pss_cons (ps_if (pt_cmpR (op_inS (u65 hr)) (pe_ix ix_seq (pv 1) pe_int (fun _ _ => rfl)) (pe_lst (pa_cons pe_str (pa_cons pe_str (pa_cons pe_str pa_nil)))) (by rfl)) (pss_one (ps_ret (pe_tup (pa_cons pe_str (pa_cons (pe_tup (pa_cons (pe_ix ix_seq (pv 1) pe_int (fun _ _ => rfl)) (pa_cons (pe_tup (pa_cons pe_str (pa_cons (pe_ix ix_seq (pv 1) pe_int (fun _ _ => rfl)) pa_nil))) (pa_cons (pe_tup (pa_cons pe_str (pa_cons (pe_ix ix_seq (pv 1) pe_int (fun _ _ => rfl)) pa_nil))) pa_nil)))) pa_nil))))) pss_nil)
      (pss_one (ps_ret pe_non))))))), rd__law_rule_turn h⟩)
theorem ok__law_add (T : TX w K mg) : FnOk Pg w K mg base CX0 3 T.a__law_add T.d__law_add ["_law_one", "_law_other"] (spP K P_add) :=
  okP T.F__law_add sc__law_add ln__law_add (fun ds r h cdv A outer sh H E hr => ⟨t__law_add K, (pss_one (ps_ret (pe_call (ok__law_frac T) (hr.mono (by decide)) (by rfl) T.g__law_frac T.F__law_frac.kp T.b__law_frac .nil pass0 (pa_cons (pe_op op_add (pe_op op_mulW (pe_ix ix_seq (pv 0) pe_int (fun _ _ => rfl)) (pe_ix ix_seq (pv 1) pe_int (fun _ _ => rfl))) (pe_op op_mulW (pe_ix ix_seq (pv 1) pe_int (fun _ _ => rfl)) (pe_ix ix_seq (pv 0) pe_int (fun _ _ => rfl)))) (pa_cons (pe_op op_mulW (pe_ix ix_seq (pv 0) pe_int (fun _ _ => rfl)) (pe_ix ix_seq (pv 1) pe_int (fun _ _ => rfl))) pa_nil))))), rd__law_add h⟩)
theorem ok__law_mul (T : TX w K mg) : FnOk Pg w K mg base CX0 3 T.a__law_mul T.d__law_mul ["_law_one", "_law_other"] (spP K P_lmul) :=
  okP T.F__law_mul sc__law_mul ln__law_mul (fun ds r h cdv A outer sh H E hr => ⟨t__law_mul K, (pss_one (ps_ret (pe_call (ok__law_frac T) (hr.mono (by decide)) (by rfl) T.g__law_frac T.F__law_frac.kp T.b__law_frac .nil pass0 (pa_cons (pe_op op_mulW (pe_ix ix_seq (pv 0) pe_int (fun _ _ => rfl)) (pe_ix ix_seq (pv 1) pe_int (fun _ _ => rfl))) (pa_cons (pe_op op_mulW (pe_ix ix_seq (pv 0) pe_int (fun _ _ => rfl)) (pe_ix ix_seq (pv 1) pe_int (fun _ _ => rfl))) pa_nil))))), rd__law_mul h⟩)
theorem ok__law_led (T : TX w K mg) : FnOk Pg w K mg base CX0 4 T.a__law_led T.d__law_led ["_law_kind", "_law_spot"] (spW0 K P_lled) :=
  okW T.cs T.F__law_led sc__law_led ln__law_led (fun ds A h cdv Ar outer sh H E hr => ⟨t__law_led K, (pss_cons (ps_set (i := 2) sc__law_led.nd rfl (by first | exact Or.inl rfl | exact Or.inr rfl) (pe_lst pa_nil))
      (pss_cons (ps_for PassesOwn.never rfl (pi_tup (pv 0)) (pg_name (i := 3) sc__law_led.nd rfl (by first | exact Or.inl rfl | exact Or.inr rfl)) (pss_cons (ps_set (i := 4) sc__law_led.nd rfl (by first | exact Or.inl rfl | exact Or.inr rfl) (pe_ix ix_seq (pv 3) (pe_un un_negI pe_int) (fun _ _ => rfl)))
      (pss_cons (ps_for PassesOwn.never rfl (pi_range1 (by rfl) T.n_range (pa_cons (pe_callB c_len (by rfl) T.n_len PySem.boot_len (pa_cons (pv 1) pa_nil)) pa_nil)) (pg_name (i := 5) sc__law_led.nd rfl (by first | exact Or.inl rfl | exact Or.inr rfl)) (pss_one (ps_set (i := 4) sc__law_led.nd rfl (by first | exact Or.inl rfl | exact Or.inr rfl) (pe_call (ok__law_add T) (hr.mono (by decide)) (by rfl) T.g__law_add T.F__law_add.kp T.b__law_add .nil pass0 (pa_cons (pv 4) (pa_cons (pe_call (ok__law_mul T) (hr.mono (by decide)) (by rfl) T.g__law_mul T.F__law_mul.kp T.b__law_mul .nil pass0 (pa_cons (pe_ix ix_seq (pv 3) (pv 5) (fun _ _ => rfl)) (pa_cons (pe_ix ix_seq (pv 1) (pv 5) (fun _ _ => rfl)) pa_nil))) pa_nil))))))
      (pss_one (ps_expr (pe_bm PySem.F.plainAttrs_list PySem.F.slot_list_append PySem.F.type_list_append mt_append (pv 2) (pa_cons (pv 4) pa_nil)))))))
      (pss_one (ps_ret (pe_callTy c_tuple (by rfl) T.n_tuple (by decide +kernel) (pa_cons (pv 2) pa_nil)))))), rd__law_led h⟩)
theorem ok__law_sub (T : TX w K mg) : FnOk Pg w K mg base CX0 3 T.a__law_sub T.d__law_sub ["_law_one", "_law_other"] (spP K P_lsub) :=
  okP T.F__law_sub sc__law_sub ln__law_sub (fun ds r h cdv A outer sh H E hr => ⟨t__law_sub K, (pss_one (ps_ret (pe_call (ok__law_frac T) (hr.mono (by decide)) (by rfl) T.g__law_frac T.F__law_frac.kp T.b__law_frac .nil pass0 (pa_cons (pe_op op_sub (pe_op op_mulW (pe_ix ix_seq (pv 0) pe_int (fun _ _ => rfl)) (pe_ix ix_seq (pv 1) pe_int (fun _ _ => rfl))) (pe_op op_mulW (pe_ix ix_seq (pv 1) pe_int (fun _ _ => rfl)) (pe_ix ix_seq (pv 0) pe_int (fun _ _ => rfl)))) (pa_cons (pe_op op_mulW (pe_ix ix_seq (pv 0) pe_int (fun _ _ => rfl)) (pe_ix ix_seq (pv 1) pe_int (fun _ _ => rfl))) pa_nil))))), rd__law_sub h⟩)
theorem ok__law_behind_map (T : TX w K mg) : FnOk Pg w K mg base CX0 5 T.a__law_behind_map T.d__law_behind_map ["_law_first", "_law_then", "_law_start"] (spW0 K P_lends) :=
  okW T.cs T.F__law_behind_map sc__law_behind_map ln__law_ends (fun ds A h cdv Ar outer sh H E hr => ⟨t__law_ends K, (pss_cons (ps_set (i := 3) sc__law_behind_map.nd rfl (by first | exact Or.inl rfl | exact Or.inr rfl) (pe_callTy c_tuple (by rfl) T.n_tuple (by decide +kernel) (pa_cons (pe_lc (own := [("_law_at", 6)]) (g := (gName 6)) (tt := tYes) rfl sc__law_behind_map.nd (pi_range1 (by rfl) T.n_range (pa_cons (pv 2) pa_nil)) (blkOk_by (own := [("_law_at", 6)]) (N := ["_law_first", "_law_then", "_law_start", "_law_none", "_law_last", "_law_found", "_law_at", "_law_unit_here", "_law_there", "_law_row"]) (sc := defScope s__law_behind_map) (by decide +kernel)) (fun _ _ _ _ _ => (pg_name (i := 6) sc__law_behind_map.nd rfl (by first | exact Or.inl rfl | exact Or.inr rfl))) (fun _ _ _ _ _ => pts_nil) (fun _ _ _ _ _ => (pe_tup (pa_cons pe_int (pa_cons pe_int pa_nil))))) pa_nil)))
      (pss_cons (ps_set (i := 4) sc__law_behind_map.nd rfl (by first | exact Or.inl rfl | exact Or.inr rfl) (pe_call (ok__law_led T) (hr.mono (by decide)) (by rfl) T.g__law_led T.F__law_led.kp T.b__law_led .nil pass0 (pa_cons (pv 1) (pa_cons (pe_call (ok__law_led T) (hr.mono (by decide)) (by rfl) T.g__law_led T.F__law_led.kp T.b__law_led .nil pass0 (pa_cons (pv 0) (pa_cons (pv 3) pa_nil))) pa_nil))))
      (pss_cons (ps_set (i := 5) sc__law_behind_map.nd rfl (by first | exact Or.inl rfl | exact Or.inr rfl) (pe_lc (own := [("_law_row", 9)]) (g := (gName 9)) (tt := tYes) rfl sc__law_behind_map.nd (pi_tup (pv 1)) (blkOk_by (own := [("_law_row", 9)]) (N := ["_law_first", "_law_then", "_law_start", "_law_none", "_law_last", "_law_found", "_law_at", "_law_unit_here", "_law_there", "_law_row"]) (sc := defScope s__law_behind_map) (by decide +kernel)) (fun _ _ _ _ _ => (pg_name (i := 9) sc__law_behind_map.nd rfl (by first | exact Or.inl rfl | exact Or.inr rfl))) (fun _ _ _ _ _ => pts_nil) (fun _ _ _ _ _ => (pe_lst pa_nil))))
      (pss_cons (ps_for PassesOwn.never rfl (pi_range1 (by rfl) T.n_range (pa_cons (pv 2) pa_nil)) (pg_name (i := 6) sc__law_behind_map.nd rfl (by first | exact Or.inl rfl | exact Or.inr rfl)) (pss_cons (ps_set (i := 7) sc__law_behind_map.nd rfl (by first | exact Or.inl rfl | exact Or.inr rfl) (pe_op op_catA (pe_op op_catA (pe_slice sl_tupA (pv 3) po_none (po_some (pv 6))) (pe_tup (pa_cons (pe_tup (pa_cons pe_int (pa_cons pe_int pa_nil))) pa_nil))) (pe_slice sl_tupA (pv 3) (po_some (pe_op op_addI (pv 6) pe_int)) po_none)))
      (pss_cons (ps_set (i := 8) sc__law_behind_map.nd rfl (by first | exact Or.inl rfl | exact Or.inr rfl) (pe_call (ok__law_led T) (hr.mono (by decide)) (by rfl) T.g__law_led T.F__law_led.kp T.b__law_led .nil pass0 (pa_cons (pv 1) (pa_cons (pe_call (ok__law_led T) (hr.mono (by decide)) (by rfl) T.g__law_led T.F__law_led.kp T.b__law_led .nil pass0 (pa_cons (pv 0) (pa_cons (pv 7) pa_nil))) pa_nil))))
      (pss_one (ps_for PassesOwn.never rfl (pi_range1 (by rfl) T.n_range (pa_cons (pe_callB c_len (by rfl) T.n_len PySem.boot_len (pa_cons (pv 1) pa_nil)) pa_nil)) (pg_name (i := 9) sc__law_behind_map.nd rfl (by first | exact Or.inl rfl | exact Or.inr rfl)) (pss_one (ps_expr (pe_bm PySem.F.plainAttrs_list PySem.F.slot_list_append PySem.F.type_list_append mt_append (pe_ix ix_seq (pv 5) (pv 9) (fun _ _ => rfl)) (pa_cons (pe_call (ok__law_sub T) (hr.mono (by decide)) (by rfl) T.g__law_sub T.F__law_sub.kp T.b__law_sub .nil pass0 (pa_cons (pe_ix ix_seq (pv 8) (pv 9) (fun _ _ => rfl)) (pa_cons (pe_ix ix_seq (pv 4) (pv 9) (fun _ _ => rfl)) pa_nil))) pa_nil)))))))))
      (pss_one (ps_ret (pe_callTy c_tuple (by rfl) T.n_tuple (by decide +kernel) (pa_cons (pe_lc (own := [("_law_row", 9)]) (g := (gName 9)) (tt := tYes) rfl sc__law_behind_map.nd (pi_range1 (by rfl) T.n_range (pa_cons (pe_callB c_len (by rfl) T.n_len PySem.boot_len (pa_cons (pv 1) pa_nil)) pa_nil)) (blkOk_by (own := [("_law_row", 9)]) (N := ["_law_first", "_law_then", "_law_start", "_law_none", "_law_last", "_law_found", "_law_at", "_law_unit_here", "_law_there", "_law_row"]) (sc := defScope s__law_behind_map) (by decide +kernel)) (fun _ _ _ _ _ => (pg_name (i := 9) sc__law_behind_map.nd rfl (by first | exact Or.inl rfl | exact Or.inr rfl))) (fun _ _ _ _ _ => pts_nil) (fun _ _ _ _ _ => (pe_callTy c_tuple (by rfl) T.n_tuple (by decide +kernel) (pa_cons (pe_op op_catL (pe_ix ix_seq (pv 5) (pv 9) (fun _ _ => rfl)) (pe_lst (pa_cons (pe_ix ix_seq (pv 4) (pv 9) (fun _ _ => rfl)) pa_nil))) pa_nil)))) pa_nil)))))))), rd__law_ends h⟩)
theorem ok__law_rule_carry (T : TX w K mg) : FnOk Pg w K mg base CX0 6 T.a__law_rule_carry T.d__law_rule_carry ["_law_tree"] (spW0 K P_lcarry) :=
  okW T.cs T.F__law_rule_carry sc__law_rule_carry ln__law_rule_carry (fun ds A h cdv Ar outer sh H E hr => ⟨t__law_rule_carry K, (pss_cons (ps_set (i := 1) sc__law_rule_carry.nd rfl (by first | exact Or.inl rfl | exact Or.inr rfl) (pe_ix ix_seq (pv 0) pe_int (fun _ _ => rfl)))
      (pss_cons (ps_set (i := 2) sc__law_rule_carry.nd rfl (by first | exact Or.inl rfl | exact Or.inr rfl) (pe_ix ix_seq (pv 0) pe_int (fun _ _ => rfl)))
      (pss_cons (ps_if (pt_cmpR (op_eqD hr.units) (pv 1) (pe_call (ok__law_unit T) (hr.mono (by decide)) (by rfl) T.g__law_unit T.F__law_unit.kp T.b__law_unit .nil pass0 (pa_cons (pe_callB c_len (by rfl) T.n_len PySem.boot_len (pa_cons (pv 1) pa_nil)) pa_nil)) (nomark _)) (pss_one (ps_ret (pe_tup (pa_cons pe_str (pa_cons (pv 2) pa_nil))))) pss_nil)
      (pss_cons (ps_if (pt_cmpR op_eq (pe_ix ix_seq (pv 2) pe_int (fun _ _ => rfl)) pe_str (nomark _)) (pss_one (ps_ret (pe_tup (pa_cons pe_str (pa_cons (pe_tup (pa_cons pe_str (pa_cons (pe_call (ok__law_behind_map T) (hr.mono (by decide)) (by rfl) T.g__law_behind_map T.F__law_behind_map.kp T.b__law_behind_map .nil pass0 (pa_cons (pe_ix ix_seq (pv 2) pe_int (fun _ _ => rfl)) (pa_cons (pv 1) (pa_cons (pe_op op_subI (pe_callB c_len (by rfl) T.n_len PySem.boot_len (pa_cons (pe_ix ix_seq (pe_ix ix_seq (pv 2) pe_int (fun _ _ => rfl)) pe_int (fun _ _ => rfl)) pa_nil)) pe_int) pa_nil)))) (pa_cons (pe_ix ix_seq (pv 2) pe_int (fun _ _ => rfl)) pa_nil)))) pa_nil))))) pss_nil)
      (pss_cons (ps_if (pt_cmpR op_eq (pe_ix ix_seq (pv 2) pe_int (fun _ _ => rfl)) pe_str (nomark _)) (pss_one (ps_ret (pe_tup (pa_cons pe_str (pa_cons (pe_tup (pa_cons pe_str (pa_cons (pe_ix ix_seq (pv 2) pe_int (fun _ _ => rfl)) (pa_cons (pe_tup (pa_cons pe_str (pa_cons (pv 1) (pa_cons (pe_ix ix_seq (pv 2) pe_int (fun _ _ => rfl)) pa_nil)))) pa_nil)))) pa_nil))))) pss_nil)
      (pss_cons (ps_if (pt_cmpR (op_inS (u65 hr)) (pe_ix ix_seq (pv 2) pe_int (fun _ _ => rfl)) (pe_lst (pa_cons pe_str (pa_cons pe_str (pa_cons pe_str pa_nil)))) (by rfl)) (pss_cons (ps_set (i := 3) sc__law_rule_carry.nd rfl (by first | exact Or.inl rfl | exact Or.inr rfl) (pv 1))
      (pss_cons (ps_if (pt_cmpR op_eq (pe_ix ix_seq (pv 2) pe_int (fun _ _ => rfl)) pe_str (nomark _)) (pss_one (ps_set (i := 3) sc__law_rule_carry.nd rfl (by first | exact Or.inl rfl | exact Or.inr rfl) (pe_callTy c_tuple (by rfl) T.n_tuple (by decide +kernel) (pa_cons (pe_lc (own := [("_law_row", 4)]) (g := (gName 4)) (tt := tYes) rfl sc__law_rule_carry.nd (pi_tup (pv 1)) (blkOk_by (own := [("_law_row", 4)]) (N := ["_law_tree", "_law_table", "_law_inner_here", "_law_second", "_law_row"]) (sc := defScope s__law_rule_carry) (by decide +kernel)) (fun _ _ _ _ _ => (pg_name (i := 4) sc__law_rule_carry.nd rfl (by first | exact Or.inl rfl | exact Or.inr rfl))) (fun _ _ _ _ _ => pts_nil) (fun _ _ _ _ _ => (pe_op op_catA (pe_slice sl_tupA (pv 4) po_none (po_some (pe_un un_negI pe_int))) (pe_tup (pa_cons (pe_tup (pa_cons pe_int (pa_cons pe_int pa_nil))) pa_nil))))) pa_nil)))) pss_nil)
      (pss_one (ps_ret (pe_tup (pa_cons pe_str (pa_cons (pe_tup (pa_cons (pe_ix ix_seq (pv 2) pe_int (fun _ _ => rfl)) (pa_cons (pe_tup (pa_cons pe_str (pa_cons (pv 1) (pa_cons (pe_ix ix_seq (pv 2) pe_int (fun _ _ => rfl)) pa_nil)))) (pa_cons (pe_tup (pa_cons pe_str (pa_cons (pv 3) (pa_cons (pe_ix ix_seq (pv 2) pe_int (fun _ _ => rfl)) pa_nil)))) pa_nil)))) pa_nil))))))) pss_nil)
      (pss_one (ps_ret pe_non)))))))), rd__law_rule_carry h⟩)
theorem ok__law_rule (T : TX w K mg) : FnOk Pg w K mg base CX0 7 T.a__law_rule T.d__law_rule ["_law_tree"] (spW0 K P_lrule) :=
  okW T.cs T.F__law_rule sc__law_rule ln__law_rule (fun ds A h cdv Ar outer sh H E hr => ⟨t__law_rule K, (pss_cons (ps_if (pt_cmpR op_eq (pe_ix ix_seq (pv 0) pe_int (fun _ _ => rfl)) pe_str (nomark _)) (pss_one (ps_ret (pe_call (ok__law_rule_turn T) (hr.mono (by decide)) (by rfl) T.g__law_rule_turn T.F__law_rule_turn.kp T.b__law_rule_turn .nil pass0 (pa_cons (pv 0) pa_nil)))) pss_nil)
      (pss_cons (ps_if (pt_cmpR op_eq (pe_ix ix_seq (pv 0) pe_int (fun _ _ => rfl)) pe_str (nomark _)) (pss_one (ps_ret (pe_call (ok__law_rule_carry T) (hr.mono (by decide)) (by rfl) T.g__law_rule_carry T.F__law_rule_carry.kp T.b__law_rule_carry .nil pass0 (pa_cons (pv 0) pa_nil)))) pss_nil)
      (pss_cons (ps_if (pt_cmpR op_eq (pe_ix ix_seq (pv 0) pe_int (fun _ _ => rfl)) pe_str (nomark _)) (pss_cons (ps_if (pt_cmpR op_eq (pe_ix ix_seq (pv 0) pe_int (fun _ _ => rfl)) pe_int (nomark _)) (pss_one (ps_ret (pe_tup (pa_cons pe_str (pa_cons (pe_ix ix_seq (pv 0) pe_int (fun _ _ => rfl)) pa_nil))))) pss_nil)
      (pss_one (ps_if (pt_cmpR op_eq (pe_ix ix_seq (pe_ix ix_seq (pv 0) pe_int (fun _ _ => rfl)) pe_int (fun _ _ => rfl)) pe_str (nomark _)) (pss_one (ps_ret (pe_tup (pa_cons pe_str (pa_cons (pe_tup (pa_cons pe_str (pa_cons (pe_op op_mulI (pe_ix ix_seq (pv 0) pe_int (fun _ _ => rfl)) (pe_ix ix_seq (pe_ix ix_seq (pv 0) pe_int (fun _ _ => rfl)) pe_int (fun _ _ => rfl))) (pa_cons (pe_ix ix_seq (pe_ix ix_seq (pv 0) pe_int (fun _ _ => rfl)) pe_int (fun _ _ => rfl)) pa_nil)))) pa_nil))))) pss_nil))) pss_nil)
      (pss_cons (ps_if (PW.pt (pw_and (pt_cmpR (op_inS (u65 hr)) (pe_ix ix_seq (pv 0) pe_int (fun _ _ => rfl)) (pe_lst (pa_cons pe_str (pa_cons pe_str pa_nil))) (by rfl)) (pw_and1 (pt_cmpR op_eq (pe_ix ix_seq (pe_ix ix_seq (pv 0) pe_int (fun _ _ => rfl)) pe_int (fun _ _ => rfl)) pe_str (nomark _))))) (pss_one (ps_ret (pe_tup (pa_cons pe_str (pa_cons (pe_tup (pa_cons pe_str (pa_cons (pe_ix ix_seq (pe_ix ix_seq (pv 0) pe_int (fun _ _ => rfl)) pe_int (fun _ _ => rfl)) (pa_cons (pe_tup (pa_cons (pe_ix ix_seq (pv 0) pe_int (fun _ _ => rfl)) (pa_cons (pe_ix ix_seq (pe_ix ix_seq (pv 0) pe_int (fun _ _ => rfl)) pe_int (fun _ _ => rfl)) (pa_cons (pe_ix ix_seq (pv 0) pe_int (fun _ _ => rfl)) pa_nil)))) pa_nil)))) pa_nil))))) pss_nil)
      (pss_cons (ps_if (PW.pt (pw_and (pt_cmpR (op_inS (u65 hr)) (pe_ix ix_seq (pv 0) pe_int (fun _ _ => rfl)) (pe_lst (pa_cons pe_str (pa_cons pe_str pa_nil))) (by rfl)) (pw_and1 (pt_cmpR op_eq (pe_ix ix_seq (pe_ix ix_seq (pv 0) pe_int (fun _ _ => rfl)) pe_int (fun _ _ => rfl)) pe_str (nomark _))))) (pss_one (ps_ret (pe_tup (pa_cons pe_str (pa_cons (pe_tup (pa_cons pe_str (pa_cons (pe_ix ix_seq (pe_ix ix_seq (pv 0) pe_int (fun _ _ => rfl)) pe_int (fun _ _ => rfl)) (pa_cons (pe_tup (pa_cons (pe_ix ix_seq (pv 0) pe_int (fun _ _ => rfl)) (pa_cons (pe_ix ix_seq (pv 0) pe_int (fun _ _ => rfl)) (pa_cons (pe_ix ix_seq (pe_ix ix_seq (pv 0) pe_int (fun _ _ => rfl)) pe_int (fun _ _ => rfl)) pa_nil)))) pa_nil)))) pa_nil))))) pss_nil)
      (pss_one (ps_ret pe_non))))))), rd__law_rule h⟩)
theorem ok__law_inner (T : TX w K mg) : FnOk Pg w K mg base CX0 1 T.a__law_inner T.d__law_inner ["_law_tree"] (spW0 K P_linnerK) :=
  okW T.cs T.F__law_inner sc__law_inner ln_linnerK (fun ds A h cdv Ar outer sh H E hr => ⟨t_linnerK K, (pss_cons (ps_if (pt_cmpR op_eq (pe_ix ix_seq (pv 0) pe_int (fun _ _ => rfl)) pe_str (nomark _)) (pss_one (ps_ret (pe_lst pa_nil))) pss_nil)
      (pss_one (ps_ret (pe_ifExp (pt_cmpR (op_inS (u65 hr)) (pe_ix ix_seq (pv 0) pe_int (fun _ _ => rfl)) (pe_lst (pa_cons pe_str (pa_cons pe_str pa_nil))) (by rfl)) (pe_callTy c_list (by rfl) T.n_list (by decide +kernel) (pa_cons (pe_slice sl_tupA (pv 0) (po_some pe_int) po_none) pa_nil)) (pe_callTy c_list (by rfl) T.n_list (by decide +kernel) (pa_cons (pe_slice sl_tupA (pv 0) (po_some pe_int) po_none) pa_nil)))))), rd_linnerK h⟩)
theorem ok__law_one_rule (T : TX w K mg) : ∀ n, FnOk Pg w K mg base CX0 (9 + n) T.a__law_one_rule T.d__law_one_rule ["_law_tree"] (spW0 K (P_lone n))
  | 0 => fnok_none (fun vs H Q E h => no_W0 (fun _ _ z => z) h)
  | n + 1 => okW T.cs T.F__law_one_rule sc__law_one_rule ln__law_one_rule (fun ds A h cdv Ar outer sh H E hr => ⟨t__law_one_rule K n , (pss_cons (ps_set (i := 1) sc__law_one_rule.nd rfl (by first | exact Or.inl rfl | exact Or.inr rfl) (pe_op op_subI (pe_callB c_len (by rfl) T.n_len PySem.boot_len (pa_cons (pv 0) pa_nil)) (pe_callB c_len (by rfl) T.n_len PySem.boot_len (pa_cons (pe_call (ok__law_inner T) (hr.mono (by first | omega | (simp only [Nat.add_eq]; omega))) (by rfl) T.g__law_inner T.F__law_inner.kp T.b__law_inner .nil pass0 (pa_cons (pv 0) pa_nil)) pa_nil))))
      (pss_cons (ps_if (pt_cmpR op_eq (pe_ix ix_seq (pv 0) pe_int (fun _ _ => rfl)) pe_str (nomark _)) (pss_one (ps_ret pe_non)) pss_nil)
      (pss_cons (ps_for PassesOwn.never rfl (pi_range2 (by rfl) T.n_range (pa_cons (pv 1) (pa_cons (pe_callB c_len (by rfl) T.n_len PySem.boot_len (pa_cons (pv 0) pa_nil)) pa_nil))) (pg_name (i := 2) sc__law_one_rule.nd rfl (by first | exact Or.inl rfl | exact Or.inr rfl)) (pss_cons (ps_set (i := 3) sc__law_one_rule.nd rfl (by first | exact Or.inl rfl | exact Or.inr rfl) (pe_call (ok__law_one_rule T n) hr (by rfl) T.g__law_one_rule T.F__law_one_rule.kp T.b__law_one_rule .nil pass0 (pa_cons (pe_ix ix_seq (pv 0) (pv 2) (fun _ _ => rfl)) pa_nil)))
      (pss_one (ps_if (pt_cmpR o_notN (pv 3) pe_non (nomark _)) (pss_one (ps_ret (pe_tup (pa_cons (pe_ix ix_seq (pv 3) pe_int (fun _ _ => rfl)) (pa_cons (pe_op op_catA (pe_op op_catA (pe_slice sl_tupA (pv 0) po_none (po_some (pv 2))) (pe_tup (pa_cons (pe_ix ix_seq (pv 3) pe_int (fun _ _ => rfl)) pa_nil))) (pe_slice sl_tupA (pv 0) (po_some (pe_op op_addI (pv 2) pe_int)) po_none)) pa_nil))))) pss_nil))))
      (pss_one (ps_ret (pe_call (ok__law_rule T) (hr.mono (by first | omega | (simp only [Nat.add_eq]; omega))) (by rfl) T.g__law_rule T.F__law_rule.kp T.b__law_rule .nil pass0 (pa_cons (pv 0) pa_nil))))))), rd__law_one_rule h⟩)
theorem ok_twice (T : TX w K mg) : FnOk Pg w K mg base CX0 1 T.a_twice T.d_twice ["tree"] (spW0 K (P_rule Tr.rTwice)) :=
  okW T.cs T.F_twice sc_twice ln_twice (fun ds A h cdv Ar outer sh H E hr => ⟨t_twice K, (pss_one (ps_ret (pe_ifExp (PW.pt (pw_and (pt_cmpR op_eq (pe_ix ix_seq (pv 0) pe_int (fun _ _ => rfl)) pe_str (nomark _)) (pw_and1 (pt_cmpR op_eq (pe_ix ix_seq (pe_ix ix_seq (pv 0) pe_int (fun _ _ => rfl)) pe_int (fun _ _ => rfl)) pe_str (nomark _))))) (pe_ix ix_seq (pe_ix ix_seq (pv 0) pe_int (fun _ _ => rfl)) pe_int (fun _ _ => rfl)) pe_non))), rd_twice h⟩)
theorem ok_once (T : TX w K mg) : FnOk Pg w K mg base CX0 1 T.a_once T.d_once ["tree"] (spW0 K (P_rule Tr.rOnce)) :=
  okW T.cs T.F_once sc_once ln_once (fun ds A h cdv Ar outer sh H E hr => ⟨t_once K, (pss_one (ps_ret (pe_ifExp (PW.pt (pw_and (pt_cmpR op_eq (pe_ix ix_seq (pv 0) pe_int (fun _ _ => rfl)) pe_str (nomark _)) (pw_and1 (pt_cmpR op_eq (pe_ix ix_seq (pv 0) pe_int (fun _ _ => rfl)) pe_int (nomark _))))) (pe_ix ix_seq (pv 0) pe_int (fun _ _ => rfl)) pe_non))), rd_once h⟩)
theorem ok_product (T : TX w K mg) : FnOk Pg w K mg base CX0 1 T.a_product T.d_product ["tree"] (spW0 K (P_rule Tr.rProduct)) :=
  okW T.cs T.F_product sc_product ln_product (fun ds A h cdv Ar outer sh H E hr => ⟨t_product K, (pss_cons (ps_if (PW.pt (pw_and (pt_cmpR op_eq (pe_ix ix_seq (pv 0) pe_int (fun _ _ => rfl)) pe_str (nomark _)) (pw_and1 (pt_cmpR op_eq (pe_ix ix_seq (pe_ix ix_seq (pv 0) pe_int (fun _ _ => rfl)) pe_int (fun _ _ => rfl)) pe_str (nomark _))))) (pss_one (ps_ret (pe_tup (pa_cons pe_str (pa_cons (pe_op op_mulI (pe_ix ix_seq (pv 0) pe_int (fun _ _ => rfl)) (pe_ix ix_seq (pe_ix ix_seq (pv 0) pe_int (fun _ _ => rfl)) pe_int (fun _ _ => rfl))) (pa_cons (pe_ix ix_seq (pe_ix ix_seq (pv 0) pe_int (fun _ _ => rfl)) pe_int (fun _ _ => rfl)) pa_nil)))))) pss_nil)
      (pss_one (ps_ret pe_non))), rd_product h⟩)
theorem ok_still (T : TX w K mg) : FnOk Pg w K mg base CX0 1 T.a_still T.d_still ["room"] (spP K P_still) :=
  okPD T.F_still sc_still ln_still (fun ds r h cdv A outer sh H E hr => ⟨t_still K T.gs, (pss_one (ps_ret (pe_ifExp (pt_cmpR op_eq (pv 0) pe_int (nomark _)) (pe_tup (pa_cons (pe_tup (pa_cons (pe_glob (v := T.gs "ONE") (by rfl) T.c_ONE T.r_ONE) (pa_cons (pe_glob (v := T.gs "NONE") (by rfl) T.c_NONE T.r_NONE) pa_nil))) pa_nil)) (pe_tup (pa_cons (pe_tup (pa_cons (pe_glob (v := T.gs "ONE") (by rfl) T.c_ONE T.r_ONE) (pa_cons (pe_glob (v := T.gs "NONE") (by rfl) T.c_NONE T.r_NONE) (pa_cons (pe_glob (v := T.gs "NONE") (by rfl) T.c_NONE T.r_NONE) pa_nil)))) (pa_cons (pe_tup (pa_cons (pe_glob (v := T.gs "NONE") (by rfl) T.c_NONE T.r_NONE) (pa_cons (pe_glob (v := T.gs "ONE") (by rfl) T.c_ONE T.r_ONE) (pa_cons (pe_glob (v := T.gs "NONE") (by rfl) T.c_NONE T.r_NONE) pa_nil)))) pa_nil)))))), rd_still T.gd_NONE T.gd_ONE h⟩)
theorem ok_still_rule (T : TX w K mg) : FnOk Pg w K mg base CX0 2 T.a_still_rule T.d_still_rule ["tree"] (spW0 K (P_rule Tr.rStill)) :=
  okW T.cs T.F_still_rule sc_still_rule ln_still_rule (fun ds A h cdv Ar outer sh H E hr => ⟨t_still_rule K, (pss_one (ps_ret (pe_ifExp (PW.pt (pw_and (pt_cmpR op_eq (pe_ix ix_seq (pv 0) pe_int (fun _ _ => rfl)) pe_str (nomark _)) (pw_and1 (pt_cmpR (op_inS (u65 hr)) (pe_ix ix_seq (pv 0) pe_int (fun _ _ => rfl)) (pe_tup (pa_cons (pe_call (ok_still T) (hr.mono (by decide)) (by rfl) T.g_still T.F_still.kp T.b_still .nil pass0 (pa_cons pe_int pa_nil)) (pa_cons (pe_call (ok_still T) (hr.mono (by decide)) (by rfl) T.g_still T.F_still.kp T.b_still .nil pass0 (pa_cons pe_int pa_nil)) pa_nil))) (by rfl))))) (pe_ix ix_seq (pv 0) pe_int (fun _ _ => rfl)) pe_non))), rd_still_rule h⟩)
theorem ok_room_from (T : TX w K mg) : FnOk Pg w K mg base CX0 1 T.a_room_from T.d_room_from ["way"] (spW0 K P_roomFrom) :=
  okW T.cs T.F_room_from sc_room_from ln_room_from (fun ds A h cdv Ar outer sh H E hr => ⟨t_room_from K, (pss_one (ps_ret (pe_op op_subI (pe_callB c_len (by rfl) T.n_len PySem.boot_len (pa_cons (pe_ix ix_seq (pv 0) pe_int (fun _ _ => rfl)) pa_nil)) pe_int))), rd_room_from h⟩)
theorem ok_shared (T : TX w K mg) : FnOk Pg w K mg base CX0 1 T.a_shared T.d_shared ["one", "other"] (spP K P_gcd) :=
  okP T.F_shared sc_shared ln_shared (fun ds r h cdv A outer sh H E hr => ⟨t_shared K, (pss_cons (ps_par (i := 0) (j := 1) (by rfl) sc_shared.nd rfl rfl (by decide) rfl rfl (pa_cons (pe_callB c_abs (by rfl) T.n_abs (by decide +kernel) (pa_cons (pv 0) pa_nil)) (pa_cons (pe_callB c_abs (by rfl) T.n_abs (by decide +kernel) (pa_cons (pv 1) pa_nil)) pa_nil)) (by rfl))
      (pss_cons (ps_while PassesOwn.never (pt_cmpR op_gt (pv 1) pe_int (nomark _)) (pss_one (ps_par (i := 0) (j := 1) (by rfl) sc_shared.nd rfl rfl (by decide) rfl rfl (pa_cons (pv 1) (pa_cons (pe_op op_modX (pv 0) (pv 1)) pa_nil)) (by rfl))))
      (pss_one (ps_ret (pe_callB (c_max2 rfl) (by rfl) T.n_max (by decide +kernel) (pa_cons (pv 0) (pa_cons pe_int pa_nil))))))), rd_shared h⟩)
theorem ok_part (T : TX w K mg) : FnOk Pg w K mg base (L2.CX Pg w) 3 T.a_part T.d_part ["above", "below"] (spX K T.cs P_partX) :=
  okXD T.F_part sc_part ln_part (fun ds r h cdv A outer sh H E hr => ⟨t_part K T.cs (WD E), (pss_cons (ps_if (pt_cmpR op_eq (pv 1) pe_int (nomark _)) (pss_one (ps_raise rfl (takes_of rfl rfl rfl rfl) (pmk_ox0 T.ox_Flat T.kC_Flat T.i_Flat T.ti_Flat (ok_Flat T) (hr.mono (by decide)) T.bi_Flat .nil pass0 (by rfl) T.g_Flat))) pss_nil)
      (pss_cons (ps_if (pt_cmpR op_lt (pv 1) pe_int (nomark _)) (pss_one (ps_par (i := 0) (j := 1) (by rfl) sc_part.nd rfl rfl (by decide) rfl rfl (pa_cons (pe_un un_neg (pv 0)) (pa_cons (pe_un un_neg (pv 1)) pa_nil)) (by rfl))) pss_nil)
      (pss_cons (ps_set (i := 2) sc_part.nd rfl (by first | exact Or.inl rfl | exact Or.inr rfl) (pe_call (ok_shared T) (hr.mono (by decide)) (by rfl) T.g_shared T.F_shared.kp T.b_shared .nil pass0 (pa_cons (pv 0) (pa_cons (pv 1) pa_nil))))
      (pss_one (ps_ret (pe_tup (pa_cons (pe_op op_fdivX (pv 0) (pv 2)) (pa_cons (pe_op op_fdivX (pv 1) (pv 2)) pa_nil)))))))), rd_part T.cf_Flat h (WD E)⟩)
theorem ok_plus (T : TX w K mg) : FnOk Pg w K mg base CX0 4 T.a_plus T.d_plus ["one", "other"] (spP K P_plus) :=
  okP T.F_plus sc_plus ln_plus (fun ds r h cdv A outer sh H E hr => ⟨t_plus K T.cs, (pss_one (ps_ret (pe_callSD (ok_part T) (hr.mono (by decide)) (by rfl) T.g_part T.F_part.kp T.b_part .nil (fun σ => passAt takes0 σ) (pa_cons (pe_op op_add (pe_op op_mulW (pe_ix ix_seq (pv 0) pe_int (fun _ _ => rfl)) (pe_ix ix_seq (pv 1) pe_int (fun _ _ => rfl))) (pe_op op_mulW (pe_ix ix_seq (pv 1) pe_int (fun _ _ => rfl)) (pe_ix ix_seq (pv 0) pe_int (fun _ _ => rfl)))) (pa_cons (pe_op op_mulW (pe_ix ix_seq (pv 0) pe_int (fun _ _ => rfl)) (pe_ix ix_seq (pv 1) pe_int (fun _ _ => rfl))) pa_nil))))), rd_plus h⟩)
theorem ok_times (T : TX w K mg) : FnOk Pg w K mg base CX0 4 T.a_times T.d_times ["one", "other"] (spP K P_times) :=
  okP T.F_times sc_times ln_times (fun ds r h cdv A outer sh H E hr => ⟨t_times K T.cs, (pss_one (ps_ret (pe_callSD (ok_part T) (hr.mono (by decide)) (by rfl) T.g_part T.F_part.kp T.b_part .nil (fun σ => passAt takes0 σ) (pa_cons (pe_op op_mulW (pe_ix ix_seq (pv 0) pe_int (fun _ _ => rfl)) (pe_ix ix_seq (pv 1) pe_int (fun _ _ => rfl))) (pa_cons (pe_op op_mulW (pe_ix ix_seq (pv 0) pe_int (fun _ _ => rfl)) (pe_ix ix_seq (pv 1) pe_int (fun _ _ => rfl))) pa_nil))))), rd_times h⟩)
theorem ok_behind (T : TX w K mg) : FnOk Pg w K mg base (L2.CX Pg w) 5 T.a_behind T.d_behind ["first", "then"] (spW K T.cs P_behind) :=
  okWX T.F_behind sc_behind ln_behind (fun ds A h cdv Ar outer sh H E hr => ⟨t_behind K T.cs T.gs (WD E), (pss_cons (ps_if (pt_cmpR op_ne (pe_call (ok_room_from T) (hr.mono (by decide)) (by rfl) T.g_room_from T.F_room_from.kp T.b_room_from .nil pass0 (pa_cons (pv 1) pa_nil)) (pe_callB c_len (by rfl) T.n_len PySem.boot_len (pa_cons (pv 0) pa_nil)) (nomark _)) (pss_one (ps_raise rfl (takes_of rfl rfl rfl rfl) (pmk_ox0 T.ox_OtherRoom T.kC_OtherRoom T.i_OtherRoom T.ti_OtherRoom (ok_OtherRoom T) (hr.mono (by decide)) T.bi_OtherRoom .nil pass0 (by rfl) T.g_OtherRoom))) pss_nil)
      (pss_cons (ps_set (i := 2) sc_behind.nd rfl (by first | exact Or.inl rfl | exact Or.inr rfl) (pe_lst pa_nil))
      (pss_cons (ps_for (passes_of rfl) rfl (pi_tup (pv 1)) (pg_name (i := 3) sc_behind.nd rfl (by first | exact Or.inl rfl | exact Or.inr rfl)) (pss_cons (ps_asg (pv 3) (pg_star rfl (pgs_cons (pg_name (i := 8) sc_behind.nd rfl (by first | exact Or.inl rfl | exact Or.inr rfl)) (pgs_cons (pg_name (i := 5) sc_behind.nd rfl (by first | exact Or.inl rfl | exact Or.inr rfl)) pgs_nil))))
      (pss_cons (ps_setLc (i := 4) (own := [("one", 9)]) (g := (gName 9)) (tt := tYes) rfl sc_behind.nd rfl rfl (sw_true rfl rfl rfl (by decide +kernel)) (pi_tup (pe_ix ix_seq (pv 0) pe_int (fun _ _ => rfl))) (blkOk_by (own := [("one", 9)]) (N := ["first", "then", "found", "row", "made", "last", "step", "inner", "steps", "one", "other"]) (sc := defScope s_behind) (by decide +kernel)) (fun _ _ _ _ _ => (pg_name (i := 9) sc_behind.nd rfl (by first | exact Or.inl rfl | exact Or.inr rfl))) (fun _ _ _ _ _ => pts_nil) (fun _ _ _ _ _ => (pe_glob (v := T.gs "NONE") (by rfl) T.c_NONE T.r_NONE)))
      (pss_cons (ps_for (passes_of rfl) rfl (pi_zipM (by rfl) T.n_zip (pa_cons (pv 8) (pa_cons (pv 0) pa_nil))) (pg_tup rfl (pgs_cons (pg_name (i := 6) sc_behind.nd rfl (by first | exact Or.inl rfl | exact Or.inr rfl)) (pgs_cons (pg_name (i := 7) sc_behind.nd rfl (by first | exact Or.inl rfl | exact Or.inr rfl)) pgs_nil))) (pss_one (ps_setLc (i := 4) (own := [("one", 9), ("other", 10)]) (g := (gTup K 2 (gCons (gName 9) (gCons (gName 10) gNil)))) (tt := tYes) rfl sc_behind.nd rfl rfl (sw_true rfl rfl rfl (by decide +kernel)) (pi_zipM (by rfl) T.n_zip (pa_cons (pv 4) (pa_cons (pv 7) pa_nil))) (blkOk_by (own := [("one", 9), ("other", 10)]) (N := ["first", "then", "found", "row", "made", "last", "step", "inner", "steps", "one", "other"]) (sc := defScope s_behind) (by decide +kernel)) (fun _ _ _ _ _ => (pg_tup rfl (pgs_cons (pg_name (i := 9) sc_behind.nd rfl (by first | exact Or.inl rfl | exact Or.inr rfl)) (pgs_cons (pg_name (i := 10) sc_behind.nd rfl (by first | exact Or.inl rfl | exact Or.inr rfl)) pgs_nil)))) (fun _ _ _ _ _ => pts_nil) (fun _ _ _ _ _ => (pe_call (ok_plus T) (hr.mono (by decide)) (by rfl) T.g_plus T.F_plus.kp T.b_plus .nil pass0 (pa_cons (pv 9) (pa_cons (pe_call (ok_times T) (hr.mono (by decide)) (by rfl) T.g_times T.F_times.kp T.b_times .nil pass0 (pa_cons (pv 6) (pa_cons (pv 10) pa_nil))) pa_nil)))))))
      (pss_cons (ps_asg (pe_call (ok_plus T) (hr.mono (by decide)) (by rfl) T.g_plus T.F_plus.kp T.b_plus .nil pass0 (pa_cons (pe_ix ix_seq (pv 4) (pe_un un_negI pe_int) (fun _ _ => rfl)) (pa_cons (pv 5) pa_nil))) (pg_sub (pv 4) (pe_un un_negI pe_int) set_list))
      (pss_one (ps_expr (pe_bm PySem.F.plainAttrs_list PySem.F.slot_list_append PySem.F.type_list_append mt_append (pv 2) (pa_cons (pe_callTy c_tuple (by rfl) T.n_tuple (by decide +kernel) (pa_cons (pv 4) pa_nil)) pa_nil)))))))))
      (pss_one (ps_ret (pe_callTy c_tuple (by rfl) T.n_tuple (by decide +kernel) (pa_cons (pv 2) pa_nil))))))), rd_behind T.cf_OtherRoom T.gd_NONE h (WD E)⟩)
theorem ok_onward (T : TX w K mg) : FnOk Pg w K mg base (L2.CX Pg w) 6 T.a_onward T.d_onward ["tree"] (spW K T.cs P_onward) :=
  okWX T.F_onward sc_onward ln_onward (fun ds A h cdv Ar outer sh H E hr => ⟨t_onward K T.cs (WD E), (pss_cons (ps_if (PW.pt (pw_and (pt_cmpR op_eq (pe_ix ix_seq (pv 0) pe_int (fun _ _ => rfl)) pe_str (nomark _)) (pw_and1 (pt_cmpR op_eq (pe_ix ix_seq (pe_ix ix_seq (pv 0) pe_int (fun _ _ => rfl)) pe_int (fun _ _ => rfl)) pe_str (nomark _))))) (pss_one (ps_ret (pe_tup (pa_cons pe_str (pa_cons (pe_callSD (ok_behind T) (hr.mono (by decide)) (by rfl) T.g_behind T.F_behind.kp T.b_behind .nil (fun σ => passAt (takes_of rfl rfl rfl rfl) σ) (pa_cons (pe_ix ix_seq (pe_ix ix_seq (pv 0) pe_int (fun _ _ => rfl)) pe_int (fun _ _ => rfl)) (pa_cons (pe_ix ix_seq (pv 0) pe_int (fun _ _ => rfl)) pa_nil))) (pa_cons (pe_ix ix_seq (pe_ix ix_seq (pv 0) pe_int (fun _ _ => rfl)) pe_int (fun _ _ => rfl)) pa_nil)))))) pss_nil)
      (pss_one (ps_ret pe_non))), rd_onward h (WD E)⟩)
theorem ok_turncarry (T : TX w K mg) : FnOk Pg w K mg base CX0 1 T.a_turncarry T.d_turncarry ["tree"] (spW0 K (P_rule Tr.rTurncarry)) :=
  okW T.cs T.F_turncarry sc_turncarry ln_turncarry (fun ds A h cdv Ar outer sh H E hr => ⟨t_turncarry K, (pss_cons (ps_if (PW.pt (pw_and (pt_cmpR op_eq (pe_ix ix_seq (pv 0) pe_int (fun _ _ => rfl)) pe_str (nomark _)) (pw_and1 (pt_cmpR op_eq (pe_ix ix_seq (pe_ix ix_seq (pv 0) pe_int (fun _ _ => rfl)) pe_int (fun _ _ => rfl)) pe_str (nomark _))))) (pss_one (ps_ret (pe_tup (pa_cons pe_str (pa_cons (pe_ix ix_seq (pe_ix ix_seq (pv 0) pe_int (fun _ _ => rfl)) pe_int (fun _ _ => rfl)) (pa_cons (pe_tup (pa_cons pe_str (pa_cons (pe_ix ix_seq (pe_ix ix_seq (pv 0) pe_int (fun _ _ => rfl)) pe_int (fun _ _ => rfl)) pa_nil))) pa_nil)))))) pss_nil)
      (pss_one (ps_ret pe_non))), rd_turncarry h⟩)
theorem ok_turntimes (T : TX w K mg) : FnOk Pg w K mg base CX0 1 T.a_turntimes T.d_turntimes ["tree"] (spW0 K (P_rule Tr.rTurntimes)) :=
  okW T.cs T.F_turntimes sc_turntimes ln_turntimes (fun ds A h cdv Ar outer sh H E hr => ⟨t_turntimes K, (pss_cons (ps_if (PW.pt (pw_and (pt_cmpR op_eq (pe_ix ix_seq (pv 0) pe_int (fun _ _ => rfl)) pe_str (nomark _)) (pw_and1 (pt_cmpR op_eq (pe_ix ix_seq (pe_ix ix_seq (pv 0) pe_int (fun _ _ => rfl)) pe_int (fun _ _ => rfl)) pe_str (nomark _))))) (pss_one (ps_ret (pe_tup (pa_cons pe_str (pa_cons (pe_ix ix_seq (pe_ix ix_seq (pv 0) pe_int (fun _ _ => rfl)) pe_int (fun _ _ => rfl)) (pa_cons (pe_tup (pa_cons pe_str (pa_cons (pe_ix ix_seq (pe_ix ix_seq (pv 0) pe_int (fun _ _ => rfl)) pe_int (fun _ _ => rfl)) pa_nil))) pa_nil)))))) pss_nil)
      (pss_one (ps_ret pe_non))), rd_turntimes h⟩)
theorem ok_carrytimes (T : TX w K mg) : FnOk Pg w K mg base CX0 1 T.a_carrytimes T.d_carrytimes ["tree"] (spW0 K (P_rule Tr.rCarrytimes)) :=
  okW T.cs T.F_carrytimes sc_carrytimes ln_carrytimes (fun ds A h cdv Ar outer sh H E hr => ⟨t_carrytimes K, (pss_cons (ps_if (PW.pt (pw_and (pt_cmpR op_eq (pe_ix ix_seq (pv 0) pe_int (fun _ _ => rfl)) pe_str (nomark _)) (pw_and1 (pt_cmpR op_eq (pe_ix ix_seq (pe_ix ix_seq (pv 0) pe_int (fun _ _ => rfl)) pe_int (fun _ _ => rfl)) pe_str (nomark _))))) (pss_one (ps_ret (pe_tup (pa_cons pe_str (pa_cons (pe_ix ix_seq (pe_ix ix_seq (pv 0) pe_int (fun _ _ => rfl)) pe_int (fun _ _ => rfl)) (pa_cons (pe_tup (pa_cons pe_str (pa_cons (pe_ix ix_seq (pv 0) pe_int (fun _ _ => rfl)) (pa_cons (pe_ix ix_seq (pe_ix ix_seq (pv 0) pe_int (fun _ _ => rfl)) pe_int (fun _ _ => rfl)) pa_nil)))) pa_nil)))))) pss_nil)
      (pss_one (ps_ret pe_non))), rd_carrytimes h⟩)
theorem ok_turnpair (T : TX w K mg) : FnOk Pg w K mg base CX0 1 T.a_turnpair T.d_turnpair ["tree"] (spW0 K (P_rule Tr.rTurnpair)) :=
  okW T.cs T.F_turnpair sc_turnpair ln_turnpair (fun ds A h cdv Ar outer sh H E hr => ⟨t_turnpair K T.gs, (pss_cons (ps_if (PW.pt (pw_and (pt_cmpR op_eq (pe_ix ix_seq (pv 0) pe_int (fun _ _ => rfl)) pe_str (nomark _)) (pw_and1 (pt_cmpR (op_inS (u65 hr)) (pe_ix ix_seq (pe_ix ix_seq (pv 0) pe_int (fun _ _ => rfl)) pe_int (fun _ _ => rfl)) (pe_glob (v := T.gs "FREE") (by rfl) T.c_FREE T.r_FREE) (by rfl))))) (pss_cons (ps_asg (pe_ix ix_seq (pv 0) pe_int (fun _ _ => rfl)) (pg_tup rfl (pgs_cons (pg_name (i := 1) sc_turnpair.nd rfl (by first | exact Or.inl rfl | exact Or.inr rfl)) (pgs_cons (pg_name (i := 2) sc_turnpair.nd rfl (by first | exact Or.inl rfl | exact Or.inr rfl)) (pgs_cons (pg_name (i := 3) sc_turnpair.nd rfl (by first | exact Or.inl rfl | exact Or.inr rfl)) pgs_nil)))))
      (pss_one (ps_ret (pe_tup (pa_cons (pv 1) (pa_cons (pe_tup (pa_cons pe_str (pa_cons (pv 2) pa_nil))) (pa_cons (pe_tup (pa_cons pe_str (pa_cons (pv 3) pa_nil))) pa_nil))))))) pss_nil)
      (pss_one (ps_ret pe_non))), rd_turnpair T.gd_FREE h⟩)
theorem ok_straightened (T : TX w K mg) : FnOk Pg w K mg base CX0 1 T.a_straightened T.d_straightened ["way"] (spP K P_straight) :=
  okP T.F_straightened sc_straightened ln_straightened (fun ds r h cdv A outer sh H E hr => ⟨t_straightened K T.gs, (pss_one (ps_ret (pe_callTy c_tuple (by rfl) T.n_tuple (by decide +kernel) (pa_cons (pe_lc (own := [("row", 1)]) (g := (gName 1)) (tt := tYes) rfl sc_straightened.nd (pi_tup (pv 0)) (blkOk_by (own := [("row", 1)]) (N := ["way", "row"]) (sc := defScope s_straightened) (by decide +kernel)) (fun _ _ _ _ _ => (pg_name (i := 1) sc_straightened.nd rfl (by first | exact Or.inl rfl | exact Or.inr rfl))) (fun _ _ _ _ _ => pts_nil) (fun _ _ _ _ _ => (pe_op op_catA (pe_slice sl_tupA (pv 1) po_none (po_some (pe_un un_neg pe_int))) (pe_tup (pa_cons (pe_glob (v := T.gs "NONE") (by rfl) T.c_NONE T.r_NONE) pa_nil))))) pa_nil)))), rd_straightened T.gd_NONE h⟩)
theorem ok_carrypair (T : TX w K mg) : FnOk Pg w K mg base CX0 2 T.a_carrypair T.d_carrypair ["tree"] (spW0 K (P_rule Tr.rCarrypair)) :=
  okW T.cs T.F_carrypair sc_carrypair ln_carrypair (fun ds A h cdv Ar outer sh H E hr => ⟨t_carrypair K T.gs, (pss_cons (ps_if (PW.pt (pw_and (pt_cmpR op_eq (pe_ix ix_seq (pv 0) pe_int (fun _ _ => rfl)) pe_str (nomark _)) (pw_and1 (pt_cmpR (op_inS (u65 hr)) (pe_ix ix_seq (pe_ix ix_seq (pv 0) pe_int (fun _ _ => rfl)) pe_int (fun _ _ => rfl)) (pe_glob (v := T.gs "FREE") (by rfl) T.c_FREE T.r_FREE) (by rfl))))) (pss_cons (ps_asg (pe_ix ix_seq (pv 0) pe_int (fun _ _ => rfl)) (pg_tup rfl (pgs_cons (pg_name (i := 2) sc_carrypair.nd rfl (by first | exact Or.inl rfl | exact Or.inr rfl)) (pgs_cons (pg_name (i := 3) sc_carrypair.nd rfl (by first | exact Or.inl rfl | exact Or.inr rfl)) (pgs_cons (pg_name (i := 4) sc_carrypair.nd rfl (by first | exact Or.inl rfl | exact Or.inr rfl)) pgs_nil)))))
      (pss_cons (ps_set (i := 1) sc_carrypair.nd rfl (by first | exact Or.inl rfl | exact Or.inr rfl) (pe_ifExp (pt_cmpR op_eq (pv 2) pe_str (nomark _)) (pe_call (ok_straightened T) (hr.mono (by decide)) (by rfl) T.g_straightened T.F_straightened.kp T.b_straightened .nil pass0 (pa_cons (pe_ix ix_seq (pv 0) pe_int (fun _ _ => rfl)) pa_nil)) (pe_ix ix_seq (pv 0) pe_int (fun _ _ => rfl))))
      (pss_one (ps_ret (pe_tup (pa_cons (pv 2) (pa_cons (pe_tup (pa_cons pe_str (pa_cons (pe_ix ix_seq (pv 0) pe_int (fun _ _ => rfl)) (pa_cons (pv 3) pa_nil)))) (pa_cons (pe_tup (pa_cons pe_str (pa_cons (pv 1) (pa_cons (pv 4) pa_nil)))) pa_nil)))))))) pss_nil)
      (pss_one (ps_ret pe_non))), rd_carrypair T.gd_FREE h⟩)
theorem ok_left (T : TX w K mg) : FnOk Pg w K mg base CX0 1 T.a_left T.d_left ["tree"] (spW0 K (P_rule Tr.rLeft)) :=
  okW T.cs T.F_left sc_left ln_left (fun ds A h cdv Ar outer sh H E hr => ⟨t_left K T.gs, (pss_cons (ps_if (PW.pt (pw_and (pt_cmpR (op_inS (u65 hr)) (pe_ix ix_seq (pv 0) pe_int (fun _ _ => rfl)) (pe_glob (v := T.gs "BOUND") (by rfl) T.c_BOUND T.r_BOUND) (by rfl)) (pw_and1 (pt_cmpR op_eq (pe_ix ix_seq (pe_ix ix_seq (pv 0) pe_int (fun _ _ => rfl)) pe_int (fun _ _ => rfl)) pe_str (nomark _))))) (pss_one (ps_ret (pe_tup (pa_cons pe_str (pa_cons (pe_ix ix_seq (pe_ix ix_seq (pv 0) pe_int (fun _ _ => rfl)) pe_int (fun _ _ => rfl)) (pa_cons (pe_tup (pa_cons (pe_ix ix_seq (pv 0) pe_int (fun _ _ => rfl)) (pa_cons (pe_ix ix_seq (pe_ix ix_seq (pv 0) pe_int (fun _ _ => rfl)) pe_int (fun _ _ => rfl)) (pa_cons (pe_ix ix_seq (pv 0) pe_int (fun _ _ => rfl)) pa_nil)))) pa_nil)))))) pss_nil)
      (pss_one (ps_ret pe_non))), rd_left T.gd_BOUND h⟩)
theorem ok_right (T : TX w K mg) : FnOk Pg w K mg base CX0 1 T.a_right T.d_right ["tree"] (spW0 K (P_rule Tr.rRight)) :=
  okW T.cs T.F_right sc_right ln_right (fun ds A h cdv Ar outer sh H E hr => ⟨t_right K T.gs, (pss_cons (ps_if (PW.pt (pw_and (pt_cmpR (op_inS (u65 hr)) (pe_ix ix_seq (pv 0) pe_int (fun _ _ => rfl)) (pe_glob (v := T.gs "BOUND") (by rfl) T.c_BOUND T.r_BOUND) (by rfl)) (pw_and1 (pt_cmpR op_eq (pe_ix ix_seq (pe_ix ix_seq (pv 0) pe_int (fun _ _ => rfl)) pe_int (fun _ _ => rfl)) pe_str (nomark _))))) (pss_one (ps_ret (pe_tup (pa_cons pe_str (pa_cons (pe_ix ix_seq (pe_ix ix_seq (pv 0) pe_int (fun _ _ => rfl)) pe_int (fun _ _ => rfl)) (pa_cons (pe_tup (pa_cons (pe_ix ix_seq (pv 0) pe_int (fun _ _ => rfl)) (pa_cons (pe_ix ix_seq (pv 0) pe_int (fun _ _ => rfl)) (pa_cons (pe_ix ix_seq (pe_ix ix_seq (pv 0) pe_int (fun _ _ => rfl)) pe_int (fun _ _ => rfl)) pa_nil)))) pa_nil)))))) pss_nil)
      (pss_one (ps_ret pe_non))), rd_right T.gd_BOUND h⟩)
theorem ok_at_top (T : TX w K mg) : FnOk Pg w K mg base (L2.CX Pg w) 7 T.a_at_top T.d_at_top ["tree"] (spW K T.cs P_atTop) :=
  okWX T.F_at_top sc_at_top ln_at_top (fun ds A h cdv Ar outer sh H E hr => ⟨t_at_top K w T.cs T.gs (fvOf T) (WD E), (pss_cons (ps_for (passes_of rfl) rfl (pi_tup (pe_glob (v := T.gs "RULES") (by rfl) T.c_RULES T.r_RULES)) (pg_name (i := 1) sc_at_top.nd rfl (by first | exact Or.inl rfl | exact Or.inr rfl)) (pss_cons (ps_set (i := 2) sc_at_top.nd rfl (by first | exact Or.inl rfl | exact Or.inr rfl) (pe_ix ix_kdict (pe_glob (v := V.ref T.m_FITTING) (by rfl) T.c_FITTING rfl) (pv 1) (fun _ _ => rfl)))
      (pss_cons (ps_set (i := 3) sc_at_top.nd rfl (by first | exact Or.inl rfl | exact Or.inr rfl) (pe_eith (ItX.pe_callV (i := 2) (fnr_of (ok_twice T) T.b_twice) (hr.mono (by decide)) T.F_twice.kp pass0 rfl (by first | exact Or.inl rfl | exact Or.inr (Or.inl rfl) | exact Or.inr (Or.inr rfl)) (pa_cons (pv 0) pa_nil)) (pe_eith (ItX.pe_callV (i := 2) (fnr_of (ok_once T) T.b_once) (hr.mono (by decide)) T.F_once.kp pass0 rfl (by first | exact Or.inl rfl | exact Or.inr (Or.inl rfl) | exact Or.inr (Or.inr rfl)) (pa_cons (pv 0) pa_nil)) (pe_eith (ItX.pe_callV (i := 2) (fnr_of (ok_product T) T.b_product) (hr.mono (by decide)) T.F_product.kp pass0 rfl (by first | exact Or.inl rfl | exact Or.inr (Or.inl rfl) | exact Or.inr (Or.inr rfl)) (pa_cons (pv 0) pa_nil)) (pe_eith (ItX.pe_callV (i := 2) (fnr_of (ok_still_rule T) T.b_still_rule) (hr.mono (by decide)) T.F_still_rule.kp pass0 rfl (by first | exact Or.inl rfl | exact Or.inr (Or.inl rfl) | exact Or.inr (Or.inr rfl)) (pa_cons (pv 0) pa_nil)) (pe_eith (pe_callVS (i := 2) (ok_onward T) T.b_onward (hr.mono (by decide)) T.F_onward.kp (fun σ => passAt (takes_of rfl rfl rfl rfl) σ) rfl (by first | exact Or.inl rfl | exact Or.inr (Or.inl rfl) | exact Or.inr (Or.inr rfl)) (pa_cons (pv 0) pa_nil)) (pe_eith (ItX.pe_callV (i := 2) (fnr_of (ok_turncarry T) T.b_turncarry) (hr.mono (by decide)) T.F_turncarry.kp pass0 rfl (by first | exact Or.inl rfl | exact Or.inr (Or.inl rfl) | exact Or.inr (Or.inr rfl)) (pa_cons (pv 0) pa_nil)) (pe_eith (ItX.pe_callV (i := 2) (fnr_of (ok_turntimes T) T.b_turntimes) (hr.mono (by decide)) T.F_turntimes.kp pass0 rfl (by first | exact Or.inl rfl | exact Or.inr (Or.inl rfl) | exact Or.inr (Or.inr rfl)) (pa_cons (pv 0) pa_nil)) (pe_eith (ItX.pe_callV (i := 2) (fnr_of (ok_carrytimes T) T.b_carrytimes) (hr.mono (by decide)) T.F_carrytimes.kp pass0 rfl (by first | exact Or.inl rfl | exact Or.inr (Or.inl rfl) | exact Or.inr (Or.inr rfl)) (pa_cons (pv 0) pa_nil)) (pe_eith (ItX.pe_callV (i := 2) (fnr_of (ok_turnpair T) T.b_turnpair) (hr.mono (by decide)) T.F_turnpair.kp pass0 rfl (by first | exact Or.inl rfl | exact Or.inr (Or.inl rfl) | exact Or.inr (Or.inr rfl)) (pa_cons (pv 0) pa_nil)) (pe_eith (ItX.pe_callV (i := 2) (fnr_of (ok_carrypair T) T.b_carrypair) (hr.mono (by decide)) T.F_carrypair.kp pass0 rfl (by first | exact Or.inl rfl | exact Or.inr (Or.inl rfl) | exact Or.inr (Or.inr rfl)) (pa_cons (pv 0) pa_nil)) (pe_eith (ItX.pe_callV (i := 2) (fnr_of (ok_left T) T.b_left) (hr.mono (by decide)) T.F_left.kp pass0 rfl (by first | exact Or.inl rfl | exact Or.inr (Or.inl rfl) | exact Or.inr (Or.inr rfl)) (pa_cons (pv 0) pa_nil)) (ItX.pe_callV (i := 2) (fnr_of (ok_right T) T.b_right) (hr.mono (by decide)) T.F_right.kp pass0 rfl (by first | exact Or.inl rfl | exact Or.inr (Or.inl rfl) | exact Or.inr (Or.inr rfl)) (pa_cons (pv 0) pa_nil))))))))))))))
      (pss_one (ps_if (pt_cmpR o_notN (pv 3) pe_non (nomark _)) (pss_one (ps_ret (pe_tup (pa_cons (pv 1) (pa_cons (pv 3) pa_nil))))) pss_nil)))))
      (pss_one (ps_ret pe_non))), rd_at_top T.gd_RULES T.kd_FITTING_0 T.kd_FITTING_1 T.kd_FITTING_2 T.kd_FITTING_3 T.kd_FITTING_4 T.kd_FITTING_5 T.kd_FITTING_6 T.kd_FITTING_7 T.kd_FITTING_8 T.kd_FITTING_9 T.kd_FITTING_10 T.kd_FITTING_11 h (WD E)⟩)
theorem ok_one_step (T : TX w K mg) : ∀ n, FnOk Pg w K mg base (L2.CX Pg w) (9 + n) T.a_one_step T.d_one_step ["tree"] (spW K T.cs (P_oneStep n))
  | 0 => fnok_none (fun vs H Q E h => no_WX (fun _ _ z => z) h)
  | n + 1 => okWX T.F_one_step sc_one_step ln_one_step (fun ds A h cdv Ar outer sh H E hr => ⟨t_one_step K n T.cs (WD E), (pss_cons (ps_set (i := 1) sc_one_step.nd rfl (by first | exact Or.inl rfl | exact Or.inr rfl) (pe_ifExp (pt_cmpR (op_inS (u65 hr)) (pe_ix ix_seq (pv 0) pe_int (fun _ _ => rfl)) (pe_tup (pa_cons pe_str (pa_cons pe_str pa_nil))) (by rfl)) pe_int pe_int))
      (pss_cons (ps_if (pt_cmpR op_ne (pe_ix ix_seq (pv 0) pe_int (fun _ _ => rfl)) pe_str (nomark _)) (pss_one (ps_for (passes_of rfl) rfl (pi_range2 (by rfl) T.n_range (pa_cons (pv 1) (pa_cons (pe_callB c_len (by rfl) T.n_len PySem.boot_len (pa_cons (pv 0) pa_nil)) pa_nil))) (pg_name (i := 2) sc_one_step.nd rfl (by first | exact Or.inl rfl | exact Or.inr rfl)) (pss_cons (ps_set (i := 3) sc_one_step.nd rfl (by first | exact Or.inl rfl | exact Or.inr rfl) (pe_callSD (ok_one_step T n) hr (by rfl) T.g_one_step T.F_one_step.kp T.b_one_step .nil (fun σ => passAt (takes_of rfl rfl rfl rfl) σ) (pa_cons (pe_ix ix_seq (pv 0) (pv 2) (fun _ _ => rfl)) pa_nil)))
      (pss_one (ps_if (pt_cmpR o_notN (pv 3) pe_non (nomark _)) (pss_one (ps_ret (pe_tup (pa_cons (pe_ix ix_seq (pv 3) pe_int (fun _ _ => rfl)) (pa_cons (pe_op op_catA (pe_op op_catA (pe_slice sl_tupA (pv 0) po_none (po_some (pv 2))) (pe_tup (pa_cons (pe_ix ix_seq (pv 3) pe_int (fun _ _ => rfl)) pa_nil))) (pe_slice sl_tupA (pv 0) (po_some (pe_op op_addI (pv 2) pe_int)) po_none)) pa_nil))))) pss_nil))))) pss_nil)
      (pss_one (ps_ret (pe_callSD (ok_at_top T) (hr.mono (by first | omega | (simp only [Nat.add_eq]; omega))) (by rfl) T.g_at_top T.F_at_top.kp T.b_at_top .nil (fun σ => passAt (takes_of rfl rfl rfl rfl) σ) (pa_cons (pv 0) pa_nil)))))), rd_one_step h (WD E)⟩)
theorem ok_part_text (T : TX w K mg) : FnOk Pg w K mg base CX0 1 T.a_part_text T.d_part_text ["one"] (spW0 K P_partText) :=
  okW T.cs T.F_part_text sc_part_text ln_part_text (fun ds A h cdv Ar outer sh H E hr => ⟨t_part_text K, (pss_one (ps_ret (pe_ifExp (pt_cmpR op_eq (pe_ix ix_seq (pv 0) pe_int (fun _ _ => rfl)) pe_int (nomark _)) (pe_joined1 (pe_fmt (pe_ix ix_seq (pv 0) pe_int (fun _ _ => rfl)))) (pe_joinedS (PJ.cons (pe_fmt (pe_ix ix_seq (pv 0) pe_int (fun _ _ => rfl))) (PJ.cons pe_str (PJ.cons (pe_fmt (pe_ix ix_seq (pv 0) pe_int (fun _ _ => rfl))) PJ.nil))))))), rd_part_text h⟩)
theorem ok_way_text (T : TX w K mg) : FnOk Pg w K mg base CX0 2 T.a_way_text T.d_way_text ["way"] (spW0 K P_wayText) :=
  okW T.cs T.F_way_text sc_way_text ln_way_text (fun ds A h cdv Ar outer sh H E hr => ⟨t_way_text K, (pss_cons (ps_setLc (i := 1) (own := [("row", 2)]) (g := (gName 2)) (tt := tYes) rfl sc_way_text.nd rfl rfl (sw_true rfl rfl rfl (by decide +kernel)) (pi_tup (pv 0)) (blkOk_by (own := [("row", 2)]) (N := ["way", "rows", "row", "one"]) (sc := defScope s_way_text) (by decide +kernel)) (fun _ _ _ _ _ => (pg_name (i := 2) sc_way_text.nd rfl (by first | exact Or.inl rfl | exact Or.inr rfl))) (fun _ _ _ _ _ => pts_nil) (fun _ _ _ _ _ => (pe_joinS pe_str (pe_lc (own := [("one", 3)]) (g := (gName 3)) (tt := tYes) rfl sc_way_text.nd (pi_tup (pv 2)) (blkOk_by (own := [("one", 3)]) (N := ["way", "rows", "row", "one"]) (sc := ({ kind := PySem.ScopeKind.function, names := [(PySem.Str.ofString ".0", PySem.NameKind.local), (PySem.Str.ofString "row", PySem.NameKind.local)], isGenerator := false, isCoroutine := false, more := [] : PySem.Scope })) (by decide +kernel)) (fun _ _ _ _ _ => (pg_name (i := 3) sc_way_text.nd rfl (by first | exact Or.inl rfl | exact Or.inr rfl))) (fun _ _ _ _ _ => pts_nil) (fun _ _ _ _ _ => (pe_call (ok_part_text T) (hr.mono (by decide)) (by rfl) T.g_part_text T.F_part_text.kp T.b_part_text .nil pass0 (pa_cons (pv 3) pa_nil)))))))
      (pss_one (ps_ret (pe_joinS pe_str (pe_lc (own := [("row", 2)]) (g := (gName 2)) (tt := tYes) rfl sc_way_text.nd (pi_list (pv 1)) (blkOk_by (own := [("row", 2)]) (N := ["way", "rows", "row", "one"]) (sc := defScope s_way_text) (by decide +kernel)) (fun _ _ _ _ _ => (pg_name (i := 2) sc_way_text.nd rfl (by first | exact Or.inl rfl | exact Or.inr rfl))) (fun _ _ _ _ _ => pts_nil) (fun _ _ _ _ _ => (pe_joinedS (PJ.cons pe_str (PJ.cons (pe_fmt (pv 2)) (PJ.cons pe_str PJ.nil)))))))))), rd_way_text h⟩)
theorem ok_write (T : TX w K mg) : ∀ n, FnOk Pg w K mg base CX0 (4 + n) T.a_write T.d_write ["tree"] (spW0 K (P_write n))
  | 0 => fnok_none (fun vs H Q E h => no_W0 (fun _ _ z => z) h)
  | n + 1 => okW T.cs T.F_write sc_write ln_write (fun ds A h cdv Ar outer sh H E hr => ⟨t_write K n , (pss_cons (ps_asg (pv 0) (pg_starE rfl (pgs_cons (pg_name (i := 2) sc_write.nd rfl (by first | exact Or.inl rfl | exact Or.inr rfl)) (pgs_cons (pg_name (i := 3) sc_write.nd rfl (by first | exact Or.inl rfl | exact Or.inr rfl)) pgs_nil))))
      (pss_cons (ps_if (pt_cmpR op_eq (pv 2) pe_str (nomark _)) (pss_one (ps_ret (pe_ix ix_seq (pv 3) pe_int (fun _ _ => rfl)))) pss_nil)
      (pss_cons (ps_if (pt_cmpR op_eq (pv 2) pe_str (nomark _)) (pss_one (ps_ret (pe_joinedS (PJ.cons pe_str (PJ.cons (pe_fmt (pe_ix ix_seq (pv 3) pe_int (fun _ _ => rfl))) (PJ.cons pe_str (PJ.cons (pe_fmt (pe_call (ok_write T n) hr (by rfl) T.g_write T.F_write.kp T.b_write .nil pass0 (pa_cons (pe_ix ix_seq (pv 3) pe_int (fun _ _ => rfl)) pa_nil))) (PJ.cons pe_str PJ.nil)))))))) pss_nil)
      (pss_cons (ps_if (pt_cmpR op_eq (pv 2) pe_str (nomark _)) (pss_one (ps_ret (pe_joinedS (PJ.cons pe_str (PJ.cons (pe_fmt (pe_call (ok_way_text T) (hr.mono (by first | omega | (simp only [Nat.add_eq]; omega))) (by rfl) T.g_way_text T.F_way_text.kp T.b_way_text .nil pass0 (pa_cons (pe_ix ix_seq (pv 3) pe_int (fun _ _ => rfl)) pa_nil))) (PJ.cons pe_str (PJ.cons (pe_fmt (pe_call (ok_write T n) hr (by rfl) T.g_write T.F_write.kp T.b_write .nil pass0 (pa_cons (pe_ix ix_seq (pv 3) pe_int (fun _ _ => rfl)) pa_nil))) (PJ.cons pe_str PJ.nil)))))))) pss_nil)
      (pss_cons (ps_set (i := 1) sc_write.nd rfl (by first | exact Or.inl rfl | exact Or.inr rfl) (pe_joinS pe_str (pe_lc (own := [("one", 4)]) (g := (gName 4)) (tt := tYes) rfl sc_write.nd (pi_list (pv 3)) (blkOk_by (own := [("one", 4)]) (N := ["tree", "inner", "word", "rest", "one"]) (sc := defScope s_write) (by decide +kernel)) (fun _ _ _ _ _ => (pg_name (i := 4) sc_write.nd rfl (by first | exact Or.inl rfl | exact Or.inr rfl))) (fun _ _ _ _ _ => pts_nil) (fun _ _ _ _ _ => (pe_call (ok_write T n) hr (by rfl) T.g_write T.F_write.kp T.b_write .nil pass0 (pa_cons (pv 4) pa_nil))))))
      (pss_one (ps_ret (pe_joinedS (PJ.cons pe_str (PJ.cons (pe_fmt (pv 2)) (PJ.cons pe_str (PJ.cons (pe_fmt (pv 1)) (PJ.cons pe_str PJ.nil))))))))))))), rd_write h⟩)
theorem ok_settled (T : TX w K mg) : FnOk Pg w K mg base (L2.CX Pg w) 36 T.a_settled T.d_settled ["tree"] (spPL K T.cs P_setl) :=
  okPL T.F_settled sc_settled ln_settled (fun ds A h cdv Ar outer sh H E hr => ⟨t_settled K T.cs (WD E), (pss_cons (ps_set (i := 1) sc_settled.nd rfl (by first | exact Or.inl rfl | exact Or.inr rfl) (pe_lst pa_nil))
      (pss_cons (ps_set (i := 2) sc_settled.nd rfl (by first | exact Or.inl rfl | exact Or.inr rfl) (pe_callSD (ok_one_step T 26) (hr.mono (by decide)) (by rfl) T.g_one_step T.F_one_step.kp T.b_one_step .nil (fun σ => passAt (takes_of rfl rfl rfl rfl) σ) (pa_cons (pv 0) pa_nil)))
      (pss_cons (ps_while (passes_of rfl) (pt_cmpR o_notN (pv 2) pe_non (nomark _)) (pss_cons (ps_asg (pv 2) (pg_tup rfl (pgs_cons (pg_name (i := 3) sc_settled.nd rfl (by first | exact Or.inl rfl | exact Or.inr rfl)) (pgs_cons (pg_name (i := 0) sc_settled.nd rfl (by first | exact Or.inl rfl | exact Or.inr rfl)) pgs_nil))))
      (pss_cons (ps_expr (pe_bm PySem.F.plainAttrs_list PySem.F.slot_list_append PySem.F.type_list_append mt_append (pv 1) (pa_cons (pe_tup (pa_cons (pv 3) (pa_cons (pe_call (ok_write T 26) (hr.mono (by decide)) (by rfl) T.g_write T.F_write.kp T.b_write .nil pass0 (pa_cons (pv 0) pa_nil)) pa_nil))) pa_nil)))
      (pss_one (ps_set (i := 2) sc_settled.nd rfl (by first | exact Or.inl rfl | exact Or.inr rfl) (pe_callSD (ok_one_step T 26) (hr.mono (by decide)) (by rfl) T.g_one_step T.F_one_step.kp T.b_one_step .nil (fun σ => passAt (takes_of rfl rfl rfl rfl) σ) (pa_cons (pv 0) pa_nil)))))))
      (pss_one (ps_ret (pe_tup (pa_cons (pv 0) (pa_cons (pv 1) pa_nil)))))))), rd_settled h (WD E)⟩)
theorem ok__law_refused (T : TX w K mg) : FnOk Pg w K mg base CX0 37 T.a__law_refused T.d__law_refused ["_law_tree"] (spW0 K P_lrefused) :=
  okW T.cs T.F__law_refused sc__law_refused ln__law_refused (fun ds A h cdv Ar outer sh H E hr => ⟨t__law_refused K T.cs, (pss_cons (ps_try_as (i := 1) (tb := fun W => (tDrop (tCallSD (spPL K T.cs P_setl) [] (WE W) (tCons (tVar 0) tNil)))) (ts := fun a cls d => (tRet (tXf a cls d (T.cs "OtherRoom") "word" (tVar 1)))) (Wout := fun _ _ _ _ => False) rfl rfl sc__law_refused.nd rfl rfl ⟨rfl, by decide, Or.inl T.g_OtherRoom⟩ takes0 (fun W pn xe tk _ => (pss_one (ps_expr (pe_callSD (ok_settled T) (hr.mono (by decide)) (by rfl) T.g_settled T.F_settled.kp T.b_settled .nil (fun σ => passAt tk σ) (pa_cons (pv 0) pa_nil))))) (fun a oe cls d pn hz hf => (pss_one (ps_ret (pe_xf T.xf_OtherRoom T.nw_OtherRoom_word hz hf (pv 1))))))
      (pss_one (ps_ret pe_str))), rd__law_refused T.em_OtherRoom_OtherRoom h⟩)
theorem ok__law_part_text (T : TX w K mg) : FnOk Pg w K mg base CX0 1 T.a__law_part_text T.d__law_part_text ["_law_one"] (spW0 K P_lpartText) :=
  okW T.cs T.F__law_part_text sc__law_part_text ln__law_part_text (fun ds A h cdv Ar outer sh H E hr => ⟨t__law_part_text K, (pss_one (ps_ret (pe_ifExp (pt_cmpR op_eq (pe_ix ix_seq (pv 0) pe_int (fun _ _ => rfl)) pe_int (nomark _)) (pe_callTy c_strI (by rfl) T.n_str (by decide +kernel) (pa_cons (pe_ix ix_seq (pv 0) pe_int (fun _ _ => rfl)) pa_nil)) (pe_op op_addStr (pe_op op_addStr (pe_callTy c_strI (by rfl) T.n_str (by decide +kernel) (pa_cons (pe_ix ix_seq (pv 0) pe_int (fun _ _ => rfl)) pa_nil)) pe_str) (pe_callTy c_strI (by rfl) T.n_str (by decide +kernel) (pa_cons (pe_ix ix_seq (pv 0) pe_int (fun _ _ => rfl)) pa_nil)))))), rd__law_part_text h⟩)
theorem ok__law_text (T : TX w K mg) : ∀ n, FnOk Pg w K mg base CX0 (4 + n) T.a__law_text T.d__law_text ["_law_tree"] (spW0 K (P_ltext n))
  | 0 => fnok_none (fun vs H Q E h => no_W0 (fun _ _ z => z) h)
  | n + 1 => okW T.cs T.F__law_text sc__law_text ln__law_text (fun ds A h cdv Ar outer sh H E hr => ⟨t__law_text K n , (pss_cons (ps_if (pt_cmpR op_eq (pe_ix ix_seq (pv 0) pe_int (fun _ _ => rfl)) pe_str (nomark _)) (pss_one (ps_ret (pe_ix ix_seq (pv 0) pe_int (fun _ _ => rfl)))) pss_nil)
      (pss_cons (ps_set (i := 1) sc__law_text.nd rfl (by first | exact Or.inl rfl | exact Or.inr rfl) (pe_lst (pa_cons (pe_ix ix_seq (pv 0) pe_int (fun _ _ => rfl)) pa_nil)))
      (pss_cons (ps_if (pt_cmpR op_eq (pe_ix ix_seq (pv 0) pe_int (fun _ _ => rfl)) pe_str (nomark _)) (pss_one (ps_expr (pe_bm PySem.F.plainAttrs_list PySem.F.slot_list_append PySem.F.type_list_append mt_append (pv 1) (pa_cons (pe_callTy c_strI (by rfl) T.n_str (by decide +kernel) (pa_cons (pe_ix ix_seq (pv 0) pe_int (fun _ _ => rfl)) pa_nil)) pa_nil)))) pss_nil)
      (pss_cons (ps_if (pt_cmpR op_eq (pe_ix ix_seq (pv 0) pe_int (fun _ _ => rfl)) pe_str (nomark _)) (pss_one (ps_expr (pe_bm PySem.F.plainAttrs_list PySem.F.slot_list_extend PySem.F.type_list_extend mt_extend (pv 1) (pa_cons (pe_lc (own := [("_law_row", 2)]) (g := (gName 2)) (tt := tYes) rfl sc__law_text.nd (pi_tup (pe_ix ix_seq (pv 0) pe_int (fun _ _ => rfl))) (blkOk_by (own := [("_law_row", 2)]) (N := ["_law_tree", "_law_words", "_law_row", "_law_inner_here", "_law_one"]) (sc := defScope s__law_text) (by decide +kernel)) (fun _ _ _ _ _ => (pg_name (i := 2) sc__law_text.nd rfl (by first | exact Or.inl rfl | exact Or.inr rfl))) (fun _ _ _ _ _ => pts_nil) (fun _ _ _ _ _ => (pe_op op_addStr (pe_op op_addStr pe_str (pe_joinS pe_str (pe_lc (own := [("_law_one", 4)]) (g := (gName 4)) (tt := tYes) rfl sc__law_text.nd (pi_tup (pv 2)) (blkOk_by (own := [("_law_one", 4)]) (N := ["_law_tree", "_law_words", "_law_row", "_law_inner_here", "_law_one"]) (sc := ({ kind := PySem.ScopeKind.function, names := [(PySem.Str.ofString ".0", PySem.NameKind.local), (PySem.Str.ofString "_law_row", PySem.NameKind.local)], isGenerator := false, isCoroutine := false, more := [] : PySem.Scope })) (by decide +kernel)) (fun _ _ _ _ _ => (pg_name (i := 4) sc__law_text.nd rfl (by first | exact Or.inl rfl | exact Or.inr rfl))) (fun _ _ _ _ _ => pts_nil) (fun _ _ _ _ _ => (pe_call (ok__law_part_text T) (hr.mono (by first | omega | (simp only [Nat.add_eq]; omega))) (by rfl) T.g__law_part_text T.F__law_part_text.kp T.b__law_part_text .nil pass0 (pa_cons (pv 4) pa_nil)))))) pe_str))) pa_nil)))) pss_nil)
      (pss_one (ps_ret (pe_op op_addStr (pe_op op_addStr pe_str (pe_joinS pe_str (pe_op op_catL (pv 1) (pe_lc (own := [("_law_inner_here", 3)]) (g := (gName 3)) (tt := tYes) rfl sc__law_text.nd (pi_list (pe_call (ok__law_inner T) (hr.mono (by first | omega | (simp only [Nat.add_eq]; omega))) (by rfl) T.g__law_inner T.F__law_inner.kp T.b__law_inner .nil pass0 (pa_cons (pv 0) pa_nil))) (blkOk_by (own := [("_law_inner_here", 3)]) (N := ["_law_tree", "_law_words", "_law_row", "_law_inner_here", "_law_one"]) (sc := defScope s__law_text) (by decide +kernel)) (fun _ _ _ _ _ => (pg_name (i := 3) sc__law_text.nd rfl (by first | exact Or.inl rfl | exact Or.inr rfl))) (fun _ _ _ _ _ => pts_nil) (fun _ _ _ _ _ => (pe_call (ok__law_text T n) hr (by rfl) T.g__law_text T.F__law_text.kp T.b__law_text .nil pass0 (pa_cons (pv 3) pa_nil))))))) pe_str))))))), rd__law_text h⟩)
theorem ok__law_bare_tree (T : TX w K mg) : FnOk Pg w K mg base CX0 2 T.a__law_bare_tree T.d__law_bare_tree ["_law_bag_here"] (spWB K P_lbare) :=
  okWB T.cs T.F__law_bare_tree sc__law_bare_tree ln__law_bare_tree (fun ds A h cdv Ar outer sh H E hr => ⟨t__law_bare_tree K, (pss_cons (ps_set (i := 1) sc__law_bare_tree.nd rfl (by first | exact Or.inl rfl | exact Or.inr rfl) (pe_tup (pa_cons pe_str (pa_cons (pe_ix ix_seq (pe_lst (pa_cons pe_str (pa_cons pe_str (pa_cons pe_str pa_nil)))) (pe_call (ok__law_pull T) (hr.mono (by decide)) (by rfl) T.g__law_pull T.F__law_pull.kp T.b__law_pull .nil pass0 (pa_cons (pv 0) (pa_cons pe_int pa_nil))) (fun _ _ => rfl)) pa_nil))))
      (pss_cons (ps_set (i := 2) sc__law_bare_tree.nd rfl (by first | exact Or.inl rfl | exact Or.inr rfl) (pe_lst (pa_cons (pv 1) (pa_cons (pe_tup (pa_cons pe_str (pa_cons (pv 1) pa_nil))) (pa_cons (pe_tup (pa_cons pe_str (pa_cons pe_int (pa_cons (pv 1) pa_nil)))) (pa_cons (pe_tup (pa_cons pe_str (pa_cons (pv 1) (pa_cons (pe_tup (pa_cons pe_str (pa_cons (pe_un un_negI pe_int) (pa_cons (pv 1) pa_nil)))) pa_nil)))) pa_nil))))))
      (pss_cons (ps_expr (pe_bm PySem.F.plainAttrs_list PySem.F.slot_list_extend PySem.F.type_list_extend mt_extend (pv 2) (pa_cons (pe_lst (pa_cons (pe_tup (pa_cons pe_str (pa_cons (pv 1) (pa_cons (pv 1) pa_nil)))) (pa_cons (pe_tup (pa_cons pe_str (pa_cons (pv 1) (pa_cons (pv 1) pa_nil)))) pa_nil))) pa_nil)))
      (pss_one (ps_ret (pe_ix ix_seq (pv 2) (pe_call (ok__law_pull T) (hr.mono (by decide)) (by rfl) T.g__law_pull T.F__law_pull.kp T.b__law_pull .nil pass0 (pa_cons (pv 0) (pa_cons pe_int pa_nil))) (fun _ _ => rfl))))))), rd__law_bare_tree h⟩)
theorem ok__law_lean_map (T : TX w K mg) : FnOk Pg w K mg base CX0 5 T.a__law_lean_map T.d__law_lean_map ["_law_bag_here", "_law_start", "_law_goal"] (spWB K P_llean) :=
  okWB T.cs T.F__law_lean_map sc__law_lean_map ln__law_lean_map (fun ds A h cdv Ar outer sh H E hr => ⟨t__law_lean_map K, (pss_one (ps_ret (pe_callTy c_tuple (by rfl) T.n_tuple (by decide +kernel) (pa_cons (pe_lc (own := [("_law_row", 3)]) (g := (gName 3)) (tt := tYes) rfl sc__law_lean_map.nd (pi_range1 (by rfl) T.n_range (pa_cons (pv 2) pa_nil)) (blkOk_by (own := [("_law_row", 3)]) (N := ["_law_bag_here", "_law_start", "_law_goal", "_law_row", "_law_at"]) (sc := defScope s__law_lean_map) (by decide +kernel)) (fun _ _ _ _ _ => (pg_name (i := 3) sc__law_lean_map.nd rfl (by first | exact Or.inl rfl | exact Or.inr rfl))) (fun _ _ _ _ _ => pts_nil) (fun _ _ _ _ _ => (pe_callTy c_tuple (by rfl) T.n_tuple (by decide +kernel) (pa_cons (pe_op op_catL (pe_lc (own := [("_law_at", 4)]) (g := (gName 4)) (tt := tYes) rfl sc__law_lean_map.nd (pi_range1 (by rfl) T.n_range (pa_cons (pv 1) pa_nil)) (blkOk_by (own := [("_law_at", 4)]) (N := ["_law_bag_here", "_law_start", "_law_goal", "_law_row", "_law_at"]) (sc := ({ kind := PySem.ScopeKind.function, names := [ (PySem.Str.ofString ".0", PySem.NameKind.local), (PySem.Str.ofString "_law_row", PySem.NameKind.local), (PySem.Str.ofString "tuple", PySem.NameKind.globalImplicit), (PySem.Str.ofString "range", PySem.NameKind.globalImplicit), (PySem.Str.ofString "_law_bag_here", PySem.NameKind.cell), (PySem.Str.ofString "_law_start", PySem.NameKind.cell)], isGenerator := false, isCoroutine := false, more := [] : PySem.Scope })) (by decide +kernel)) (fun _ _ _ _ _ => (pg_name (i := 4) sc__law_lean_map.nd rfl (by first | exact Or.inl rfl | exact Or.inr rfl))) (fun _ _ _ _ _ => pts_nil) (fun _ _ _ _ _ => (pe_call (ok__law_entry T) (hr.mono (by decide)) (by rfl) T.g__law_entry T.F__law_entry.kp T.b__law_entry .nil pass0 (pa_cons (pv 0) pa_nil)))) (pe_lst (pa_cons (pe_tup (pa_cons pe_int (pa_cons pe_int pa_nil))) pa_nil))) pa_nil)))) pa_nil)))), rd__law_lean_map h⟩)
theorem ok__law_unlike_rooms (T : TX w K mg) : FnOk Pg w K mg base CX0 6 T.a__law_unlike_rooms T.d__law_unlike_rooms ["_law_bag_here"] (spWB K P_lunlike) :=
  okWB T.cs T.F__law_unlike_rooms sc__law_unlike_rooms ln__law_unlike_rooms (fun ds A h cdv Ar outer sh H E hr => ⟨t__law_unlike_rooms K, (pss_cons (ps_set (i := 1) sc__law_unlike_rooms.nd rfl (by first | exact Or.inl rfl | exact Or.inr rfl) (pe_op op_addI pe_int (pe_call (ok__law_pull T) (hr.mono (by decide)) (by rfl) T.g__law_pull T.F__law_pull.kp T.b__law_pull .nil pass0 (pa_cons (pv 0) (pa_cons pe_int pa_nil)))))
      (pss_cons (ps_set (i := 2) sc__law_unlike_rooms.nd rfl (by first | exact Or.inl rfl | exact Or.inr rfl) (pe_op op_addI pe_int (pe_call (ok__law_pull T) (hr.mono (by decide)) (by rfl) T.g__law_pull T.F__law_pull.kp T.b__law_pull .nil pass0 (pa_cons (pv 0) (pa_cons pe_int pa_nil)))))
      (pss_cons (ps_set (i := 3) sc__law_unlike_rooms.nd rfl (by first | exact Or.inl rfl | exact Or.inr rfl) (pe_call (ok__law_bare_tree T) (hr.mono (by decide)) (by rfl) T.g__law_bare_tree T.F__law_bare_tree.kp T.b__law_bare_tree .nil pass0 (pa_cons (pv 0) pa_nil)))
      (pss_cons (ps_set (i := 4) sc__law_unlike_rooms.nd rfl (by first | exact Or.inl rfl | exact Or.inr rfl) (pe_tup (pa_cons pe_str (pa_cons (pe_call (ok__law_lean_map T) (hr.mono (by decide)) (by rfl) T.g__law_lean_map T.F__law_lean_map.kp T.b__law_lean_map .nil pass0 (pa_cons (pv 0) (pa_cons (pv 1) (pa_cons (pv 2) pa_nil)))) (pa_cons (pe_tup (pa_cons pe_str (pa_cons (pe_tup (pa_cons pe_str (pa_cons (pv 3) pa_nil))) pa_nil))) pa_nil)))))
      (pss_cons (ps_set (i := 5) sc__law_unlike_rooms.nd rfl (by first | exact Or.inl rfl | exact Or.inr rfl) (pe_tup (pa_cons pe_str (pa_cons (pe_call (ok__law_lean_map T) (hr.mono (by decide)) (by rfl) T.g__law_lean_map T.F__law_lean_map.kp T.b__law_lean_map .nil pass0 (pa_cons (pv 0) (pa_cons (pe_op op_subI pe_int (pv 2)) (pa_cons (pe_op op_addI pe_int (pe_call (ok__law_pull T) (hr.mono (by decide)) (by rfl) T.g__law_pull T.F__law_pull.kp T.b__law_pull .nil pass0 (pa_cons (pv 0) (pa_cons pe_int pa_nil)))) pa_nil)))) (pa_cons (pv 4) pa_nil)))))
      (pss_cons (ps_set (i := 6) sc__law_unlike_rooms.nd rfl (by first | exact Or.inl rfl | exact Or.inr rfl) (pe_lst (pa_cons (pv 5) (pa_cons (pe_tup (pa_cons pe_str (pa_cons (pv 5) pa_nil))) (pa_cons (pe_tup (pa_cons pe_str (pa_cons pe_int (pa_cons (pv 5) pa_nil)))) (pa_cons (pe_tup (pa_cons pe_str (pa_cons (pe_tup (pa_cons pe_str (pa_cons pe_int (pa_cons (pv 3) pa_nil)))) (pa_cons (pv 5) pa_nil)))) (pa_cons (pe_tup (pa_cons pe_str (pa_cons (pv 5) (pa_cons (pv 3) pa_nil)))) pa_nil)))))))
      (pss_one (ps_ret (pe_ix ix_seq (pv 6) (pe_call (ok__law_pull T) (hr.mono (by decide)) (by rfl) T.g__law_pull T.F__law_pull.kp T.b__law_pull .nil pass0 (pa_cons (pv 0) (pa_cons pe_int pa_nil))) (fun _ _ => rfl)))))))))), rd__law_unlike_rooms h⟩)
def t_law (K : Fg) (cs : Cs) (gs : Gs) : TS := (tSeq (tAsg (tLst (tCons (tTup (tCons (tC (V.str "a")) (tCons (tC (V.int 2)) tNil))) (tCons (tTup (tCons (tC (V.str "b")) (tCons (tC (V.int 1)) tNil))) (tCons (tTup (tCons (tC (V.str "c")) (tCons (tC (V.int 2)) tNil))) tNil)))) (gName 2))
  (tSeq (tAsg (tCall (spWB K (P_lfit 8)) [] E0 (tCons (tVar 1) (tCons (tOp rAddI (tC (V.int 1)) (tCall (spB K P_pull) [] E0 (tCons (tVar 1) (tCons (tC (V.int 4)) tNil)))) (tCons (tOp rAddI (tC (V.int 1)) (tCall (spB K P_pull) [] E0 (tCons (tVar 1) (tCons (tC (V.int 2)) tNil)))) (tCons (tVar 2) tNil))))) (gName 3))
  (tSeq (tIfS (tTest (tOp rEq (tCall (spB K P_pull) [] E0 (tCons (tVar 1) (tCons (tC (V.int 2)) tNil))) (tC (V.int 0)))) (tAsg (tTup (tCons (tOp (rIx K) (tLst (tCons (tC (V.str "turn")) (tCons (tC (V.str "turn")) tNil))) (tCall (spB K P_pull) [] E0 (tCons (tVar 1) (tCons (tC (V.int 2)) tNil)))) (tCons (tTup (tCons (tC (V.str "times")) (tCons (tC (V.int 2)) (tCons (tVar 3) tNil)))) tNil))) (gName 3)) tNext)
  (tSeq (tAsg (tLst tNil) (gName 4))
  (tSeq (tAsg (tVar 3) (gName 5))
  (tSeq (tFor (iRng1 (tCons (tC (V.int 400)) tNil)) (gName 6) (tSeq (tAsg (tCall (spW0 K (P_lone 26)) [] E0 (tCons (tVar 5) tNil)) (gName 9))
  (tSeq (tIfS (tTest (tOp rIsNo (tVar 9) (tC V.non))) tBreak tNext)
  (tSeq (tAsg (tOp (rIx K) (tVar 9) (tC (V.int 1))) (gName 5))
  (tDrop (tBM K "list" rAppend (tVar 4) (tCons (tTup (tCons (tOp (rIx K) (tVar 9) (tC (V.int 0))) (tCons (tCall (spW0 K (P_ltext 26)) [] E0 (tCons (tVar 5) tNil)) tNil))) tNil)))))))
  (tSeq (tFor (iRng1 (tCons (tC (V.int 2)) tNil)) (gName 7) (tSeq (tAsg (tCallSD (spPL K cs P_setl) [] (WE W0) (tCons (tVar 3) tNil)) (gName 10))
  (tSeq (tIfS (tOr (tNot (tB (tCB (rIsi K) (tCons (tVar 10) (tCons (tC (V.ty "tuple")) tNil))))) (tOr (tTest (tOp rNe (tCB (rLenQ K) (tCons (tVar 10) tNil)) (tC (V.int 2)))) (tNot (tB (tCall (spP K (P_like 34)) [] E0 (tCons (tOp (rIx K) (tVar 10) (tC (V.int 0))) (tCons (tVar 5) tNil))))))) (tRet (tC (V.bl false))) tNext)
  (tSeq (tIfS (tNot (tB (tCall (spP K (P_like 34)) [] E0 (tCons (tOp (rIx K) (tVar 10) (tC (V.int 1))) (tCons (tVar 4) tNil))))) (tRet (tC (V.bl false))) tNext)
  (tDrop (tBM0 K "list" rClear (tOp (rIx K) (tVar 10) (tC (V.int 1)))))))))
  (tSeq (tIfS (tOr (tNot (tB (tCall (spP K (P_like 34)) [] E0 (tCons (tCallSD (spPL K cs P_setl) [] (WE W0) (tCons (tVar 5) tNil)) (tCons (tTup (tCons (tVar 5) (tCons (tLst tNil) tNil))) tNil))))) (tNot (tB (tCall (spP K (P_like 34)) [] E0 (tCons (tCall (spW0 K (P_write 26)) [] E0 (tCons (tVar 5) tNil)) (tCons (tCall (spW0 K (P_ltext 26)) [] E0 (tCons (tVar 5) tNil)) tNil)))))) (tRet (tC (V.bl false))) tNext)
  (tSeq (tIfS (tNot (tB (tCall (spP K (P_like 34)) [] E0 (tCons (tCall (spW0 K P_lrefused) [] E0 (tCons (tCall (spWB K P_lunlike) [] E0 (tCons (tVar 1) tNil)) tNil)) (tCons (tC (V.str "OtherRoom")) tNil))))) (tRet (tC (V.bl false))) tNext)
  (tSeq (tAsg (tTup (tCons (tC (V.str "twice")) (tCons (tC (V.str "once")) (tCons (tC (V.str "product")) (tCons (tC (V.str "still")) (tCons (tC (V.str "onward")) (tCons (tC (V.str "turncarry")) (tCons (tC (V.str "turntimes")) (tCons (tC (V.str "carrytimes")) tNil))))))))) (gName 8))
  (tRet (tCall (spP K (P_like 34)) [] E0 (tCons (tC (gs "RULES")) (tCons (tOp (rCatA K) (tVar 8) (tTup (tCons (tC (V.str "turnpair")) (tCons (tC (V.str "carrypair")) (tCons (tC (V.str "left")) (tCons (tC (V.str "right")) tNil)))))) tNil))))))))))))))
-- slots of law: 0 _law_script, 1 _law_bag_here, 2 _law_names, 3 _law_tree, 4 _law_due, 5 _law_here, 6 _law_turn, 7 _law_again, 8 _law_words, 9 _law_step, 10 _law_found
theorem ns_nl : ∀ {t : Tr}, t.Ns ["a", "b", "c"] → t.Nl
  | .nm s, h => Tr.abc_len h
  | .tm _ t, h => ns_nl (t := t) h
  | .tn t, h => ns_nl (t := t) h
  | .cy _ t, h => ns_nl (t := t) h
  | .pr _ t u, h => ⟨ns_nl h.1, ns_nl h.2⟩
theorem way0 {t : Tr} {r : Nat} (hw : t.Wf) (hd : t.depth ≤ 4) (hr : r = 1 ∨ r = 2) (hf : t.Fit Tr.abcR r) : OnWay true Tr.abcR r t ∧ t.sz + t.bP ≤ 200 ∧ t.sz ≤ 46 ∧ t.bP ≤ 64 ∧ Tr.dz t ≤ 4 ∧ Tr.nT t ≤ 15 := qt_of (by simp (disch := with_unfolding_all
  have z1 := Tr.dz_depth t
  have z2 := Tr.nT_depth t
  have z3 := Tr.sz_depth t
  have z4 := Tr.bP_depth t
  have m : 2 ^ t.depth ≤ 2 ^ 4 := Nat.pow_le_pow_right (by decide) hd
  have m2 : t.depth * 2 ^ t.depth ≤ 4 * 2 ^ 4 := Nat.mul_le_mul hd m
  have nn : Tr.nT t ≤ 15 := by omega
  exact ⟨⟨⟨hf.gw hd hr hw, hf.nw.mono (by omega), by omega⟩, ns_nl hf.ns, by omega⟩, by omega, by omega, by omega, by omega, nn⟩
  ) only [↓qt_eq])
theorem way1 {t : Tr} {r : Nat} (h : OnWay true Tr.abcR r t) (s : t.sz ≤ 46) (p : t.bP ≤ 64) (d : Tr.dz t ≤ 4) (n : Tr.nT t ≤ 15) (nw : Tr.Nw 23 t) : OnWay true Tr.abcR r (.tn (.tm 2 t)) ∧ Tr.sz (.tn (.tm 2 t)) + Tr.bP (.tn (.tm 2 t)) ≤ 200 := qt_of (by simp (disch := with_unfolding_all
  have e1 : Tr.sz (.tn (.tm 2 t)) = 2 * (t.sz + 1) := rfl
  have e2 : Tr.bP (.tn (.tm 2 t)) = t.bP := rfl
  have e3 : Tr.dz (.tn (.tm 2 t)) = Tr.dz t + 1 := rfl
  have e4 : Tr.nT (.tn (.tm 2 t)) = Tr.nT t + 1 := rfl
  exact ⟨⟨⟨h.sd.g, ⟨1, by decide, by decide, nw⟩, by omega⟩, h.nl, by omega⟩, by omega⟩
  ) only [↓qt_eq])
theorem c_lone {nps : List (Str × Int)} {r : Nat} {t : Tr} {A : Rs → Prop} (h : OnWay true nps r t) (hO : ∀ o, Tr.step t = .ok o → A (.ok (stepD o))) : P_lone 26 [t.enc] A :=
  ⟨t, nps, 4, r, rfl, h.sd.tk, Nat.le_refl _, h.sd.g, show t.depth ≤ 25 by have := h.depth; omega, by decide, hO⟩
theorem c_write {ok : Bool} {nps : List (Str × Int)} {r : Nat} {t : Tr} {A : Rs → Prop} (h : OnWay ok nps r t) (a : A (.ok (.str (tx t.txt)))) : P_write 26 [t.enc] A :=
  ⟨t, rfl, h.sd.tk, h.nl, by have := h.sz; omega, show t.depth ≤ 25 by have := h.depth; omega, by decide, a⟩
theorem c_ltext {ok : Bool} {nps : List (Str × Int)} {r : Nat} {t : Tr} {A : Rs → Prop} (h : OnWay ok nps r t) (a : A (.ok (.str (tx t.txt)))) : P_ltext 26 [t.enc] A :=
  ⟨t, rfl, h.sd.tk, h.nl, h.sz, show t.depth ≤ 25 by have := h.depth; omega, by decide, a⟩
theorem rd_law (gdr : ∀ H, Dp K H (gs "RULES") rulesD) (ns : List Int) (hl : ns.length ≤ 63) : SW K cs W0 (t_law K cs gs) (.d (.list (ns.map PyData.int)) :: .bag :: List.replicate (11 - 2) .un) (fun o => o = .rt (.bool true)) := qt_of (by simp (disch := with_unfolding_all
  unfold t_law
  refine sw_seq ?_
  walk_at "s"
  refine sw_seq ?_
  walk_at "s"
  rename_i d d0 d1 r r0 r1
  obtain ⟨d, rfl⟩ := Int.eq_ofNat_of_zero_le d0
  obtain ⟨r, rfl⟩ := Int.eq_ofNat_of_zero_le r0
  have ed : (1 : Int) + (d : Int) = ((d + 1 : Nat) : Int) := by omega
  have er : (1 : Int) + (r : Int) = ((r + 1 : Nat) : Int) := by omega
  rw [ed, er]
  refine c_lfit (d := d + 1) (r := r + 1) (nps := Tr.abcR) (by omega) (Nat.le_refl _) (by omega) (by decide) ?_ fun t0 hw0 hd0 hf0 => ?_
  · rintro q (rfl | rfl)
    · exact ⟨("b", 1), by decide, rfl⟩
    · exact ⟨("a", 2), by decide, rfl⟩
  obtain ⟨W0', p0, s0, b0, z0, n0⟩ := way0 hw0 (by omega) (by omega) hf0
  refine sw_cut (fun G => ∃ t : Tr, OnWay true Tr.abcR (r + 1) t ∧ t.sz + t.bP ≤ 200 ∧ G = [.d (.list (ns.map PyData.int)), .bag, .d (.list (Tr.abcR.map npD)), .d t.enc, .un, .un, .un, .un, .un, .un, .un]) ?_ ?_
  · walk_at "s"
    refine cnd_d (fun _ => ?_) (fun _ => ?_)
    · walk_at "s"
      rename_i v v0 v1
      obtain ⟨z, mz, ez⟩ := menu_at (xs := [PyData.str "turn", PyData.str "turn"]) v0 v1
      refine ⟨z, ez, ?_⟩
      obtain rfl : z = .str "turn" := by
        simp only [List.mem_cons, List.not_mem_nil, or_false] at mz
        rcases mz with rfl | rfl <;> rfl
      walk_at "s"
      obtain ⟨w1, w2⟩ := way1 W0' s0 b0 z0 n0 (hf0.nw.mono (by omega))
      exact ⟨_, w1, w2, rfl⟩
    · walk_at "s"
      exact ⟨t0, W0', p0, rfl⟩
  clear W0' p0 s0 b0 z0 n0 hf0 hd0 hw0
  rintro _ ⟨t, hw, hs, rfl⟩
  obtain ⟨p, e, hr, hp⟩ := Tr.run_ex _ t (Nat.le_refl _)
  obtain ⟨u, rfl⟩ := hr.good hw.sd
  refine sw_seq (sw_asgF (ef_lst0 ?_))
  walk_at "s"
  refine sw_seq ?_
  walk_at "s"
  refine sw_seq ?_
  walk_at "s"
  refine forN (k := 400) (fun i G => ∃ (c : Tr) (a b : List (Str × Tr)) (e6 e9 : En), OnWay true Tr.abcR (r + 1) c ∧ Tr.Run c b (some u) ∧ p = a ++ b ∧ a.length = i ∧ G = [.d (.list (ns.map PyData.int)), .bag, .d (.list (Tr.abcR.map npD)), .d t.enc, .ow (ol (paperD a)), .d c.enc, e6, .un, .un, e9, .un]) ⟨t, [], p, _, _, hw, hr, rfl, rfl, rfl⟩ ?_ ?_
  · rintro i _ hi ⟨c, a, b, e6, e9, hc, hrc, hpe, hai, rfl⟩
    refine gw_name ?_
    refine sw_seq ?_
    walk_at "s"
    refine c_lone hc fun o ho => ?_
    cases o with
    | none =>
      obtain ⟨rfl, e⟩ := hrc.inv.2.1 ho
      cases e
      rw [List.append_nil] at hpe
      subst hpe
      show sq K cs W0 _ _ (.nx [_, _, _, _, _, _, _, _, _, .d .none, _])
      walk_at "wi"
      refine cnd_t ?_
      walk_at "s"
      refine sw_freeze (i := 4) rfl ?_
      refine sw_seq ?_
      walk_at "s"
      refine forN (k := 2) (fun i G => ∃ e6 e7 e9 e10, G = [.d (.list (ns.map PyData.int)), .bag, .d (.list (Tr.abcR.map npD)), .d t.enc, .d (.list (paperD p)), .d u.enc, e6, e7, .un, e9, e10]) ⟨_, _, _, _, rfl⟩ ?_ ?_
      · rintro i _ hi ⟨e6, e7, e9, e10, rfl⟩
        refine gw_name (sw_pairClear (i := 10) (by simp) (aw_cons (ew_var rfl (aw_nil ?_))))
        refine c_settled hw hr (by omega) (fun x ex => ?_) (fun z => by cases z)
        cases ex
        refine ⟨_, _, rfl, ?_, ?_, ?_⟩
        · walk_at "s"
          refine ⟨true, rfl, ?_⟩
          walk_at "s"
          refine cnd_nd (fun z => absurd rfl z) fun _ => ?_
          walk_at "s"
          refine c_like34 rfl (okD_way hc (by decide)) ?_
          walk_at "s"
          rfl
        · walk_at "s"
          refine c_like34 rfl (okD_paper (by omega : p.length ≤ 1000000)) ?_
          walk_at "s"
          rfl
        · exact ⟨_, _, _, _, rfl⟩
      · rintro _ ⟨e6, e7, e9, e10, rfl⟩
        have hfin : Tr.Run u [] (some u) := .fin ho
        walk_at "wi"
        refine ew_callPL (aw_cons (ew_var rfl (aw_nil ?_)))
        refine c_settled hc hfin (by simp) (fun x ex => ?_) (fun z => by cases z)
        cases ex
        show AW K cs W0 _ _ _ _
        walk_at "s"
        refine c_like34 rfl (okD_end hc (by decide)) ?_
        walk_at "s"
        refine c_write hc ?_
        walk_at "s"
        refine c_ltext hc ?_
        walk_at "s"
        refine c_like34 rfl (okD_str0 _ _) ?_
        walk_at "s"
        refine sw_seq ?_
        walk_at "s"
        refine ⟨rfl, fun x hx => ?_⟩
        walk_at "s"
        obtain ⟨w1, w2⟩ := hx.way
        refine ⟨x, _, _, _, rfl, w1, w2, hx.fails, ?_⟩
        walk_at "s"
        refine c_like34 rfl (okD_str0 _ _) ?_
        walk_at "s"
        refine sw_seq ?_
        walk_at "s"
        refine ⟨by simp, ?_⟩
        walk_at "s"
        refine ⟨by simp, ?_⟩
        walk_at "s"
        refine c_like34 rfl (okD_tup (n := 32) (by simp) fun x hx => ?_) ?_
        · simp only [List.cons_append, List.nil_append, List.mem_cons, List.not_mem_nil, or_false] at hx
          rcases hx with rfl | rfl | rfl | rfl | rfl | rfl | rfl | rfl | rfl | rfl | rfl | rfl <;> exact okD_str0 _ _
        · rfl
    | some q =>
      obtain ⟨r1, x⟩ := q
      obtain ⟨b', rfl, hrx⟩ := hrc.inv.2.2 _ _ ho
      have hx := hc.step (Tr.step_st ho)
      show sq K cs W0 _ _ (.nx [_, _, _, _, _, _, _, _, _, .d (.tuple [.str r1, x.enc]), _])
      walk_at "wi"
      refine cnd_f ?_
      walk_at "s"
      refine sw_seq ?_
      walk_at "s"
      have hpl := congrArg List.length hpe
      rw [List.length_append, List.length_cons] at hpl
      refine sw_app (i := 4) rfl (by unfold paperD; rw [List.length_map]; omega) ?_
      walk_at "s"
      refine c_ltext hx ?_
      walk_at "s"
      refine ⟨x, a ++ [(r1, x)], b', .d (.int (i : Int)), .d (.tuple [.str r1, x.enc]), hx, hrx, by rw [hpe]; simp, by rw [List.length_append, List.length_singleton, hai], ?_⟩
      unfold paperD
      rw [List.map_append]
      rfl
  · rintro _ ⟨c, a, b, e6, e9, hc, hrc, hpe, hai, rfl⟩
    have hpl := congrArg List.length hpe
    rw [List.length_append] at hpl
    omega
  ) only [↓qt_eq])
theorem ok_law (T : TX w K mg) {f : Addr} {fd : FuncData} (F : Fun K "law" "law" s_law f fd) : FnOk Pg w K mg base CX0 38 f fd ["_law_script"] (spP K PLaw) :=
  okLawW T.cs F sc_law rfl (by decide) (fun ns hl cdv A outer sh H E hr => ⟨t_law K T.cs T.gs, (pss_cons (ps_set (i := 1) sc_law.nd rfl (by first | exact Or.inl rfl | exact Or.inr rfl) (pe_call (ok__law_bag T) (hr.mono (by decide)) (by rfl) T.g__law_bag T.F__law_bag.kp T.b__law_bag .nil pass0 (pa_cons (pv 0) pa_nil)))
      (pss_cons (ps_set (i := 2) sc_law.nd rfl (by first | exact Or.inl rfl | exact Or.inr rfl) (pe_lst (pa_cons (pe_tup (pa_cons pe_str (pa_cons pe_int pa_nil))) (pa_cons (pe_tup (pa_cons pe_str (pa_cons pe_int pa_nil))) (pa_cons (pe_tup (pa_cons pe_str (pa_cons pe_int pa_nil))) pa_nil)))))
      (pss_cons (ps_set (i := 3) sc_law.nd rfl (by first | exact Or.inl rfl | exact Or.inr rfl) (pe_call (ok__law_fit_tree T 8) (hr.mono (by decide)) (by rfl) T.g__law_fit_tree T.F__law_fit_tree.kp T.b__law_fit_tree .nil pass0 (pa_cons (pv 1) (pa_cons (pe_op op_addI pe_int (pe_call (ok__law_pull T) (hr.mono (by decide)) (by rfl) T.g__law_pull T.F__law_pull.kp T.b__law_pull .nil pass0 (pa_cons (pv 1) (pa_cons pe_int pa_nil)))) (pa_cons (pe_op op_addI pe_int (pe_call (ok__law_pull T) (hr.mono (by decide)) (by rfl) T.g__law_pull T.F__law_pull.kp T.b__law_pull .nil pass0 (pa_cons (pv 1) (pa_cons pe_int pa_nil)))) (pa_cons (pv 2) pa_nil))))))
      (pss_cons (ps_if (pt_cmpR op_eq (pe_call (ok__law_pull T) (hr.mono (by decide)) (by rfl) T.g__law_pull T.F__law_pull.kp T.b__law_pull .nil pass0 (pa_cons (pv 1) (pa_cons pe_int pa_nil))) pe_int (nomark _)) (pss_one (ps_set (i := 3) sc_law.nd rfl (by first | exact Or.inl rfl | exact Or.inr rfl) (pe_tup (pa_cons (pe_ix ix_seq (pe_lst (pa_cons pe_str (pa_cons pe_str pa_nil))) (pe_call (ok__law_pull T) (hr.mono (by decide)) (by rfl) T.g__law_pull T.F__law_pull.kp T.b__law_pull .nil pass0 (pa_cons (pv 1) (pa_cons pe_int pa_nil))) (fun _ _ => rfl)) (pa_cons (pe_tup (pa_cons pe_str (pa_cons pe_int (pa_cons (pv 3) pa_nil)))) pa_nil))))) pss_nil)
      (pss_cons (ps_set (i := 4) sc_law.nd rfl (by first | exact Or.inl rfl | exact Or.inr rfl) (pe_lst pa_nil))
      (pss_cons (ps_set (i := 5) sc_law.nd rfl (by first | exact Or.inl rfl | exact Or.inr rfl) (pv 3))
      (pss_cons (ps_for PassesOwn.never rfl (pi_range1 (by rfl) T.n_range (pa_cons pe_int pa_nil)) (pg_name (i := 6) sc_law.nd rfl (by first | exact Or.inl rfl | exact Or.inr rfl)) (pss_cons (ps_set (i := 9) sc_law.nd rfl (by first | exact Or.inl rfl | exact Or.inr rfl) (pe_call (ok__law_one_rule T 26) (hr.mono (by decide)) (by rfl) T.g__law_one_rule T.F__law_one_rule.kp T.b__law_one_rule .nil pass0 (pa_cons (pv 5) pa_nil)))
      (pss_cons (ps_if (pt_cmpR o_isN (pv 9) pe_non (nomark _)) (pss_one ps_break) pss_nil)
      (pss_cons (ps_set (i := 5) sc_law.nd rfl (by first | exact Or.inl rfl | exact Or.inr rfl) (pe_ix ix_seq (pv 9) pe_int (fun _ _ => rfl)))
      (pss_one (ps_expr (pe_bm PySem.F.plainAttrs_list PySem.F.slot_list_append PySem.F.type_list_append mt_append (pv 4) (pa_cons (pe_tup (pa_cons (pe_ix ix_seq (pv 9) pe_int (fun _ _ => rfl)) (pa_cons (pe_call (ok__law_text T 26) (hr.mono (by decide)) (by rfl) T.g__law_text T.F__law_text.kp T.b__law_text .nil pass0 (pa_cons (pv 5) pa_nil)) pa_nil))) pa_nil))))))))
      (pss_cons (ps_for PassesOwn.never rfl (pi_range1 (by rfl) T.n_range (pa_cons pe_int pa_nil)) (pg_name (i := 7) sc_law.nd rfl (by first | exact Or.inl rfl | exact Or.inr rfl)) (pss_cons (ps_set (i := 10) sc_law.nd rfl (by first | exact Or.inl rfl | exact Or.inr rfl) (pe_callSD (ok_settled T) (hr.mono (by decide)) (by rfl) T.g_settled T.F_settled.kp T.b_settled .nil (fun σ => passAt takes0 σ) (pa_cons (pv 3) pa_nil)))
      (pss_cons (ps_if (PW.pt (pw_or (pt_not (pt_val (pe_callB call_isi (by rfl) T.n_isinstance (by decide +kernel) (pa_cons (pv 10) (pa_cons (pe_bltn (v := .ty "tuple") (by rfl) T.n_tuple (by decide +kernel) rfl) pa_nil))))) (pw_or (pt_cmpR op_ne (pe_callB c_len (by rfl) T.n_len PySem.boot_len (pa_cons (pv 10) pa_nil)) pe_int (nomark _)) (pw_or1 (pt_not (pt_val (pe_call (ok__law_like T 34) (hr.mono (by decide)) (by rfl) T.g__law_like T.F__law_like.kp T.b__law_like .nil pass0 (pa_cons (pe_ix ix_seq (pv 10) pe_int (fun _ _ => rfl)) (pa_cons (pv 5) pa_nil))))))))) (pss_one (ps_ret pe_bl)) pss_nil)
      (pss_cons (ps_if (pt_not (pt_val (pe_call (ok__law_like T 34) (hr.mono (by decide)) (by rfl) T.g__law_like T.F__law_like.kp T.b__law_like .nil pass0 (pa_cons (pe_ix ix_seq (pv 10) pe_int (fun _ _ => rfl)) (pa_cons (pv 4) pa_nil))))) (pss_one (ps_ret pe_bl)) pss_nil)
      (pss_one (ps_expr (pe_bm0 PySem.F.plainAttrs_list PySem.F.slot_list_clear PySem.F.type_list_clear mt_clear (pe_ix ix_seq (pv 10) pe_int (fun _ _ => rfl)))))))))
      (pss_cons (ps_if (PW.pt (pw_or (pt_not (pt_val (pe_call (ok__law_like T 34) (hr.mono (by decide)) (by rfl) T.g__law_like T.F__law_like.kp T.b__law_like .nil pass0 (pa_cons (pe_callSD (ok_settled T) (hr.mono (by decide)) (by rfl) T.g_settled T.F_settled.kp T.b_settled .nil (fun σ => passAt takes0 σ) (pa_cons (pv 5) pa_nil)) (pa_cons (pe_tup (pa_cons (pv 5) (pa_cons (pe_lst pa_nil) pa_nil))) pa_nil))))) (pw_or1 (pt_not (pt_val (pe_call (ok__law_like T 34) (hr.mono (by decide)) (by rfl) T.g__law_like T.F__law_like.kp T.b__law_like .nil pass0 (pa_cons (pe_call (ok_write T 26) (hr.mono (by decide)) (by rfl) T.g_write T.F_write.kp T.b_write .nil pass0 (pa_cons (pv 5) pa_nil)) (pa_cons (pe_call (ok__law_text T 26) (hr.mono (by decide)) (by rfl) T.g__law_text T.F__law_text.kp T.b__law_text .nil pass0 (pa_cons (pv 5) pa_nil)) pa_nil)))))))) (pss_one (ps_ret pe_bl)) pss_nil)
      (pss_cons (ps_if (pt_not (pt_val (pe_call (ok__law_like T 34) (hr.mono (by decide)) (by rfl) T.g__law_like T.F__law_like.kp T.b__law_like .nil pass0 (pa_cons (pe_call (ok__law_refused T) (hr.mono (by decide)) (by rfl) T.g__law_refused T.F__law_refused.kp T.b__law_refused .nil pass0 (pa_cons (pe_call (ok__law_unlike_rooms T) (hr.mono (by decide)) (by rfl) T.g__law_unlike_rooms T.F__law_unlike_rooms.kp T.b__law_unlike_rooms .nil pass0 (pa_cons (pv 1) pa_nil)) pa_nil)) (pa_cons pe_str pa_nil))))) (pss_one (ps_ret pe_bl)) pss_nil)
      (pss_cons (ps_set (i := 8) sc_law.nd rfl (by first | exact Or.inl rfl | exact Or.inr rfl) (pe_tup (pa_cons pe_str (pa_cons pe_str (pa_cons pe_str (pa_cons pe_str (pa_cons pe_str (pa_cons pe_str (pa_cons pe_str (pa_cons pe_str pa_nil))))))))))
      (pss_one (ps_ret (pe_call (ok__law_like T 34) (hr.mono (by decide)) (by rfl) T.g__law_like T.F__law_like.kp T.b__law_like .nil pass0 (pa_cons (pe_glob (v := T.gs "RULES") (by rfl) T.c_RULES T.r_RULES) (pa_cons (pe_op op_catA (pv 8) (pe_tup (pa_cons pe_str (pa_cons pe_str (pa_cons pe_str (pa_cons pe_str pa_nil)))))) pa_nil)))))))))))))))), rd_law T.gd_RULES ns hl⟩)
end
theorem lel0 {α : Type} {us : List α} (hl : us.length = 0) : us = [] := List.eq_nil_of_length_eq_zero hl
theorem lel1 {α : Type} {us : List α} (hl : us.length = 1) : ∃ a0, us = [a0] := by
  cases us with
  | nil => cases hl
  | cons a0 r => obtain rfl := lel0 (us := r) (Nat.succ.inj hl); exact ⟨a0, rfl⟩
theorem lel2 {α : Type} {us : List α} (hl : us.length = 2) : ∃ a0 a1, us = [a0, a1] := by
  cases us with
  | nil => cases hl
  | cons a0 r => obtain ⟨a1, rfl⟩ := lel1 (us := r) (Nat.succ.inj hl); exact ⟨a0, a1, rfl⟩
theorem lel3 {α : Type} {us : List α} (hl : us.length = 3) : ∃ a0 a1 a2, us = [a0, a1, a2] := by
  cases us with
  | nil => cases hl
  | cons a0 r => obtain ⟨a1, a2, rfl⟩ := lel2 (us := r) (Nat.succ.inj hl); exact ⟨a0, a1, a2, rfl⟩
theorem lel4 {α : Type} {us : List α} (hl : us.length = 4) : ∃ a0 a1 a2 a3, us = [a0, a1, a2, a3] := by
  cases us with
  | nil => cases hl
  | cons a0 r => obtain ⟨a1, a2, a3, rfl⟩ := lel3 (us := r) (Nat.succ.inj hl); exact ⟨a0, a1, a2, a3, rfl⟩
theorem lel5 {α : Type} {us : List α} (hl : us.length = 5) : ∃ a0 a1 a2 a3 a4, us = [a0, a1, a2, a3, a4] := by
  cases us with
  | nil => cases hl
  | cons a0 r => obtain ⟨a1, a2, a3, a4, rfl⟩ := lel4 (us := r) (Nat.succ.inj hl); exact ⟨a0, a1, a2, a3, a4, rfl⟩
theorem lel6 {α : Type} {us : List α} (hl : us.length = 6) : ∃ a0 a1 a2 a3 a4 a5, us = [a0, a1, a2, a3, a4, a5] := by
  cases us with
  | nil => cases hl
  | cons a0 r => obtain ⟨a1, a2, a3, a4, a5, rfl⟩ := lel5 (us := r) (Nat.succ.inj hl); exact ⟨a0, a1, a2, a3, a4, a5, rfl⟩
theorem lel7 {α : Type} {us : List α} (hl : us.length = 7) : ∃ a0 a1 a2 a3 a4 a5 a6, us = [a0, a1, a2, a3, a4, a5, a6] := by
  cases us with
  | nil => cases hl
  | cons a0 r => obtain ⟨a1, a2, a3, a4, a5, a6, rfl⟩ := lel6 (us := r) (Nat.succ.inj hl); exact ⟨a0, a1, a2, a3, a4, a5, a6, rfl⟩
theorem lel8 {α : Type} {us : List α} (hl : us.length = 8) : ∃ a0 a1 a2 a3 a4 a5 a6 a7, us = [a0, a1, a2, a3, a4, a5, a6, a7] := by
  cases us with
  | nil => cases hl
  | cons a0 r => obtain ⟨a1, a2, a3, a4, a5, a6, a7, rfl⟩ := lel7 (us := r) (Nat.succ.inj hl); exact ⟨a0, a1, a2, a3, a4, a5, a6, a7, rfl⟩
theorem all_mk {l : PySem.W.OpenLaw} {w : World} {K : PySem.W.Frag} {h : Heap} {mg : Str → Option Value} {fa f0 f1 f2 f3 f4 f5 f6 f7 f8 f9 f10 f11 f12 f13 f14 f15 f16 f17 f18 f19 f20 f21 f22 f23 f24 f25 f26 f27 f28 f29 f30 f31 f32 f33 f34 f35 f36 f37 f38 f39 f40 f41 f42 f43 f44 f45 f46 f47 f48 f49 f50 f51 f52 f53 : Addr} (X : K.In h) (G : h.Ns mainGlobals mg) (hfa : mg "law" = some (.ref fa))
    {od0 an0 : Option Addr} {sl0 : Array (Option Value)} {oc0 kV0 dc0 pm0 cd0 ct0 : Value}
    {od1 an1 : Option Addr} {sl1 : Array (Option Value)} {oc1 kV1 dc1 pm1 cd1 ct1 : Value}
    {od2 an2 : Option Addr} {sl2 : Array (Option Value)} {oc2 kV2 dc2 pm2 cd2 ct2 : Value}
    {od3 an3 : Option Addr} {sl3 : Array (Option Value)} {oc3 kV3 dc3 pm3 cd3 ct3 : Value}
    {od4 an4 : Option Addr} {sl4 : Array (Option Value)} {oc4 kV4 dc4 pm4 cd4 ct4 : Value}
    {od5 an5 : Option Addr} {sl5 : Array (Option Value)} {oc5 kV5 dc5 pm5 cd5 ct5 : Value}
    {od6 an6 : Option Addr} {sl6 : Array (Option Value)} {oc6 kV6 dc6 pm6 cd6 ct6 : Value}
    {od7 an7 : Option Addr} {sl7 : Array (Option Value)} {oc7 kV7 dc7 pm7 cd7 ct7 : Value}
    {od8 an8 : Option Addr} {sl8 : Array (Option Value)} {oc8 kV8 dc8 pm8 cd8 ct8 : Value}
    {od9 an9 : Option Addr} {sl9 : Array (Option Value)} {oc9 kV9 dc9 pm9 cd9 ct9 : Value}
    {od10 an10 : Option Addr} {sl10 : Array (Option Value)} {oc10 kV10 dc10 pm10 cd10 ct10 : Value}
    {od11 an11 : Option Addr} {sl11 : Array (Option Value)} {oc11 kV11 dc11 pm11 cd11 ct11 : Value}
    {od12 an12 : Option Addr} {sl12 : Array (Option Value)} {oc12 kV12 dc12 pm12 cd12 ct12 : Value}
    {od13 an13 : Option Addr} {sl13 : Array (Option Value)} {oc13 kV13 dc13 pm13 cd13 ct13 : Value}
    {od14 an14 : Option Addr} {sl14 : Array (Option Value)} {oc14 kV14 dc14 pm14 cd14 ct14 : Value}
    {od15 an15 : Option Addr} {sl15 : Array (Option Value)} {oc15 kV15 dc15 pm15 cd15 ct15 : Value}
    {od16 an16 : Option Addr} {sl16 : Array (Option Value)} {oc16 kV16 dc16 pm16 cd16 ct16 : Value}
    {od17 an17 : Option Addr} {sl17 : Array (Option Value)} {oc17 kV17 dc17 pm17 cd17 ct17 : Value}
    {od18 an18 : Option Addr} {sl18 : Array (Option Value)} {oc18 kV18 dc18 pm18 cd18 ct18 : Value}
    {od19 an19 : Option Addr} {sl19 : Array (Option Value)} {oc19 kV19 dc19 pm19 cd19 ct19 : Value}
    {od20 an20 : Option Addr} {sl20 : Array (Option Value)} {oc20 kV20 dc20 pm20 cd20 ct20 : Value}
    {od21 an21 : Option Addr} {sl21 : Array (Option Value)} {oc21 kV21 dc21 pm21 cd21 ct21 : Value}
    {od22 an22 : Option Addr} {sl22 : Array (Option Value)} {oc22 kV22 dc22 pm22 cd22 ct22 : Value}
    {od23 an23 : Option Addr} {sl23 : Array (Option Value)} {oc23 kV23 dc23 pm23 cd23 ct23 : Value}
    {od24 an24 : Option Addr} {sl24 : Array (Option Value)} {oc24 kV24 dc24 pm24 cd24 ct24 : Value}
    {dT24 : Addr} {ot24 : Value} {odt24 : Option Addr} {nt24 : Nat} {slt24 : Array (Option Value)} {tk24_0 : Tok}
    {od25 an25 : Option Addr} {sl25 : Array (Option Value)} {oc25 kV25 dc25 pm25 cd25 ct25 : Value}
    {od26 an26 : Option Addr} {sl26 : Array (Option Value)} {oc26 kV26 dc26 pm26 cd26 ct26 : Value}
    {od27 an27 : Option Addr} {sl27 : Array (Option Value)} {oc27 kV27 dc27 pm27 cd27 ct27 : Value}
    {od28 an28 : Option Addr} {sl28 : Array (Option Value)} {oc28 kV28 dc28 pm28 cd28 ct28 : Value}
    {dT28 : Addr} {ot28 : Value} {odt28 : Option Addr} {nt28 : Nat} {slt28 : Array (Option Value)} {tk28_0 : Tok}
    {od29 an29 : Option Addr} {sl29 : Array (Option Value)} {oc29 kV29 dc29 pm29 cd29 ct29 : Value}
    {od30 an30 : Option Addr} {sl30 : Array (Option Value)} {oc30 kV30 dc30 pm30 cd30 ct30 : Value}
    {od31 an31 : Option Addr} {sl31 : Array (Option Value)} {oc31 kV31 dc31 pm31 cd31 ct31 : Value}
    {od32 an32 : Option Addr} {sl32 : Array (Option Value)} {oc32 kV32 dc32 pm32 cd32 ct32 : Value}
    {od33 an33 : Option Addr} {sl33 : Array (Option Value)} {oc33 kV33 dc33 pm33 cd33 ct33 : Value}
    {od34 an34 : Option Addr} {sl34 : Array (Option Value)} {oc34 kV34 dc34 pm34 cd34 ct34 : Value}
    {od35 an35 : Option Addr} {sl35 : Array (Option Value)} {oc35 kV35 dc35 pm35 cd35 ct35 : Value}
    {od36 an36 : Option Addr} {sl36 : Array (Option Value)} {oc36 kV36 dc36 pm36 cd36 ct36 : Value}
    {od37 an37 : Option Addr} {sl37 : Array (Option Value)} {oc37 kV37 dc37 pm37 cd37 ct37 : Value}
    {od38 an38 : Option Addr} {sl38 : Array (Option Value)} {oc38 kV38 dc38 pm38 cd38 ct38 : Value}
    {od39 an39 : Option Addr} {sl39 : Array (Option Value)} {oc39 kV39 dc39 pm39 cd39 ct39 : Value}
    {od40 an40 : Option Addr} {sl40 : Array (Option Value)} {oc40 kV40 dc40 pm40 cd40 ct40 : Value}
    {od41 an41 : Option Addr} {sl41 : Array (Option Value)} {oc41 kV41 dc41 pm41 cd41 ct41 : Value}
    {od42 an42 : Option Addr} {sl42 : Array (Option Value)} {oc42 kV42 dc42 pm42 cd42 ct42 : Value}
    {od43 an43 : Option Addr} {sl43 : Array (Option Value)} {oc43 kV43 dc43 pm43 cd43 ct43 : Value}
    {od44 an44 : Option Addr} {sl44 : Array (Option Value)} {oc44 kV44 dc44 pm44 cd44 ct44 : Value}
    {od45 an45 : Option Addr} {sl45 : Array (Option Value)} {oc45 kV45 dc45 pm45 cd45 ct45 : Value}
    {od46 an46 : Option Addr} {sl46 : Array (Option Value)} {oc46 kV46 dc46 pm46 cd46 ct46 : Value}
    {od47 an47 : Option Addr} {sl47 : Array (Option Value)} {oc47 kV47 dc47 pm47 cd47 ct47 : Value}
    {od48 an48 : Option Addr} {sl48 : Array (Option Value)} {oc48 kV48 dc48 pm48 cd48 ct48 : Value}
    {od49 an49 : Option Addr} {sl49 : Array (Option Value)} {oc49 kV49 dc49 pm49 cd49 ct49 : Value}
    {od50 an50 : Option Addr} {sl50 : Array (Option Value)} {oc50 kV50 dc50 pm50 cd50 ct50 : Value}
    {od51 an51 : Option Addr} {sl51 : Array (Option Value)} {oc51 kV51 dc51 pm51 cd51 ct51 : Value}
    {od52 an52 : Option Addr} {sl52 : Array (Option Value)} {oc52 kV52 dc52 pm52 cd52 ct52 : Value}
    {od53 an53 : Option Addr} {sl53 : Array (Option Value)} {oc53 kV53 dc53 pm53 cd53 ct53 : Value}
    {ca0 ci0 : Addr} {cod0 can0 : Option Addr} {csl0 : Array (Option Value)} {coc0 ckV0 cdc0 cpm0 ccd0 cct0 : Value}
    {cT0 : Addr} {cot0 : Value} {codt0 : Option Addr} {cnt0 : Nat} {cslt0 : Array (Option Value)} {ctk0_0 : Tok}
    {ca1 ci1 : Addr} {cod1 can1 : Option Addr} {csl1 : Array (Option Value)} {coc1 ckV1 cdc1 cpm1 ccd1 cct1 : Value}
    {ca2 ci2 : Addr} {cod2 can2 : Option Addr} {csl2 : Array (Option Value)} {coc2 ckV2 cdc2 cpm2 ccd2 cct2 : Value}
    {kca0 : Addr} {kod0 : Option Addr} {kn0 : Nat} {ksl0 : Array (Option Value)} {kt0_0 kt0_1 : Tok}
    {kca1 : Addr} {kes1 : Array DictEntry} {kn1 : Nat}
    {kca2 : Addr} {kod2 : Option Addr} {kn2 : Nat} {ksl2 : Array (Option Value)} {kt2_0 kt2_1 kt2_2 : Tok}
    {kca3 : Addr} {kod3 : Option Addr} {kn3 : Nat} {ksl3 : Array (Option Value)} {kt3_0 kt3_1 : Tok}
    {kca4 : Addr} {kod4 : Option Addr} {kn4 : Nat} {ksl4 : Array (Option Value)} {kt4_0 kt4_1 : Tok}
    {kca5 : Addr} {kod5 : Option Addr} {kn5 : Nat} {ksl5 : Array (Option Value)} {kt5_0 kt5_1 kt5_2 kt5_3 kt5_4 kt5_5 kt5_6 kt5_7 kt5_8 kt5_9 kt5_10 kt5_11 : Tok}
    (a0 : PySem.W.nsIn K mainGlobals "_law_bag" = some (some (.ref f0))) (l0 : K.lookup f0 = some ⟨oc0, od0, .func (PySem.W.fnOf "_law_bag" "_law_bag" (defArgs s__law_bag) (defBody s__law_bag) (defScope s__law_bag) .none kV0 dc0 pm0 an0 cd0 ct0), sl0⟩) (c0 : PySem.W.codeIn K cd0 "_law_bag" = true) (k0 : PySem.W.keepIn K (.ref f0) = true)
    (a1 : PySem.W.nsIn K mainGlobals "_law_pull" = some (some (.ref f1))) (l1 : K.lookup f1 = some ⟨oc1, od1, .func (PySem.W.fnOf "_law_pull" "_law_pull" (defArgs s__law_pull) (defBody s__law_pull) (defScope s__law_pull) .none kV1 dc1 pm1 an1 cd1 ct1), sl1⟩) (c1 : PySem.W.codeIn K cd1 "_law_pull" = true) (k1 : PySem.W.keepIn K (.ref f1) = true)
    (a2 : PySem.W.nsIn K mainGlobals "_law_gcd" = some (some (.ref f2))) (l2 : K.lookup f2 = some ⟨oc2, od2, .func (PySem.W.fnOf "_law_gcd" "_law_gcd" (defArgs s__law_gcd) (defBody s__law_gcd) (defScope s__law_gcd) .none kV2 dc2 pm2 an2 cd2 ct2), sl2⟩) (c2 : PySem.W.codeIn K cd2 "_law_gcd" = true) (k2 : PySem.W.keepIn K (.ref f2) = true)
    (a3 : PySem.W.nsIn K mainGlobals "_law_frac" = some (some (.ref f3))) (l3 : K.lookup f3 = some ⟨oc3, od3, .func (PySem.W.fnOf "_law_frac" "_law_frac" (defArgs s__law_frac) (defBody s__law_frac) (defScope s__law_frac) .none kV3 dc3 pm3 an3 cd3 ct3), sl3⟩) (c3 : PySem.W.codeIn K cd3 "_law_frac" = true) (k3 : PySem.W.keepIn K (.ref f3) = true)
    (a4 : PySem.W.nsIn K mainGlobals "_law_part" = some (some (.ref f4))) (l4 : K.lookup f4 = some ⟨oc4, od4, .func (PySem.W.fnOf "_law_part" "_law_part" (defArgs s__law_part) (defBody s__law_part) (defScope s__law_part) .none kV4 dc4 pm4 an4 cd4 ct4), sl4⟩) (c4 : PySem.W.codeIn K cd4 "_law_part" = true) (k4 : PySem.W.keepIn K (.ref f4) = true)
    (a5 : PySem.W.nsIn K mainGlobals "_law_whole_part" = some (some (.ref f5))) (l5 : K.lookup f5 = some ⟨oc5, od5, .func (PySem.W.fnOf "_law_whole_part" "_law_whole_part" (defArgs s__law_whole_part) (defBody s__law_whole_part) (defScope s__law_whole_part) .none kV5 dc5 pm5 an5 cd5 ct5), sl5⟩) (c5 : PySem.W.codeIn K cd5 "_law_whole_part" = true) (k5 : PySem.W.keepIn K (.ref f5) = true)
    (a6 : PySem.W.nsIn K mainGlobals "_law_entry" = some (some (.ref f6))) (l6 : K.lookup f6 = some ⟨oc6, od6, .func (PySem.W.fnOf "_law_entry" "_law_entry" (defArgs s__law_entry) (defBody s__law_entry) (defScope s__law_entry) .none kV6 dc6 pm6 an6 cd6 ct6), sl6⟩) (c6 : PySem.W.codeIn K cd6 "_law_entry" = true) (k6 : PySem.W.keepIn K (.ref f6) = true)
    (a7 : PySem.W.nsIn K mainGlobals "_law_map" = some (some (.ref f7))) (l7 : K.lookup f7 = some ⟨oc7, od7, .func (PySem.W.fnOf "_law_map" "_law_map" (defArgs s__law_map) (defBody s__law_map) (defScope s__law_map) .none kV7 dc7 pm7 an7 cd7 ct7), sl7⟩) (c7 : PySem.W.codeIn K cd7 "_law_map" = true) (k7 : PySem.W.keepIn K (.ref f7) = true)
    (a8 : PySem.W.nsIn K mainGlobals "_law_unit" = some (some (.ref f8))) (l8 : K.lookup f8 = some ⟨oc8, od8, .func (PySem.W.fnOf "_law_unit" "_law_unit" (defArgs s__law_unit) (defBody s__law_unit) (defScope s__law_unit) .none kV8 dc8 pm8 an8 cd8 ct8), sl8⟩) (c8 : PySem.W.codeIn K cd8 "_law_unit" = true) (k8 : PySem.W.keepIn K (.ref f8) = true)
    (a9 : PySem.W.nsIn K mainGlobals "_law_fit_tree" = some (some (.ref f9))) (l9 : K.lookup f9 = some ⟨oc9, od9, .func (PySem.W.fnOf "_law_fit_tree" "_law_fit_tree" (defArgs s__law_fit_tree) (defBody s__law_fit_tree) (defScope s__law_fit_tree) .none kV9 dc9 pm9 an9 cd9 ct9), sl9⟩) (c9 : PySem.W.codeIn K cd9 "_law_fit_tree" = true) (k9 : PySem.W.keepIn K (.ref f9) = true)
    (a10 : PySem.W.nsIn K mainGlobals "_law_like" = some (some (.ref f10))) (l10 : K.lookup f10 = some ⟨oc10, od10, .func (PySem.W.fnOf "_law_like" "_law_like" (defArgs s__law_like) (defBody s__law_like) (defScope s__law_like) .none kV10 dc10 pm10 an10 cd10 ct10), sl10⟩) (c10 : PySem.W.codeIn K cd10 "_law_like" = true) (k10 : PySem.W.keepIn K (.ref f10) = true)
    (a11 : PySem.W.nsIn K mainGlobals "_law_rule_turn" = some (some (.ref f11))) (l11 : K.lookup f11 = some ⟨oc11, od11, .func (PySem.W.fnOf "_law_rule_turn" "_law_rule_turn" (defArgs s__law_rule_turn) (defBody s__law_rule_turn) (defScope s__law_rule_turn) .none kV11 dc11 pm11 an11 cd11 ct11), sl11⟩) (c11 : PySem.W.codeIn K cd11 "_law_rule_turn" = true) (k11 : PySem.W.keepIn K (.ref f11) = true)
    (a12 : PySem.W.nsIn K mainGlobals "_law_add" = some (some (.ref f12))) (l12 : K.lookup f12 = some ⟨oc12, od12, .func (PySem.W.fnOf "_law_add" "_law_add" (defArgs s__law_add) (defBody s__law_add) (defScope s__law_add) .none kV12 dc12 pm12 an12 cd12 ct12), sl12⟩) (c12 : PySem.W.codeIn K cd12 "_law_add" = true) (k12 : PySem.W.keepIn K (.ref f12) = true)
    (a13 : PySem.W.nsIn K mainGlobals "_law_mul" = some (some (.ref f13))) (l13 : K.lookup f13 = some ⟨oc13, od13, .func (PySem.W.fnOf "_law_mul" "_law_mul" (defArgs s__law_mul) (defBody s__law_mul) (defScope s__law_mul) .none kV13 dc13 pm13 an13 cd13 ct13), sl13⟩) (c13 : PySem.W.codeIn K cd13 "_law_mul" = true) (k13 : PySem.W.keepIn K (.ref f13) = true)
    (a14 : PySem.W.nsIn K mainGlobals "_law_led" = some (some (.ref f14))) (l14 : K.lookup f14 = some ⟨oc14, od14, .func (PySem.W.fnOf "_law_led" "_law_led" (defArgs s__law_led) (defBody s__law_led) (defScope s__law_led) .none kV14 dc14 pm14 an14 cd14 ct14), sl14⟩) (c14 : PySem.W.codeIn K cd14 "_law_led" = true) (k14 : PySem.W.keepIn K (.ref f14) = true)
    (a15 : PySem.W.nsIn K mainGlobals "_law_sub" = some (some (.ref f15))) (l15 : K.lookup f15 = some ⟨oc15, od15, .func (PySem.W.fnOf "_law_sub" "_law_sub" (defArgs s__law_sub) (defBody s__law_sub) (defScope s__law_sub) .none kV15 dc15 pm15 an15 cd15 ct15), sl15⟩) (c15 : PySem.W.codeIn K cd15 "_law_sub" = true) (k15 : PySem.W.keepIn K (.ref f15) = true)
    (a16 : PySem.W.nsIn K mainGlobals "_law_behind_map" = some (some (.ref f16))) (l16 : K.lookup f16 = some ⟨oc16, od16, .func (PySem.W.fnOf "_law_behind_map" "_law_behind_map" (defArgs s__law_behind_map) (defBody s__law_behind_map) (defScope s__law_behind_map) .none kV16 dc16 pm16 an16 cd16 ct16), sl16⟩) (c16 : PySem.W.codeIn K cd16 "_law_behind_map" = true) (k16 : PySem.W.keepIn K (.ref f16) = true)
    (a17 : PySem.W.nsIn K mainGlobals "_law_rule_carry" = some (some (.ref f17))) (l17 : K.lookup f17 = some ⟨oc17, od17, .func (PySem.W.fnOf "_law_rule_carry" "_law_rule_carry" (defArgs s__law_rule_carry) (defBody s__law_rule_carry) (defScope s__law_rule_carry) .none kV17 dc17 pm17 an17 cd17 ct17), sl17⟩) (c17 : PySem.W.codeIn K cd17 "_law_rule_carry" = true) (k17 : PySem.W.keepIn K (.ref f17) = true)
    (a18 : PySem.W.nsIn K mainGlobals "_law_rule" = some (some (.ref f18))) (l18 : K.lookup f18 = some ⟨oc18, od18, .func (PySem.W.fnOf "_law_rule" "_law_rule" (defArgs s__law_rule) (defBody s__law_rule) (defScope s__law_rule) .none kV18 dc18 pm18 an18 cd18 ct18), sl18⟩) (c18 : PySem.W.codeIn K cd18 "_law_rule" = true) (k18 : PySem.W.keepIn K (.ref f18) = true)
    (a19 : PySem.W.nsIn K mainGlobals "_law_inner" = some (some (.ref f19))) (l19 : K.lookup f19 = some ⟨oc19, od19, .func (PySem.W.fnOf "_law_inner" "_law_inner" (defArgs s__law_inner) (defBody s__law_inner) (defScope s__law_inner) .none kV19 dc19 pm19 an19 cd19 ct19), sl19⟩) (c19 : PySem.W.codeIn K cd19 "_law_inner" = true) (k19 : PySem.W.keepIn K (.ref f19) = true)
    (a20 : PySem.W.nsIn K mainGlobals "_law_one_rule" = some (some (.ref f20))) (l20 : K.lookup f20 = some ⟨oc20, od20, .func (PySem.W.fnOf "_law_one_rule" "_law_one_rule" (defArgs s__law_one_rule) (defBody s__law_one_rule) (defScope s__law_one_rule) .none kV20 dc20 pm20 an20 cd20 ct20), sl20⟩) (c20 : PySem.W.codeIn K cd20 "_law_one_rule" = true) (k20 : PySem.W.keepIn K (.ref f20) = true)
    (a21 : PySem.W.nsIn K mainGlobals "twice" = some (some (.ref f21))) (l21 : K.lookup f21 = some ⟨oc21, od21, .func (PySem.W.fnOf "twice" "twice" (defArgs s_twice) (defBody s_twice) (defScope s_twice) .none kV21 dc21 pm21 an21 cd21 ct21), sl21⟩) (c21 : PySem.W.codeIn K cd21 "twice" = true) (k21 : PySem.W.keepIn K (.ref f21) = true)
    (a22 : PySem.W.nsIn K mainGlobals "once" = some (some (.ref f22))) (l22 : K.lookup f22 = some ⟨oc22, od22, .func (PySem.W.fnOf "once" "once" (defArgs s_once) (defBody s_once) (defScope s_once) .none kV22 dc22 pm22 an22 cd22 ct22), sl22⟩) (c22 : PySem.W.codeIn K cd22 "once" = true) (k22 : PySem.W.keepIn K (.ref f22) = true)
    (a23 : PySem.W.nsIn K mainGlobals "product" = some (some (.ref f23))) (l23 : K.lookup f23 = some ⟨oc23, od23, .func (PySem.W.fnOf "product" "product" (defArgs s_product) (defBody s_product) (defScope s_product) .none kV23 dc23 pm23 an23 cd23 ct23), sl23⟩) (c23 : PySem.W.codeIn K cd23 "product" = true) (k23 : PySem.W.keepIn K (.ref f23) = true)
    (a24 : PySem.W.nsIn K mainGlobals "still" = some (some (.ref f24))) (l24 : K.lookup f24 = some ⟨oc24, od24, .func (PySem.W.fnOf "still" "still" (defArgs s_still) (defBody s_still) (defScope s_still) (.ref dT24) kV24 dc24 pm24 an24 cd24 ct24), sl24⟩) (c24 : PySem.W.codeIn K cd24 "still" = true) (k24 : PySem.W.keepIn K (.ref f24) = true)
    (t24 : K.lookup dT24 = some ⟨ot24, odt24, .seq [Value.int 2 tk24_0].toArray nt24, slt24⟩)
    (a25 : PySem.W.nsIn K mainGlobals "still_rule" = some (some (.ref f25))) (l25 : K.lookup f25 = some ⟨oc25, od25, .func (PySem.W.fnOf "still_rule" "still_rule" (defArgs s_still_rule) (defBody s_still_rule) (defScope s_still_rule) .none kV25 dc25 pm25 an25 cd25 ct25), sl25⟩) (c25 : PySem.W.codeIn K cd25 "still_rule" = true) (k25 : PySem.W.keepIn K (.ref f25) = true)
    (a26 : PySem.W.nsIn K mainGlobals "room_from" = some (some (.ref f26))) (l26 : K.lookup f26 = some ⟨oc26, od26, .func (PySem.W.fnOf "room_from" "room_from" (defArgs s_room_from) (defBody s_room_from) (defScope s_room_from) .none kV26 dc26 pm26 an26 cd26 ct26), sl26⟩) (c26 : PySem.W.codeIn K cd26 "room_from" = true) (k26 : PySem.W.keepIn K (.ref f26) = true)
    (a27 : PySem.W.nsIn K mainGlobals "shared" = some (some (.ref f27))) (l27 : K.lookup f27 = some ⟨oc27, od27, .func (PySem.W.fnOf "shared" "shared" (defArgs s_shared) (defBody s_shared) (defScope s_shared) .none kV27 dc27 pm27 an27 cd27 ct27), sl27⟩) (c27 : PySem.W.codeIn K cd27 "shared" = true) (k27 : PySem.W.keepIn K (.ref f27) = true)
    (a28 : PySem.W.nsIn K mainGlobals "part" = some (some (.ref f28))) (l28 : K.lookup f28 = some ⟨oc28, od28, .func (PySem.W.fnOf "part" "part" (defArgs s_part) (defBody s_part) (defScope s_part) (.ref dT28) kV28 dc28 pm28 an28 cd28 ct28), sl28⟩) (c28 : PySem.W.codeIn K cd28 "part" = true) (k28 : PySem.W.keepIn K (.ref f28) = true)
    (t28 : K.lookup dT28 = some ⟨ot28, odt28, .seq [Value.int 1 tk28_0].toArray nt28, slt28⟩)
    (a29 : PySem.W.nsIn K mainGlobals "plus" = some (some (.ref f29))) (l29 : K.lookup f29 = some ⟨oc29, od29, .func (PySem.W.fnOf "plus" "plus" (defArgs s_plus) (defBody s_plus) (defScope s_plus) .none kV29 dc29 pm29 an29 cd29 ct29), sl29⟩) (c29 : PySem.W.codeIn K cd29 "plus" = true) (k29 : PySem.W.keepIn K (.ref f29) = true)
    (a30 : PySem.W.nsIn K mainGlobals "times" = some (some (.ref f30))) (l30 : K.lookup f30 = some ⟨oc30, od30, .func (PySem.W.fnOf "times" "times" (defArgs s_times) (defBody s_times) (defScope s_times) .none kV30 dc30 pm30 an30 cd30 ct30), sl30⟩) (c30 : PySem.W.codeIn K cd30 "times" = true) (k30 : PySem.W.keepIn K (.ref f30) = true)
    (a31 : PySem.W.nsIn K mainGlobals "behind" = some (some (.ref f31))) (l31 : K.lookup f31 = some ⟨oc31, od31, .func (PySem.W.fnOf "behind" "behind" (defArgs s_behind) (defBody s_behind) (defScope s_behind) .none kV31 dc31 pm31 an31 cd31 ct31), sl31⟩) (c31 : PySem.W.codeIn K cd31 "behind" = true) (k31 : PySem.W.keepIn K (.ref f31) = true)
    (a32 : PySem.W.nsIn K mainGlobals "onward" = some (some (.ref f32))) (l32 : K.lookup f32 = some ⟨oc32, od32, .func (PySem.W.fnOf "onward" "onward" (defArgs s_onward) (defBody s_onward) (defScope s_onward) .none kV32 dc32 pm32 an32 cd32 ct32), sl32⟩) (c32 : PySem.W.codeIn K cd32 "onward" = true) (k32 : PySem.W.keepIn K (.ref f32) = true)
    (a33 : PySem.W.nsIn K mainGlobals "turncarry" = some (some (.ref f33))) (l33 : K.lookup f33 = some ⟨oc33, od33, .func (PySem.W.fnOf "turncarry" "turncarry" (defArgs s_turncarry) (defBody s_turncarry) (defScope s_turncarry) .none kV33 dc33 pm33 an33 cd33 ct33), sl33⟩) (c33 : PySem.W.codeIn K cd33 "turncarry" = true) (k33 : PySem.W.keepIn K (.ref f33) = true)
    (a34 : PySem.W.nsIn K mainGlobals "turntimes" = some (some (.ref f34))) (l34 : K.lookup f34 = some ⟨oc34, od34, .func (PySem.W.fnOf "turntimes" "turntimes" (defArgs s_turntimes) (defBody s_turntimes) (defScope s_turntimes) .none kV34 dc34 pm34 an34 cd34 ct34), sl34⟩) (c34 : PySem.W.codeIn K cd34 "turntimes" = true) (k34 : PySem.W.keepIn K (.ref f34) = true)
    (a35 : PySem.W.nsIn K mainGlobals "carrytimes" = some (some (.ref f35))) (l35 : K.lookup f35 = some ⟨oc35, od35, .func (PySem.W.fnOf "carrytimes" "carrytimes" (defArgs s_carrytimes) (defBody s_carrytimes) (defScope s_carrytimes) .none kV35 dc35 pm35 an35 cd35 ct35), sl35⟩) (c35 : PySem.W.codeIn K cd35 "carrytimes" = true) (k35 : PySem.W.keepIn K (.ref f35) = true)
    (a36 : PySem.W.nsIn K mainGlobals "turnpair" = some (some (.ref f36))) (l36 : K.lookup f36 = some ⟨oc36, od36, .func (PySem.W.fnOf "turnpair" "turnpair" (defArgs s_turnpair) (defBody s_turnpair) (defScope s_turnpair) .none kV36 dc36 pm36 an36 cd36 ct36), sl36⟩) (c36 : PySem.W.codeIn K cd36 "turnpair" = true) (k36 : PySem.W.keepIn K (.ref f36) = true)
    (a37 : PySem.W.nsIn K mainGlobals "straightened" = some (some (.ref f37))) (l37 : K.lookup f37 = some ⟨oc37, od37, .func (PySem.W.fnOf "straightened" "straightened" (defArgs s_straightened) (defBody s_straightened) (defScope s_straightened) .none kV37 dc37 pm37 an37 cd37 ct37), sl37⟩) (c37 : PySem.W.codeIn K cd37 "straightened" = true) (k37 : PySem.W.keepIn K (.ref f37) = true)
    (a38 : PySem.W.nsIn K mainGlobals "carrypair" = some (some (.ref f38))) (l38 : K.lookup f38 = some ⟨oc38, od38, .func (PySem.W.fnOf "carrypair" "carrypair" (defArgs s_carrypair) (defBody s_carrypair) (defScope s_carrypair) .none kV38 dc38 pm38 an38 cd38 ct38), sl38⟩) (c38 : PySem.W.codeIn K cd38 "carrypair" = true) (k38 : PySem.W.keepIn K (.ref f38) = true)
    (a39 : PySem.W.nsIn K mainGlobals "left" = some (some (.ref f39))) (l39 : K.lookup f39 = some ⟨oc39, od39, .func (PySem.W.fnOf "left" "left" (defArgs s_left) (defBody s_left) (defScope s_left) .none kV39 dc39 pm39 an39 cd39 ct39), sl39⟩) (c39 : PySem.W.codeIn K cd39 "left" = true) (k39 : PySem.W.keepIn K (.ref f39) = true)
    (a40 : PySem.W.nsIn K mainGlobals "right" = some (some (.ref f40))) (l40 : K.lookup f40 = some ⟨oc40, od40, .func (PySem.W.fnOf "right" "right" (defArgs s_right) (defBody s_right) (defScope s_right) .none kV40 dc40 pm40 an40 cd40 ct40), sl40⟩) (c40 : PySem.W.codeIn K cd40 "right" = true) (k40 : PySem.W.keepIn K (.ref f40) = true)
    (a41 : PySem.W.nsIn K mainGlobals "at_top" = some (some (.ref f41))) (l41 : K.lookup f41 = some ⟨oc41, od41, .func (PySem.W.fnOf "at_top" "at_top" (defArgs s_at_top) (defBody s_at_top) (defScope s_at_top) .none kV41 dc41 pm41 an41 cd41 ct41), sl41⟩) (c41 : PySem.W.codeIn K cd41 "at_top" = true) (k41 : PySem.W.keepIn K (.ref f41) = true)
    (a42 : PySem.W.nsIn K mainGlobals "one_step" = some (some (.ref f42))) (l42 : K.lookup f42 = some ⟨oc42, od42, .func (PySem.W.fnOf "one_step" "one_step" (defArgs s_one_step) (defBody s_one_step) (defScope s_one_step) .none kV42 dc42 pm42 an42 cd42 ct42), sl42⟩) (c42 : PySem.W.codeIn K cd42 "one_step" = true) (k42 : PySem.W.keepIn K (.ref f42) = true)
    (a43 : PySem.W.nsIn K mainGlobals "part_text" = some (some (.ref f43))) (l43 : K.lookup f43 = some ⟨oc43, od43, .func (PySem.W.fnOf "part_text" "part_text" (defArgs s_part_text) (defBody s_part_text) (defScope s_part_text) .none kV43 dc43 pm43 an43 cd43 ct43), sl43⟩) (c43 : PySem.W.codeIn K cd43 "part_text" = true) (k43 : PySem.W.keepIn K (.ref f43) = true)
    (a44 : PySem.W.nsIn K mainGlobals "way_text" = some (some (.ref f44))) (l44 : K.lookup f44 = some ⟨oc44, od44, .func (PySem.W.fnOf "way_text" "way_text" (defArgs s_way_text) (defBody s_way_text) (defScope s_way_text) .none kV44 dc44 pm44 an44 cd44 ct44), sl44⟩) (c44 : PySem.W.codeIn K cd44 "way_text" = true) (k44 : PySem.W.keepIn K (.ref f44) = true)
    (a45 : PySem.W.nsIn K mainGlobals "write" = some (some (.ref f45))) (l45 : K.lookup f45 = some ⟨oc45, od45, .func (PySem.W.fnOf "write" "write" (defArgs s_write) (defBody s_write) (defScope s_write) .none kV45 dc45 pm45 an45 cd45 ct45), sl45⟩) (c45 : PySem.W.codeIn K cd45 "write" = true) (k45 : PySem.W.keepIn K (.ref f45) = true)
    (a46 : PySem.W.nsIn K mainGlobals "settled" = some (some (.ref f46))) (l46 : K.lookup f46 = some ⟨oc46, od46, .func (PySem.W.fnOf "settled" "settled" (defArgs s_settled) (defBody s_settled) (defScope s_settled) .none kV46 dc46 pm46 an46 cd46 ct46), sl46⟩) (c46 : PySem.W.codeIn K cd46 "settled" = true) (k46 : PySem.W.keepIn K (.ref f46) = true)
    (a47 : PySem.W.nsIn K mainGlobals "_law_refused" = some (some (.ref f47))) (l47 : K.lookup f47 = some ⟨oc47, od47, .func (PySem.W.fnOf "_law_refused" "_law_refused" (defArgs s__law_refused) (defBody s__law_refused) (defScope s__law_refused) .none kV47 dc47 pm47 an47 cd47 ct47), sl47⟩) (c47 : PySem.W.codeIn K cd47 "_law_refused" = true) (k47 : PySem.W.keepIn K (.ref f47) = true)
    (a48 : PySem.W.nsIn K mainGlobals "_law_part_text" = some (some (.ref f48))) (l48 : K.lookup f48 = some ⟨oc48, od48, .func (PySem.W.fnOf "_law_part_text" "_law_part_text" (defArgs s__law_part_text) (defBody s__law_part_text) (defScope s__law_part_text) .none kV48 dc48 pm48 an48 cd48 ct48), sl48⟩) (c48 : PySem.W.codeIn K cd48 "_law_part_text" = true) (k48 : PySem.W.keepIn K (.ref f48) = true)
    (a49 : PySem.W.nsIn K mainGlobals "_law_text" = some (some (.ref f49))) (l49 : K.lookup f49 = some ⟨oc49, od49, .func (PySem.W.fnOf "_law_text" "_law_text" (defArgs s__law_text) (defBody s__law_text) (defScope s__law_text) .none kV49 dc49 pm49 an49 cd49 ct49), sl49⟩) (c49 : PySem.W.codeIn K cd49 "_law_text" = true) (k49 : PySem.W.keepIn K (.ref f49) = true)
    (a50 : PySem.W.nsIn K mainGlobals "_law_bare_tree" = some (some (.ref f50))) (l50 : K.lookup f50 = some ⟨oc50, od50, .func (PySem.W.fnOf "_law_bare_tree" "_law_bare_tree" (defArgs s__law_bare_tree) (defBody s__law_bare_tree) (defScope s__law_bare_tree) .none kV50 dc50 pm50 an50 cd50 ct50), sl50⟩) (c50 : PySem.W.codeIn K cd50 "_law_bare_tree" = true) (k50 : PySem.W.keepIn K (.ref f50) = true)
    (a51 : PySem.W.nsIn K mainGlobals "_law_lean_map" = some (some (.ref f51))) (l51 : K.lookup f51 = some ⟨oc51, od51, .func (PySem.W.fnOf "_law_lean_map" "_law_lean_map" (defArgs s__law_lean_map) (defBody s__law_lean_map) (defScope s__law_lean_map) .none kV51 dc51 pm51 an51 cd51 ct51), sl51⟩) (c51 : PySem.W.codeIn K cd51 "_law_lean_map" = true) (k51 : PySem.W.keepIn K (.ref f51) = true)
    (a52 : PySem.W.nsIn K mainGlobals "_law_unlike_rooms" = some (some (.ref f52))) (l52 : K.lookup f52 = some ⟨oc52, od52, .func (PySem.W.fnOf "_law_unlike_rooms" "_law_unlike_rooms" (defArgs s__law_unlike_rooms) (defBody s__law_unlike_rooms) (defScope s__law_unlike_rooms) .none kV52 dc52 pm52 an52 cd52 ct52), sl52⟩) (c52 : PySem.W.codeIn K cd52 "_law_unlike_rooms" = true) (k52 : PySem.W.keepIn K (.ref f52) = true)
    (a53 : PySem.W.nsIn K mainGlobals "law" = some (some (.ref f53))) (l53 : K.lookup f53 = some ⟨oc53, od53, .func (PySem.W.fnOf "law" "law" (defArgs s_law) (defBody s_law) (defScope s_law) .none kV53 dc53 pm53 an53 cd53 ct53), sl53⟩) (c53 : PySem.W.codeIn K cd53 "law" = true) (k53 : PySem.W.keepIn K (.ref f53) = true)
    (y0g : PySem.W.nsIn K mainGlobals "Unfit" = some (some (.ref ca0)))
    (y0o : PySem.W.excOver K ca0 [.type "ValueError", .type "Exception", .type "BaseException", .type "object"] = true)
    (y0m : PySem.W.excInitIn K ca0 [.type "ValueError", .type "Exception", .type "BaseException", .type "object"] "ValueError.__new__" = true)
    (y0h : PySem.W.hasDictIn K ca0 = true)
    (y0s : PySem.W.findIn K (.ref ca0) "__setattr__" = some (some (.builtin "object.__setattr__")))
    (y0x : PySem.W.subIn K (.ref ca0) (.type "BaseException") = some true)
    (y0t : PySem.W.typeIn K (.ref ca0) = some (.type "type"))
    (y0k : PySem.W.keepIn K (.ref ca0) = true)
    (y0i : PySem.W.findIn K (.ref ca0) "__init__" = some (some (.ref ci0)))
    (y0f : PySem.W.typeIn K (.ref ci0) = some (.type "function"))
    (y0l : K.lookup ci0 = some ⟨coc0, cod0, .func (PySem.W.fnOf "__init__" "Unfit.__init__" (defArgs si_Unfit) (defBody si_Unfit) (defScope si_Unfit) (.ref cT0) ckV0 cdc0 cpm0 can0 ccd0 cct0), csl0⟩)
    (y0c : PySem.W.codeIn K ccd0 "Unfit.__init__" = true)
    (y0p : PySem.W.keepIn K (.ref ci0) = true)
    (y0a : PySem.W.findIn K (.ref ca0) "__getattribute__" = some (some (.builtin "BaseException.__getattribute__")))
    (y0b : PySem.W.findIn K (.ref ca0) "__getattr__" = some none)
    (y0n_word : PySem.W.findIn K (.ref ca0) "word" = some none)
    (y0r : PySem.W.readsIn K ca0 (.type "type") = true)
    (y0q : PySem.W.specialIn K (.ref ca0) "__getattribute__" = some (some (.builtin "type.__getattribute__")))
    (y0v : PySem.W.findCls K (.ref ca0) (.type "type") "__init__" = some (.val (.ref ci0)))
    (y0d : K.lookup cT0 = some ⟨cot0, codt0, .seq [Value.str "Unfit" ctk0_0].toArray cnt0, cslt0⟩)
    (y1g : PySem.W.nsIn K mainGlobals "OtherRoom" = some (some (.ref ca1)))
    (y1o : PySem.W.excOver K ca1 [.type "ValueError", .type "Exception", .type "BaseException", .type "object"] = true)
    (y1m : PySem.W.excInitIn K ca1 [.type "ValueError", .type "Exception", .type "BaseException", .type "object"] "ValueError.__new__" = true)
    (y1h : PySem.W.hasDictIn K ca1 = true)
    (y1s : PySem.W.findIn K (.ref ca1) "__setattr__" = some (some (.builtin "object.__setattr__")))
    (y1x : PySem.W.subIn K (.ref ca1) (.type "BaseException") = some true)
    (y1t : PySem.W.typeIn K (.ref ca1) = some (.type "type"))
    (y1k : PySem.W.keepIn K (.ref ca1) = true)
    (y1i : PySem.W.findIn K (.ref ca1) "__init__" = some (some (.ref ci1)))
    (y1f : PySem.W.typeIn K (.ref ci1) = some (.type "function"))
    (y1l : K.lookup ci1 = some ⟨coc1, cod1, .func (PySem.W.fnOf "__init__" "OtherRoom.__init__" (defArgs si_OtherRoom) (defBody si_OtherRoom) (defScope si_OtherRoom) .none ckV1 cdc1 cpm1 can1 ccd1 cct1), csl1⟩)
    (y1c : PySem.W.codeIn K ccd1 "OtherRoom.__init__" = true)
    (y1p : PySem.W.keepIn K (.ref ci1) = true)
    (y1a : PySem.W.findIn K (.ref ca1) "__getattribute__" = some (some (.builtin "BaseException.__getattribute__")))
    (y1b : PySem.W.findIn K (.ref ca1) "__getattr__" = some none)
    (y1n_word : PySem.W.findIn K (.ref ca1) "word" = some none)
    (y2g : PySem.W.nsIn K mainGlobals "Flat" = some (some (.ref ca2)))
    (y2o : PySem.W.excOver K ca2 [.type "ZeroDivisionError", .type "ArithmeticError", .type "Exception", .type "BaseException", .type "object"] = true)
    (y2m : PySem.W.excInitIn K ca2 [.type "ZeroDivisionError", .type "ArithmeticError", .type "Exception", .type "BaseException", .type "object"] "ZeroDivisionError.__new__" = true)
    (y2h : PySem.W.hasDictIn K ca2 = true)
    (y2s : PySem.W.findIn K (.ref ca2) "__setattr__" = some (some (.builtin "object.__setattr__")))
    (y2x : PySem.W.subIn K (.ref ca2) (.type "BaseException") = some true)
    (y2t : PySem.W.typeIn K (.ref ca2) = some (.type "type"))
    (y2k : PySem.W.keepIn K (.ref ca2) = true)
    (y2i : PySem.W.findIn K (.ref ca2) "__init__" = some (some (.ref ci2)))
    (y2f : PySem.W.typeIn K (.ref ci2) = some (.type "function"))
    (y2l : K.lookup ci2 = some ⟨coc2, cod2, .func (PySem.W.fnOf "__init__" "Flat.__init__" (defArgs si_Flat) (defBody si_Flat) (defScope si_Flat) .none ckV2 cdc2 cpm2 can2 ccd2 cct2), csl2⟩)
    (y2c : PySem.W.codeIn K ccd2 "Flat.__init__" = true)
    (y2p : PySem.W.keepIn K (.ref ci2) = true)
    (y2a : PySem.W.findIn K (.ref ca2) "__getattribute__" = some (some (.builtin "BaseException.__getattribute__")))
    (y2b : PySem.W.findIn K (.ref ca2) "__getattr__" = some none)
    (y2n_word : PySem.W.findIn K (.ref ca2) "word" = some none)
    (e0 : PySem.W.subIn K (.ref ca1) (.ref ca1) = some true)
    (z0 : PySem.W.nsIn K mainGlobals "abs" = some none)
    (z1 : PySem.W.nsIn K mainGlobals "all" = some none)
    (z2 : PySem.W.nsIn K mainGlobals "bool" = some none)
    (z3 : PySem.W.nsIn K mainGlobals "int" = some none)
    (z4 : PySem.W.nsIn K mainGlobals "isinstance" = some none)
    (z5 : PySem.W.nsIn K mainGlobals "len" = some none)
    (z6 : PySem.W.nsIn K mainGlobals "list" = some none)
    (z7 : PySem.W.nsIn K mainGlobals "max" = some none)
    (z8 : PySem.W.nsIn K mainGlobals "range" = some none)
    (z9 : PySem.W.nsIn K mainGlobals "str" = some none)
    (z10 : PySem.W.nsIn K mainGlobals "tuple" = some none)
    (z11 : PySem.W.nsIn K mainGlobals "zip" = some none)
    (kc0 : PySem.W.nsIn K mainGlobals "BOUND" = some (some (.ref kca0)))
    (kl0 : K.lookup kca0 = some ⟨.type "tuple", kod0, .seq [Value.str "meet" kt0_0, Value.str "lay" kt0_1].toArray kn0, ksl0⟩)
    (kc1 : PySem.W.nsIn K mainGlobals "FITTING" = some (some (.ref kca1)))
    (kl1 : K.lookup kca1 = some ⟨.type "dict", none, .dict kes1 kn1, #[]⟩)
    (kq1 : PySem.W.KeysLit w.params kes1.toList)
    (kv1_0 : PySem.W.nsIn K kca1 "twice" = some (some (.ref f21)))
    (kv1_1 : PySem.W.nsIn K kca1 "once" = some (some (.ref f22)))
    (kv1_2 : PySem.W.nsIn K kca1 "product" = some (some (.ref f23)))
    (kv1_3 : PySem.W.nsIn K kca1 "still" = some (some (.ref f25)))
    (kv1_4 : PySem.W.nsIn K kca1 "onward" = some (some (.ref f32)))
    (kv1_5 : PySem.W.nsIn K kca1 "turncarry" = some (some (.ref f33)))
    (kv1_6 : PySem.W.nsIn K kca1 "turntimes" = some (some (.ref f34)))
    (kv1_7 : PySem.W.nsIn K kca1 "carrytimes" = some (some (.ref f35)))
    (kv1_8 : PySem.W.nsIn K kca1 "turnpair" = some (some (.ref f36)))
    (kv1_9 : PySem.W.nsIn K kca1 "carrypair" = some (some (.ref f38)))
    (kv1_10 : PySem.W.nsIn K kca1 "left" = some (some (.ref f39)))
    (kv1_11 : PySem.W.nsIn K kca1 "right" = some (some (.ref f40)))
    (kc2 : PySem.W.nsIn K mainGlobals "FREE" = some (some (.ref kca2)))
    (kl2 : K.lookup kca2 = some ⟨.type "tuple", kod2, .seq [Value.str "add" kt2_0, Value.str "take" kt2_1, Value.str "lay" kt2_2].toArray kn2, ksl2⟩)
    (kc3 : PySem.W.nsIn K mainGlobals "NONE" = some (some (.ref kca3)))
    (kl3 : K.lookup kca3 = some ⟨.type "tuple", kod3, .seq [Value.int 0 kt3_0, Value.int 1 kt3_1].toArray kn3, ksl3⟩)
    (kc4 : PySem.W.nsIn K mainGlobals "ONE" = some (some (.ref kca4)))
    (kl4 : K.lookup kca4 = some ⟨.type "tuple", kod4, .seq [Value.int 1 kt4_0, Value.int 1 kt4_1].toArray kn4, ksl4⟩)
    (kc5 : PySem.W.nsIn K mainGlobals "RULES" = some (some (.ref kca5)))
    (kl5 : K.lookup kca5 = some ⟨.type "tuple", kod5, .seq [Value.str "twice" kt5_0, Value.str "once" kt5_1, Value.str "product" kt5_2, Value.str "still" kt5_3, Value.str "onward" kt5_4, Value.str "turncarry" kt5_5, Value.str "turntimes" kt5_6, Value.str "carrytimes" kt5_7, Value.str "turnpair" kt5_8, Value.str "carrypair" kt5_9, Value.str "left" kt5_10, Value.str "right" kt5_11].toArray kn5, ksl5⟩)
    : ∃ fd : FuncData, (∀ (s : Shared) (v : Value), BindsTo s fd ⟨[v], []⟩ [("_law_script", v)]) ∧ ∀ base : Heap, K.In base → base.Ns mainGlobals mg → FnOk l.prog w K mg base CX0 38 fa fd ["_law_script"] (spP K PLaw) := qt_of (by simp (disch := with_unfolding_all
  have e := hfa.symm.trans (PySem.W.mg_of X G a53)
  cases e
  obtain ⟨cs, hc0, hc1, hc2⟩ : ∃ cs : Cs, cs "Unfit" = ca0 ∧ cs "OtherRoom" = ca1 ∧ cs "Flat" = ca2 := ⟨fun x => if x = "Unfit" then ca0 else if x = "OtherRoom" then ca1 else if x = "Flat" then ca2 else 0, by dsimp only; rw [if_pos rfl], by dsimp only; rw [if_neg (by decide), if_pos rfl], by dsimp only; rw [if_neg (by decide), if_neg (by decide), if_pos rfl]⟩
  subst hc0
  subst hc1
  subst hc2
  have FI0 := fund_mk (st := si_Unfit) (dvs := [V.str "Unfit"]) y0l y0c y0p y0d (.cons ⟨_, rfl⟩ .nil) (by simp)
  have ox0 : OxK K (cs "Unfit") := ⟨⟨_, _, _, _, PySem.F.excBase_ValueError, PySem.F.store_ValueError, y0o, y0m, y0h, y0s, y0x, y0t, y0k⟩⟩
  have bi0 := binds_all (ps := ["self", "word"]) FI0 (by simp) fun _ _ _ _ _ _ _ us its hl hl2 => by first | (obtain ⟨_, _, rfl⟩ := lel2 hl; obtain ⟨_, rfl⟩ := lel1 hl2; exact ⟨_, rfl, rfl⟩) | exact (match us, its, hl, hl2 with | [_, _], [_], _, _ => ⟨_, rfl, rfl⟩)
  have cf0 : ClsF K cs "Unfit" ["word"] := ⟨ox0, fun n hn => by rw [List.mem_singleton.mp hn]; exact y0n_word⟩
  have FI1 := fun_mk (st := si_OtherRoom) y1l y1c y1p
  have ox1 : OxK K (cs "OtherRoom") := ⟨⟨_, _, _, _, PySem.F.excBase_ValueError, PySem.F.store_ValueError, y1o, y1m, y1h, y1s, y1x, y1t, y1k⟩⟩
  have bi1 := FI1.binds (ps := ["self"]) fun _ _ _ _ _ _ us hl => by first | (obtain ⟨_, rfl⟩ := lel1 hl; exact rfl) | exact (match us, hl with | [_], _ => rfl)
  have cf1 : ClsF K cs "OtherRoom" ["word"] := ⟨ox1, fun n hn => by rw [List.mem_singleton.mp hn]; exact y1n_word⟩
  have FI2 := fun_mk (st := si_Flat) y2l y2c y2p
  have ox2 : OxK K (cs "Flat") := ⟨⟨_, _, _, _, PySem.F.excBase_ZeroDivisionError, PySem.F.store_ZeroDivisionError, y2o, y2m, y2h, y2s, y2x, y2t, y2k⟩⟩
  have bi2 := FI2.binds (ps := ["self"]) fun _ _ _ _ _ _ us hl => by first | (obtain ⟨_, rfl⟩ := lel1 hl; exact rfl) | exact (match us, hl with | [_], _ => rfl)
  have cf2 : ClsF K cs "Flat" ["word"] := ⟨ox2, fun n hn => by rw [List.mem_singleton.mp hn]; exact y2n_word⟩
  have F0 := fun_mk (st := s__law_bag) l0 c0 k0
  have b0 := F0.binds (ps := ["_law_script"]) fun _ _ _ _ _ _ us hl => by first | (obtain ⟨_, rfl⟩ := lel1 hl; exact rfl) | exact (match us, hl with | [_], _ => rfl)
  have F1 := fun_mk (st := s__law_pull) l1 c1 k1
  have b1 := F1.binds (ps := ["_law_bag_here", "_law_size"]) fun _ _ _ _ _ _ us hl => by first | (obtain ⟨_, _, rfl⟩ := lel2 hl; exact rfl) | exact (match us, hl with | [_, _], _ => rfl)
  have F2 := fun_mk (st := s__law_gcd) l2 c2 k2
  have b2 := F2.binds (ps := ["_law_one", "_law_other"]) fun _ _ _ _ _ _ us hl => by first | (obtain ⟨_, _, rfl⟩ := lel2 hl; exact rfl) | exact (match us, hl with | [_, _], _ => rfl)
  have F3 := fun_mk (st := s__law_frac) l3 c3 k3
  have b3 := F3.binds (ps := ["_law_above", "_law_below"]) fun _ _ _ _ _ _ us hl => by first | (obtain ⟨_, _, rfl⟩ := lel2 hl; exact rfl) | exact (match us, hl with | [_, _], _ => rfl)
  have F4 := fun_mk (st := s__law_part) l4 c4 k4
  have b4 := F4.binds (ps := ["_law_bag_here"]) fun _ _ _ _ _ _ us hl => by first | (obtain ⟨_, rfl⟩ := lel1 hl; exact rfl) | exact (match us, hl with | [_], _ => rfl)
  have F5 := fun_mk (st := s__law_whole_part) l5 c5 k5
  have b5 := F5.binds (ps := ["_law_bag_here"]) fun _ _ _ _ _ _ us hl => by first | (obtain ⟨_, rfl⟩ := lel1 hl; exact rfl) | exact (match us, hl with | [_], _ => rfl)
  have F6 := fun_mk (st := s__law_entry) l6 c6 k6
  have b6 := F6.binds (ps := ["_law_bag_here"]) fun _ _ _ _ _ _ us hl => by first | (obtain ⟨_, rfl⟩ := lel1 hl; exact rfl) | exact (match us, hl with | [_], _ => rfl)
  have F7 := fun_mk (st := s__law_map) l7 c7 k7
  have b7 := F7.binds (ps := ["_law_bag_here", "_law_start", "_law_goal"]) fun _ _ _ _ _ _ us hl => by first | (obtain ⟨_, _, _, rfl⟩ := lel3 hl; exact rfl) | exact (match us, hl with | [_, _, _], _ => rfl)
  have F8 := fun_mk (st := s__law_unit) l8 c8 k8
  have b8 := F8.binds (ps := ["_law_rank"]) fun _ _ _ _ _ _ us hl => by first | (obtain ⟨_, rfl⟩ := lel1 hl; exact rfl) | exact (match us, hl with | [_], _ => rfl)
  have F9 := fun_mk (st := s__law_fit_tree) l9 c9 k9
  have b9 := F9.binds (ps := ["_law_bag_here", "_law_deep", "_law_rank", "_law_names"]) fun _ _ _ _ _ _ us hl => by first | (obtain ⟨_, _, _, _, rfl⟩ := lel4 hl; exact rfl) | exact (match us, hl with | [_, _, _, _], _ => rfl)
  have F10 := fun_mk (st := s__law_like) l10 c10 k10
  have b10 := F10.binds (ps := ["_law_found", "_law_due"]) fun _ _ _ _ _ _ us hl => by first | (obtain ⟨_, _, rfl⟩ := lel2 hl; exact rfl) | exact (match us, hl with | [_, _], _ => rfl)
  have F11 := fun_mk (st := s__law_rule_turn) l11 c11 k11
  have b11 := F11.binds (ps := ["_law_tree"]) fun _ _ _ _ _ _ us hl => by first | (obtain ⟨_, rfl⟩ := lel1 hl; exact rfl) | exact (match us, hl with | [_], _ => rfl)
  have F12 := fun_mk (st := s__law_add) l12 c12 k12
  have b12 := F12.binds (ps := ["_law_one", "_law_other"]) fun _ _ _ _ _ _ us hl => by first | (obtain ⟨_, _, rfl⟩ := lel2 hl; exact rfl) | exact (match us, hl with | [_, _], _ => rfl)
  have F13 := fun_mk (st := s__law_mul) l13 c13 k13
  have b13 := F13.binds (ps := ["_law_one", "_law_other"]) fun _ _ _ _ _ _ us hl => by first | (obtain ⟨_, _, rfl⟩ := lel2 hl; exact rfl) | exact (match us, hl with | [_, _], _ => rfl)
  have F14 := fun_mk (st := s__law_led) l14 c14 k14
  have b14 := F14.binds (ps := ["_law_kind", "_law_spot"]) fun _ _ _ _ _ _ us hl => by first | (obtain ⟨_, _, rfl⟩ := lel2 hl; exact rfl) | exact (match us, hl with | [_, _], _ => rfl)
  have F15 := fun_mk (st := s__law_sub) l15 c15 k15
  have b15 := F15.binds (ps := ["_law_one", "_law_other"]) fun _ _ _ _ _ _ us hl => by first | (obtain ⟨_, _, rfl⟩ := lel2 hl; exact rfl) | exact (match us, hl with | [_, _], _ => rfl)
  have F16 := fun_mk (st := s__law_behind_map) l16 c16 k16
  have b16 := F16.binds (ps := ["_law_first", "_law_then", "_law_start"]) fun _ _ _ _ _ _ us hl => by first | (obtain ⟨_, _, _, rfl⟩ := lel3 hl; exact rfl) | exact (match us, hl with | [_, _, _], _ => rfl)
  have F17 := fun_mk (st := s__law_rule_carry) l17 c17 k17
  have b17 := F17.binds (ps := ["_law_tree"]) fun _ _ _ _ _ _ us hl => by first | (obtain ⟨_, rfl⟩ := lel1 hl; exact rfl) | exact (match us, hl with | [_], _ => rfl)
  have F18 := fun_mk (st := s__law_rule) l18 c18 k18
  have b18 := F18.binds (ps := ["_law_tree"]) fun _ _ _ _ _ _ us hl => by first | (obtain ⟨_, rfl⟩ := lel1 hl; exact rfl) | exact (match us, hl with | [_], _ => rfl)
  have F19 := fun_mk (st := s__law_inner) l19 c19 k19
  have b19 := F19.binds (ps := ["_law_tree"]) fun _ _ _ _ _ _ us hl => by first | (obtain ⟨_, rfl⟩ := lel1 hl; exact rfl) | exact (match us, hl with | [_], _ => rfl)
  have F20 := fun_mk (st := s__law_one_rule) l20 c20 k20
  have b20 := F20.binds (ps := ["_law_tree"]) fun _ _ _ _ _ _ us hl => by first | (obtain ⟨_, rfl⟩ := lel1 hl; exact rfl) | exact (match us, hl with | [_], _ => rfl)
  have F21 := fun_mk (st := s_twice) l21 c21 k21
  have b21 := F21.binds (ps := ["tree"]) fun _ _ _ _ _ _ us hl => by first | (obtain ⟨_, rfl⟩ := lel1 hl; exact rfl) | exact (match us, hl with | [_], _ => rfl)
  have F22 := fun_mk (st := s_once) l22 c22 k22
  have b22 := F22.binds (ps := ["tree"]) fun _ _ _ _ _ _ us hl => by first | (obtain ⟨_, rfl⟩ := lel1 hl; exact rfl) | exact (match us, hl with | [_], _ => rfl)
  have F23 := fun_mk (st := s_product) l23 c23 k23
  have b23 := F23.binds (ps := ["tree"]) fun _ _ _ _ _ _ us hl => by first | (obtain ⟨_, rfl⟩ := lel1 hl; exact rfl) | exact (match us, hl with | [_], _ => rfl)
  have F24 := fund_mk (st := s_still) (dvs := [V.int 2]) l24 c24 k24 t24 (.cons ⟨_, rfl⟩ .nil) (by simp)
  have b24 := binds_all (ps := ["room"]) F24 (by simp) fun _ _ _ _ _ _ _ us its hl hl2 => by first | (obtain ⟨_, rfl⟩ := lel1 hl; obtain ⟨_, rfl⟩ := lel1 hl2; exact ⟨_, rfl, rfl⟩) | exact (match us, its, hl, hl2 with | [_], [_], _, _ => ⟨_, rfl, rfl⟩)
  obtain ⟨q24_1, w24_1, u24_1⟩ := F24.binds1 (ps := ["room"]) 0 0 (by simp) rfl fun _ _ _ _ _ _ _ us its hl hl2 => by first | (obtain rfl := lel0 hl; obtain ⟨_, rfl⟩ := lel1 hl2; exact ⟨_, rfl, rfl⟩) | exact (match us, its, hl, hl2 with | [], [_], _, _ => ⟨_, rfl, rfl⟩)
  have F25 := fun_mk (st := s_still_rule) l25 c25 k25
  have b25 := F25.binds (ps := ["tree"]) fun _ _ _ _ _ _ us hl => by first | (obtain ⟨_, rfl⟩ := lel1 hl; exact rfl) | exact (match us, hl with | [_], _ => rfl)
  have F26 := fun_mk (st := s_room_from) l26 c26 k26
  have b26 := F26.binds (ps := ["way"]) fun _ _ _ _ _ _ us hl => by first | (obtain ⟨_, rfl⟩ := lel1 hl; exact rfl) | exact (match us, hl with | [_], _ => rfl)
  have F27 := fun_mk (st := s_shared) l27 c27 k27
  have b27 := F27.binds (ps := ["one", "other"]) fun _ _ _ _ _ _ us hl => by first | (obtain ⟨_, _, rfl⟩ := lel2 hl; exact rfl) | exact (match us, hl with | [_, _], _ => rfl)
  have F28 := fund_mk (st := s_part) (dvs := [V.int 1]) l28 c28 k28 t28 (.cons ⟨_, rfl⟩ .nil) (by simp)
  have b28 := binds_all (ps := ["above", "below"]) F28 (by simp) fun _ _ _ _ _ _ _ us its hl hl2 => by first | (obtain ⟨_, _, rfl⟩ := lel2 hl; obtain ⟨_, rfl⟩ := lel1 hl2; exact ⟨_, rfl, rfl⟩) | exact (match us, its, hl, hl2 with | [_, _], [_], _, _ => ⟨_, rfl, rfl⟩)
  obtain ⟨q28_1, w28_1, u28_1⟩ := F28.binds1 (ps := ["above", "below"]) 1 0 (by simp) rfl fun _ _ _ _ _ _ _ us its hl hl2 => by first | (obtain ⟨_, rfl⟩ := lel1 hl; obtain ⟨_, rfl⟩ := lel1 hl2; exact ⟨_, rfl, rfl⟩) | exact (match us, its, hl, hl2 with | [_], [_], _, _ => ⟨_, rfl, rfl⟩)
  have F29 := fun_mk (st := s_plus) l29 c29 k29
  have b29 := F29.binds (ps := ["one", "other"]) fun _ _ _ _ _ _ us hl => by first | (obtain ⟨_, _, rfl⟩ := lel2 hl; exact rfl) | exact (match us, hl with | [_, _], _ => rfl)
  have F30 := fun_mk (st := s_times) l30 c30 k30
  have b30 := F30.binds (ps := ["one", "other"]) fun _ _ _ _ _ _ us hl => by first | (obtain ⟨_, _, rfl⟩ := lel2 hl; exact rfl) | exact (match us, hl with | [_, _], _ => rfl)
  have F31 := fun_mk (st := s_behind) l31 c31 k31
  have b31 := F31.binds (ps := ["first", "then"]) fun _ _ _ _ _ _ us hl => by first | (obtain ⟨_, _, rfl⟩ := lel2 hl; exact rfl) | exact (match us, hl with | [_, _], _ => rfl)
  have F32 := fun_mk (st := s_onward) l32 c32 k32
  have b32 := F32.binds (ps := ["tree"]) fun _ _ _ _ _ _ us hl => by first | (obtain ⟨_, rfl⟩ := lel1 hl; exact rfl) | exact (match us, hl with | [_], _ => rfl)
  have F33 := fun_mk (st := s_turncarry) l33 c33 k33
  have b33 := F33.binds (ps := ["tree"]) fun _ _ _ _ _ _ us hl => by first | (obtain ⟨_, rfl⟩ := lel1 hl; exact rfl) | exact (match us, hl with | [_], _ => rfl)
  have F34 := fun_mk (st := s_turntimes) l34 c34 k34
  have b34 := F34.binds (ps := ["tree"]) fun _ _ _ _ _ _ us hl => by first | (obtain ⟨_, rfl⟩ := lel1 hl; exact rfl) | exact (match us, hl with | [_], _ => rfl)
  have F35 := fun_mk (st := s_carrytimes) l35 c35 k35
  have b35 := F35.binds (ps := ["tree"]) fun _ _ _ _ _ _ us hl => by first | (obtain ⟨_, rfl⟩ := lel1 hl; exact rfl) | exact (match us, hl with | [_], _ => rfl)
  have F36 := fun_mk (st := s_turnpair) l36 c36 k36
  have b36 := F36.binds (ps := ["tree"]) fun _ _ _ _ _ _ us hl => by first | (obtain ⟨_, rfl⟩ := lel1 hl; exact rfl) | exact (match us, hl with | [_], _ => rfl)
  have F37 := fun_mk (st := s_straightened) l37 c37 k37
  have b37 := F37.binds (ps := ["way"]) fun _ _ _ _ _ _ us hl => by first | (obtain ⟨_, rfl⟩ := lel1 hl; exact rfl) | exact (match us, hl with | [_], _ => rfl)
  have F38 := fun_mk (st := s_carrypair) l38 c38 k38
  have b38 := F38.binds (ps := ["tree"]) fun _ _ _ _ _ _ us hl => by first | (obtain ⟨_, rfl⟩ := lel1 hl; exact rfl) | exact (match us, hl with | [_], _ => rfl)
  have F39 := fun_mk (st := s_left) l39 c39 k39
  have b39 := F39.binds (ps := ["tree"]) fun _ _ _ _ _ _ us hl => by first | (obtain ⟨_, rfl⟩ := lel1 hl; exact rfl) | exact (match us, hl with | [_], _ => rfl)
  have F40 := fun_mk (st := s_right) l40 c40 k40
  have b40 := F40.binds (ps := ["tree"]) fun _ _ _ _ _ _ us hl => by first | (obtain ⟨_, rfl⟩ := lel1 hl; exact rfl) | exact (match us, hl with | [_], _ => rfl)
  have F41 := fun_mk (st := s_at_top) l41 c41 k41
  have b41 := F41.binds (ps := ["tree"]) fun _ _ _ _ _ _ us hl => by first | (obtain ⟨_, rfl⟩ := lel1 hl; exact rfl) | exact (match us, hl with | [_], _ => rfl)
  have F42 := fun_mk (st := s_one_step) l42 c42 k42
  have b42 := F42.binds (ps := ["tree"]) fun _ _ _ _ _ _ us hl => by first | (obtain ⟨_, rfl⟩ := lel1 hl; exact rfl) | exact (match us, hl with | [_], _ => rfl)
  have F43 := fun_mk (st := s_part_text) l43 c43 k43
  have b43 := F43.binds (ps := ["one"]) fun _ _ _ _ _ _ us hl => by first | (obtain ⟨_, rfl⟩ := lel1 hl; exact rfl) | exact (match us, hl with | [_], _ => rfl)
  have F44 := fun_mk (st := s_way_text) l44 c44 k44
  have b44 := F44.binds (ps := ["way"]) fun _ _ _ _ _ _ us hl => by first | (obtain ⟨_, rfl⟩ := lel1 hl; exact rfl) | exact (match us, hl with | [_], _ => rfl)
  have F45 := fun_mk (st := s_write) l45 c45 k45
  have b45 := F45.binds (ps := ["tree"]) fun _ _ _ _ _ _ us hl => by first | (obtain ⟨_, rfl⟩ := lel1 hl; exact rfl) | exact (match us, hl with | [_], _ => rfl)
  have F46 := fun_mk (st := s_settled) l46 c46 k46
  have b46 := F46.binds (ps := ["tree"]) fun _ _ _ _ _ _ us hl => by first | (obtain ⟨_, rfl⟩ := lel1 hl; exact rfl) | exact (match us, hl with | [_], _ => rfl)
  have F47 := fun_mk (st := s__law_refused) l47 c47 k47
  have b47 := F47.binds (ps := ["_law_tree"]) fun _ _ _ _ _ _ us hl => by first | (obtain ⟨_, rfl⟩ := lel1 hl; exact rfl) | exact (match us, hl with | [_], _ => rfl)
  have F48 := fun_mk (st := s__law_part_text) l48 c48 k48
  have b48 := F48.binds (ps := ["_law_one"]) fun _ _ _ _ _ _ us hl => by first | (obtain ⟨_, rfl⟩ := lel1 hl; exact rfl) | exact (match us, hl with | [_], _ => rfl)
  have F49 := fun_mk (st := s__law_text) l49 c49 k49
  have b49 := F49.binds (ps := ["_law_tree"]) fun _ _ _ _ _ _ us hl => by first | (obtain ⟨_, rfl⟩ := lel1 hl; exact rfl) | exact (match us, hl with | [_], _ => rfl)
  have F50 := fun_mk (st := s__law_bare_tree) l50 c50 k50
  have b50 := F50.binds (ps := ["_law_bag_here"]) fun _ _ _ _ _ _ us hl => by first | (obtain ⟨_, rfl⟩ := lel1 hl; exact rfl) | exact (match us, hl with | [_], _ => rfl)
  have F51 := fun_mk (st := s__law_lean_map) l51 c51 k51
  have b51 := F51.binds (ps := ["_law_bag_here", "_law_start", "_law_goal"]) fun _ _ _ _ _ _ us hl => by first | (obtain ⟨_, _, _, rfl⟩ := lel3 hl; exact rfl) | exact (match us, hl with | [_, _, _], _ => rfl)
  have F52 := fun_mk (st := s__law_unlike_rooms) l52 c52 k52
  have b52 := F52.binds (ps := ["_law_bag_here"]) fun _ _ _ _ _ _ us hl => by first | (obtain ⟨_, rfl⟩ := lel1 hl; exact rfl) | exact (match us, hl with | [_], _ => rfl)
  have F53 := fun_mk (st := s_law) l53 c53 k53
  obtain ⟨gs, hg0, hg2, hg3, hg4, hg5⟩ : ∃ gs : Gs, gs "BOUND" = V.ref kca0 ∧ gs "FREE" = V.ref kca2 ∧ gs "NONE" = V.ref kca3 ∧ gs "ONE" = V.ref kca4 ∧ gs "RULES" = V.ref kca5 := ⟨fun x => if x = "BOUND" then V.ref kca0 else if x = "FREE" then V.ref kca2 else if x = "NONE" then V.ref kca3 else if x = "ONE" then V.ref kca4 else if x = "RULES" then V.ref kca5 else V.non, by dsimp only; rw [if_pos rfl], by dsimp only; rw [if_neg (by decide), if_pos rfl], by dsimp only; rw [if_neg (by decide), if_neg (by decide), if_pos rfl], by dsimp only; rw [if_neg (by decide), if_neg (by decide), if_neg (by decide), if_pos rfl], by dsimp only; rw [if_neg (by decide), if_neg (by decide), if_neg (by decide), if_neg (by decide), if_pos rfl]⟩
  have gr0 : RelV (gs "BOUND") (.ref kca0) := by rw [hg0]; rfl
  have gd0 : ∀ H, Dp K H (gs "BOUND") (bndD) := fun H => by rw [hg0]; exact .tup (xs := [V.str "meet", V.str "lay"]) (.inr ⟨_, _, _, kl0, rfl, rfl, by show 2 ≤ sizeLine; decide, (.cons ⟨_, rfl⟩ (.cons ⟨_, rfl⟩ .nil))⟩) (.cons (.str _) (.cons (.str _) .nil))
  have gr2 : RelV (gs "FREE") (.ref kca2) := by rw [hg2]; rfl
  have gd2 : ∀ H, Dp K H (gs "FREE") (freeD) := fun H => by rw [hg2]; exact .tup (xs := [V.str "add", V.str "take", V.str "lay"]) (.inr ⟨_, _, _, kl2, rfl, rfl, by show 3 ≤ sizeLine; decide, (.cons ⟨_, rfl⟩ (.cons ⟨_, rfl⟩ (.cons ⟨_, rfl⟩ .nil)))⟩) (.cons (.str _) (.cons (.str _) (.cons (.str _) .nil)))
  have gr3 : RelV (gs "NONE") (.ref kca3) := by rw [hg3]; rfl
  have gd3 : ∀ H, Dp K H (gs "NONE") (fr (0, 1)) := fun H => by rw [hg3]; exact .tup (xs := [V.int 0, V.int 1]) (.inr ⟨_, _, _, kl3, rfl, rfl, by show 2 ≤ sizeLine; decide, (.cons ⟨_, rfl⟩ (.cons ⟨_, rfl⟩ .nil))⟩) (.cons (.int _) (.cons (.int _) .nil))
  have gr4 : RelV (gs "ONE") (.ref kca4) := by rw [hg4]; rfl
  have gd4 : ∀ H, Dp K H (gs "ONE") (fr (1, 1)) := fun H => by rw [hg4]; exact .tup (xs := [V.int 1, V.int 1]) (.inr ⟨_, _, _, kl4, rfl, rfl, by show 2 ≤ sizeLine; decide, (.cons ⟨_, rfl⟩ (.cons ⟨_, rfl⟩ .nil))⟩) (.cons (.int _) (.cons (.int _) .nil))
  have gr5 : RelV (gs "RULES") (.ref kca5) := by rw [hg5]; rfl
  have gd5 : ∀ H, Dp K H (gs "RULES") (rulesD) := fun H => by rw [hg5]; exact .tup (xs := [V.str "twice", V.str "once", V.str "product", V.str "still", V.str "onward", V.str "turncarry", V.str "turntimes", V.str "carrytimes", V.str "turnpair", V.str "carrypair", V.str "left", V.str "right"]) (.inr ⟨_, _, _, kl5, rfl, rfl, by show 12 ≤ sizeLine; decide, (.cons ⟨_, rfl⟩ (.cons ⟨_, rfl⟩ (.cons ⟨_, rfl⟩ (.cons ⟨_, rfl⟩ (.cons ⟨_, rfl⟩ (.cons ⟨_, rfl⟩ (.cons ⟨_, rfl⟩ (.cons ⟨_, rfl⟩ (.cons ⟨_, rfl⟩ (.cons ⟨_, rfl⟩ (.cons ⟨_, rfl⟩ (.cons ⟨_, rfl⟩ .nil))))))))))))⟩) (.cons (.str _) (.cons (.str _) (.cons (.str _) (.cons (.str _) (.cons (.str _) (.cons (.str _) (.cons (.str _) (.cons (.str _) (.cons (.str _) (.cons (.str _) (.cons (.str _) (.cons (.str _) .nil))))))))))))
  have T : TX w K mg := { cs := cs, ox_Unfit := ox0, kC_Unfit := y0k, fI_Unfit := _, dI_Unfit := _, FI_Unfit := FI0, i_Unfit := y0i, ti_Unfit := y0f, bi_Unfit := bi0, g_Unfit := PySem.W.mg_of X G y0g, xf_Unfit := ⟨y0a, y0b, y0x, y0h⟩, nw_Unfit_word := y0n_word, cf_Unfit := cf0, rd_Unfit := y0r, ga_Unfit := y0q, fc_Unfit := y0v, ox_OtherRoom := ox1, kC_OtherRoom := y1k, fI_OtherRoom := _, dI_OtherRoom := _, FI_OtherRoom := FI1, i_OtherRoom := y1i, ti_OtherRoom := y1f, bi_OtherRoom := bi1, g_OtherRoom := PySem.W.mg_of X G y1g, xf_OtherRoom := ⟨y1a, y1b, y1x, y1h⟩, nw_OtherRoom_word := y1n_word, cf_OtherRoom := cf1, ox_Flat := ox2, kC_Flat := y2k, fI_Flat := _, dI_Flat := _, FI_Flat := FI2, i_Flat := y2i, ti_Flat := y2f, bi_Flat := bi2, g_Flat := PySem.W.mg_of X G y2g, xf_Flat := ⟨y2a, y2b, y2x, y2h⟩, nw_Flat_word := y2n_word, cf_Flat := cf2, em_OtherRoom_OtherRoom := em_of y1x y1h y1t e0, a__law_bag := f0, d__law_bag := _, F__law_bag := F0, g__law_bag := PySem.W.mg_of X G a0, b__law_bag := b0, a__law_pull := f1, d__law_pull := _, F__law_pull := F1, g__law_pull := PySem.W.mg_of X G a1, b__law_pull := b1, a__law_gcd := f2, d__law_gcd := _, F__law_gcd := F2, g__law_gcd := PySem.W.mg_of X G a2, b__law_gcd := b2, a__law_frac := f3, d__law_frac := _, F__law_frac := F3, g__law_frac := PySem.W.mg_of X G a3, b__law_frac := b3, a__law_part := f4, d__law_part := _, F__law_part := F4, g__law_part := PySem.W.mg_of X G a4, b__law_part := b4, a__law_whole_part := f5, d__law_whole_part := _, F__law_whole_part := F5, g__law_whole_part := PySem.W.mg_of X G a5, b__law_whole_part := b5, a__law_entry := f6, d__law_entry := _, F__law_entry := F6, g__law_entry := PySem.W.mg_of X G a6, b__law_entry := b6, a__law_map := f7, d__law_map := _, F__law_map := F7, g__law_map := PySem.W.mg_of X G a7, b__law_map := b7, a__law_unit := f8, d__law_unit := _, F__law_unit := F8, g__law_unit := PySem.W.mg_of X G a8, b__law_unit := b8, a__law_fit_tree := f9, d__law_fit_tree := _, F__law_fit_tree := F9, g__law_fit_tree := PySem.W.mg_of X G a9, b__law_fit_tree := b9, a__law_like := f10, d__law_like := _, F__law_like := F10, g__law_like := PySem.W.mg_of X G a10, b__law_like := b10, a__law_rule_turn := f11, d__law_rule_turn := _, F__law_rule_turn := F11, g__law_rule_turn := PySem.W.mg_of X G a11, b__law_rule_turn := b11, a__law_add := f12, d__law_add := _, F__law_add := F12, g__law_add := PySem.W.mg_of X G a12, b__law_add := b12, a__law_mul := f13, d__law_mul := _, F__law_mul := F13, g__law_mul := PySem.W.mg_of X G a13, b__law_mul := b13, a__law_led := f14, d__law_led := _, F__law_led := F14, g__law_led := PySem.W.mg_of X G a14, b__law_led := b14, a__law_sub := f15, d__law_sub := _, F__law_sub := F15, g__law_sub := PySem.W.mg_of X G a15, b__law_sub := b15, a__law_behind_map := f16, d__law_behind_map := _, F__law_behind_map := F16, g__law_behind_map := PySem.W.mg_of X G a16, b__law_behind_map := b16, a__law_rule_carry := f17, d__law_rule_carry := _, F__law_rule_carry := F17, g__law_rule_carry := PySem.W.mg_of X G a17, b__law_rule_carry := b17, a__law_rule := f18, d__law_rule := _, F__law_rule := F18, g__law_rule := PySem.W.mg_of X G a18, b__law_rule := b18, a__law_inner := f19, d__law_inner := _, F__law_inner := F19, g__law_inner := PySem.W.mg_of X G a19, b__law_inner := b19, a__law_one_rule := f20, d__law_one_rule := _, F__law_one_rule := F20, g__law_one_rule := PySem.W.mg_of X G a20, b__law_one_rule := b20, a_twice := f21, d_twice := _, F_twice := F21, g_twice := PySem.W.mg_of X G a21, b_twice := b21, a_once := f22, d_once := _, F_once := F22, g_once := PySem.W.mg_of X G a22, b_once := b22, a_product := f23, d_product := _, F_product := F23, g_product := PySem.W.mg_of X G a23, b_product := b23, a_still := f24, d_still := _, F_still := F24, g_still := PySem.W.mg_of X G a24, b_still := b24, e1_still := q24_1, v1_still := w24_1, b1_still := u24_1, a_still_rule := f25, d_still_rule := _, F_still_rule := F25, g_still_rule := PySem.W.mg_of X G a25, b_still_rule := b25, a_room_from := f26, d_room_from := _, F_room_from := F26, g_room_from := PySem.W.mg_of X G a26, b_room_from := b26, a_shared := f27, d_shared := _, F_shared := F27, g_shared := PySem.W.mg_of X G a27, b_shared := b27, a_part := f28, d_part := _, F_part := F28, g_part := PySem.W.mg_of X G a28, b_part := b28, e1_part := q28_1, v1_part := w28_1, b1_part := u28_1, a_plus := f29, d_plus := _, F_plus := F29, g_plus := PySem.W.mg_of X G a29, b_plus := b29, a_times := f30, d_times := _, F_times := F30, g_times := PySem.W.mg_of X G a30, b_times := b30, a_behind := f31, d_behind := _, F_behind := F31, g_behind := PySem.W.mg_of X G a31, b_behind := b31, a_onward := f32, d_onward := _, F_onward := F32, g_onward := PySem.W.mg_of X G a32, b_onward := b32, a_turncarry := f33, d_turncarry := _, F_turncarry := F33, g_turncarry := PySem.W.mg_of X G a33, b_turncarry := b33, a_turntimes := f34, d_turntimes := _, F_turntimes := F34, g_turntimes := PySem.W.mg_of X G a34, b_turntimes := b34, a_carrytimes := f35, d_carrytimes := _, F_carrytimes := F35, g_carrytimes := PySem.W.mg_of X G a35, b_carrytimes := b35, a_turnpair := f36, d_turnpair := _, F_turnpair := F36, g_turnpair := PySem.W.mg_of X G a36, b_turnpair := b36, a_straightened := f37, d_straightened := _, F_straightened := F37, g_straightened := PySem.W.mg_of X G a37, b_straightened := b37, a_carrypair := f38, d_carrypair := _, F_carrypair := F38, g_carrypair := PySem.W.mg_of X G a38, b_carrypair := b38, a_left := f39, d_left := _, F_left := F39, g_left := PySem.W.mg_of X G a39, b_left := b39, a_right := f40, d_right := _, F_right := F40, g_right := PySem.W.mg_of X G a40, b_right := b40, a_at_top := f41, d_at_top := _, F_at_top := F41, g_at_top := PySem.W.mg_of X G a41, b_at_top := b41, a_one_step := f42, d_one_step := _, F_one_step := F42, g_one_step := PySem.W.mg_of X G a42, b_one_step := b42, a_part_text := f43, d_part_text := _, F_part_text := F43, g_part_text := PySem.W.mg_of X G a43, b_part_text := b43, a_way_text := f44, d_way_text := _, F_way_text := F44, g_way_text := PySem.W.mg_of X G a44, b_way_text := b44, a_write := f45, d_write := _, F_write := F45, g_write := PySem.W.mg_of X G a45, b_write := b45, a_settled := f46, d_settled := _, F_settled := F46, g_settled := PySem.W.mg_of X G a46, b_settled := b46, a__law_refused := f47, d__law_refused := _, F__law_refused := F47, g__law_refused := PySem.W.mg_of X G a47, b__law_refused := b47, a__law_part_text := f48, d__law_part_text := _, F__law_part_text := F48, g__law_part_text := PySem.W.mg_of X G a48, b__law_part_text := b48, a__law_text := f49, d__law_text := _, F__law_text := F49, g__law_text := PySem.W.mg_of X G a49, b__law_text := b49, a__law_bare_tree := f50, d__law_bare_tree := _, F__law_bare_tree := F50, g__law_bare_tree := PySem.W.mg_of X G a50, b__law_bare_tree := b50, a__law_lean_map := f51, d__law_lean_map := _, F__law_lean_map := F51, g__law_lean_map := PySem.W.mg_of X G a51, b__law_lean_map := b51, a__law_unlike_rooms := f52, d__law_unlike_rooms := _, F__law_unlike_rooms := F52, g__law_unlike_rooms := PySem.W.mg_of X G a52, b__law_unlike_rooms := b52, gs := gs, u_BOUND := _, c_BOUND := PySem.W.mg_of X G kc0, r_BOUND := gr0, gd_BOUND := gd0, m_FITTING := _, c_FITTING := PySem.W.mg_of X G kc1, kd_FITTING_0 := ⟨_, _, _, kl1, kq1, kv1_0, rfl⟩, kd_FITTING_1 := ⟨_, _, _, kl1, kq1, kv1_1, rfl⟩, kd_FITTING_2 := ⟨_, _, _, kl1, kq1, kv1_2, rfl⟩, kd_FITTING_3 := ⟨_, _, _, kl1, kq1, kv1_3, rfl⟩, kd_FITTING_4 := ⟨_, _, _, kl1, kq1, kv1_4, rfl⟩, kd_FITTING_5 := ⟨_, _, _, kl1, kq1, kv1_5, rfl⟩, kd_FITTING_6 := ⟨_, _, _, kl1, kq1, kv1_6, rfl⟩, kd_FITTING_7 := ⟨_, _, _, kl1, kq1, kv1_7, rfl⟩, kd_FITTING_8 := ⟨_, _, _, kl1, kq1, kv1_8, rfl⟩, kd_FITTING_9 := ⟨_, _, _, kl1, kq1, kv1_9, rfl⟩, kd_FITTING_10 := ⟨_, _, _, kl1, kq1, kv1_10, rfl⟩, kd_FITTING_11 := ⟨_, _, _, kl1, kq1, kv1_11, rfl⟩, u_FREE := _, c_FREE := PySem.W.mg_of X G kc2, r_FREE := gr2, gd_FREE := gd2, u_NONE := _, c_NONE := PySem.W.mg_of X G kc3, r_NONE := gr3, gd_NONE := gd3, u_ONE := _, c_ONE := PySem.W.mg_of X G kc4, r_ONE := gr4, gd_ONE := gd4, u_RULES := _, c_RULES := PySem.W.mg_of X G kc5, r_RULES := gr5, gd_RULES := gd5, n_abs := PySem.W.mg_none_of X G z0, n_all := PySem.W.mg_none_of X G z1, n_bool := PySem.W.mg_none_of X G z2, n_int := PySem.W.mg_none_of X G z3, n_isinstance := PySem.W.mg_none_of X G z4, n_len := PySem.W.mg_none_of X G z5, n_list := PySem.W.mg_none_of X G z6, n_max := PySem.W.mg_none_of X G z7, n_range := PySem.W.mg_none_of X G z8, n_str := PySem.W.mg_none_of X G z9, n_tuple := PySem.W.mg_none_of X G z10, n_zip := PySem.W.mg_none_of X G z11 }
  exact ⟨_, fun s v => .of_eq rfl, fun base _ _ => ok_law T F53⟩
  ) only [↓qt_eq])
end Law
end U.N
open PySem PySem.W PyProof.Rows
set_option maxHeartbeats 0 in
theorem PySem.Challenge.cw_umbrage_k58_whole_settlings_by_their_pap_holds : PySem.Challenge.rw_umbrage_k58_whole_settlings_by_their_pap.Holds := by
  refine U.head_top ?_
  k_fill
  refine L2.walk_of (l := PySem.Challenge.rw_umbrage_k58_whole_settlings_by_their_pap) (n := 63) (k := 38) (x := "_law_script") (CX := fun _ => L2.CX0) (sp := fun w => U.spP _ U.PLaw) rfl (by decide) rfl ⟨rfl, by decide, by decide⟩ (fun w h Y => PySem.W.kIn_of Y) ?F (fun _ _ a ns hl _ hS => ⟨fun _ => False, [.list (ns.map PyData.int)], .bool true, fun _ z => z.elim, .cons (.lst (U.less_none hS) (U.dpa_of_ints _)) .nil, ⟨ns, rfl, hl, rfl⟩, fun v H' _ d => by cases d; rfl⟩) (fun _ _ _ _ _ h => h)
  case F =>
    intro w mg fa h KX G hmg
    refine' U.N.Law.all_mk KX G hmg ?a0 ?l0 ?c0 ?k0 ?a1 ?l1 ?c1 ?k1 ?a2 ?l2 ?c2 ?k2 ?a3 ?l3 ?c3 ?k3 ?a4 ?l4 ?c4 ?k4 ?a5 ?l5 ?c5 ?k5 ?a6 ?l6 ?c6 ?k6 ?a7 ?l7 ?c7 ?k7 ?a8 ?l8 ?c8 ?k8 ?a9 ?l9 ?c9 ?k9 ?a10 ?l10 ?c10 ?k10 ?a11 ?l11 ?c11 ?k11 ?a12 ?l12 ?c12 ?k12 ?a13 ?l13 ?c13 ?k13 ?a14 ?l14 ?c14 ?k14 ?a15 ?l15 ?c15 ?k15 ?a16 ?l16 ?c16 ?k16 ?a17 ?l17 ?c17 ?k17 ?a18 ?l18 ?c18 ?k18 ?a19 ?l19 ?c19 ?k19 ?a20 ?l20 ?c20 ?k20 ?a21 ?l21 ?c21 ?k21 ?a22 ?l22 ?c22 ?k22 ?a23 ?l23 ?c23 ?k23 ?a24 ?l24 ?c24 ?k24 ?t24 ?a25 ?l25 ?c25 ?k25 ?a26 ?l26 ?c26 ?k26 ?a27 ?l27 ?c27 ?k27 ?a28 ?l28 ?c28 ?k28 ?t28 ?a29 ?l29 ?c29 ?k29 ?a30 ?l30 ?c30 ?k30 ?a31 ?l31 ?c31 ?k31 ?a32 ?l32 ?c32 ?k32 ?a33 ?l33 ?c33 ?k33 ?a34 ?l34 ?c34 ?k34 ?a35 ?l35 ?c35 ?k35 ?a36 ?l36 ?c36 ?k36 ?a37 ?l37 ?c37 ?k37 ?a38 ?l38 ?c38 ?k38 ?a39 ?l39 ?c39 ?k39 ?a40 ?l40 ?c40 ?k40 ?a41 ?l41 ?c41 ?k41 ?a42 ?l42 ?c42 ?k42 ?a43 ?l43 ?c43 ?k43 ?a44 ?l44 ?c44 ?k44 ?a45 ?l45 ?c45 ?k45 ?a46 ?l46 ?c46 ?k46 ?a47 ?l47 ?c47 ?k47 ?a48 ?l48 ?c48 ?k48 ?a49 ?l49 ?c49 ?k49 ?a50 ?l50 ?c50 ?k50 ?a51 ?l51 ?c51 ?k51 ?a52 ?l52 ?c52 ?k52 ?a53 ?l53 ?c53 ?k53 ?y0g ?y0o ?y0m ?y0h ?y0s ?y0x ?y0t ?y0k ?y0i ?y0f ?y0l ?y0c ?y0p ?y0a ?y0b ?y0n_word ?y0r ?y0q ?y0v ?y0d ?y1g ?y1o ?y1m ?y1h ?y1s ?y1x ?y1t ?y1k ?y1i ?y1f ?y1l ?y1c ?y1p ?y1a ?y1b ?y1n_word ?y2g ?y2o ?y2m ?y2h ?y2s ?y2x ?y2t ?y2k ?y2i ?y2f ?y2l ?y2c ?y2p ?y2a ?y2b ?y2n_word ?e0 ?z0 ?z1 ?z2 ?z3 ?z4 ?z5 ?z6 ?z7 ?z8 ?z9 ?z10 ?z11 ?kc0 ?kl0 ?kc1 ?kl1 ?kq1 ?kv1_0 ?kv1_1 ?kv1_2 ?kv1_3 ?kv1_4 ?kv1_5 ?kv1_6 ?kv1_7 ?kv1_8 ?kv1_9 ?kv1_10 ?kv1_11 ?kc2 ?kl2 ?kc3 ?kl3 ?kc4 ?kl4 ?kc5 ?kl5
    (case a0 => k_is); (case l0 => k_is); (case c0 => k_is); (case k0 => k_is); (case a1 => k_is); (case l1 => k_is); (case c1 => k_is); (case k1 => k_is); (case a2 => k_is); (case l2 => k_is); (case c2 => k_is); (case k2 => k_is); (case a3 => k_is); (case l3 => k_is); (case c3 => k_is); (case k3 => k_is); (case a4 => k_is); (case l4 => k_is); (case c4 => k_is); (case k4 => k_is); (case a5 => k_is); (case l5 => k_is); (case c5 => k_is); (case k5 => k_is); (case a6 => k_is); (case l6 => k_is); (case c6 => k_is); (case k6 => k_is); (case a7 => k_is); (case l7 => k_is); (case c7 => k_is); (case k7 => k_is); (case a8 => k_is); (case l8 => k_is); (case c8 => k_is); (case k8 => k_is); (case a9 => k_is); (case l9 => k_is); (case c9 => k_is); (case k9 => k_is); (case a10 => k_is); (case l10 => k_is); (case c10 => k_is); (case k10 => k_is); (case a11 => k_is); (case l11 => k_is); (case c11 => k_is); (case k11 => k_is); (case a12 => k_is); (case l12 => k_is); (case c12 => k_is); (case k12 => k_is); (case a13 => k_is); (case l13 => k_is); (case c13 => k_is); (case k13 => k_is); (case a14 => k_is); (case l14 => k_is); (case c14 => k_is); (case k14 => k_is); (case a15 => k_is); (case l15 => k_is); (case c15 => k_is); (case k15 => k_is); (case a16 => k_is); (case l16 => k_is); (case c16 => k_is); (case k16 => k_is); (case a17 => k_is); (case l17 => k_is); (case c17 => k_is); (case k17 => k_is); (case a18 => k_is); (case l18 => k_is); (case c18 => k_is); (case k18 => k_is); (case a19 => k_is); (case l19 => k_is); (case c19 => k_is); (case k19 => k_is); (case a20 => k_is); (case l20 => k_is); (case c20 => k_is); (case k20 => k_is); (case a21 => k_is); (case l21 => k_is); (case c21 => k_is); (case k21 => k_is); (case a22 => k_is); (case l22 => k_is); (case c22 => k_is); (case k22 => k_is); (case a23 => k_is); (case l23 => k_is); (case c23 => k_is); (case k23 => k_is); (case a24 => k_is); (case l24 => k_is); (case c24 => k_is); (case k24 => k_is); (case t24 => k_is); (case a25 => k_is); (case l25 => k_is); (case c25 => k_is); (case k25 => k_is); (case a26 => k_is); (case l26 => k_is); (case c26 => k_is); (case k26 => k_is); (case a27 => k_is); (case l27 => k_is); (case c27 => k_is); (case k27 => k_is); (case a28 => k_is); (case l28 => k_is); (case c28 => k_is); (case k28 => k_is); (case t28 => k_is); (case a29 => k_is); (case l29 => k_is); (case c29 => k_is); (case k29 => k_is); (case a30 => k_is); (case l30 => k_is); (case c30 => k_is); (case k30 => k_is); (case a31 => k_is); (case l31 => k_is); (case c31 => k_is); (case k31 => k_is); (case a32 => k_is); (case l32 => k_is); (case c32 => k_is); (case k32 => k_is); (case a33 => k_is); (case l33 => k_is); (case c33 => k_is); (case k33 => k_is); (case a34 => k_is); (case l34 => k_is); (case c34 => k_is); (case k34 => k_is); (case a35 => k_is); (case l35 => k_is); (case c35 => k_is); (case k35 => k_is); (case a36 => k_is); (case l36 => k_is); (case c36 => k_is); (case k36 => k_is); (case a37 => k_is); (case l37 => k_is); (case c37 => k_is); (case k37 => k_is); (case a38 => k_is); (case l38 => k_is); (case c38 => k_is); (case k38 => k_is); (case a39 => k_is); (case l39 => k_is); (case c39 => k_is); (case k39 => k_is); (case a40 => k_is); (case l40 => k_is); (case c40 => k_is); (case k40 => k_is); (case a41 => k_is); (case l41 => k_is); (case c41 => k_is); (case k41 => k_is); (case a42 => k_is); (case l42 => k_is); (case c42 => k_is); (case k42 => k_is); (case a43 => k_is); (case l43 => k_is); (case c43 => k_is); (case k43 => k_is); (case a44 => k_is); (case l44 => k_is); (case c44 => k_is); (case k44 => k_is); (case a45 => k_is); (case l45 => k_is); (case c45 => k_is); (case k45 => k_is); (case a46 => k_is); (case l46 => k_is); (case c46 => k_is); (case k46 => k_is); (case a47 => k_is); (case l47 => k_is); (case c47 => k_is); (case k47 => k_is); (case a48 => k_is); (case l48 => k_is); (case c48 => k_is); (case k48 => k_is); (case a49 => k_is); (case l49 => k_is); (case c49 => k_is); (case k49 => k_is); (case a50 => k_is); (case l50 => k_is); (case c50 => k_is); (case k50 => k_is); (case a51 => k_is); (case l51 => k_is); (case c51 => k_is); (case k51 => k_is); (case a52 => k_is); (case l52 => k_is); (case c52 => k_is); (case k52 => k_is); (case a53 => k_is); (case l53 => k_is); (case c53 => k_is); (case k53 => k_is); (case y0g => k_is); (case y0o => kx_is); (case y0m => kx_is); (case y0h => k_is); (case y0s => k_is); (case y0x => k_is); (case y0t => k_is); (case y0k => k_is); (case y0i => k_is); (case y0f => k_is); (case y0l => k_is); (case y0c => k_is); (case y0p => k_is); (case y0a => k_is); (case y0b => k_is); (case y0n_word => k_is); (case y0r => k_is); (case y0q => k_is); (case y0v => k_is); (case y0d => k_is); (case y1g => k_is); (case y1o => kx_is); (case y1m => kx_is); (case y1h => k_is); (case y1s => k_is); (case y1x => k_is); (case y1t => k_is); (case y1k => k_is); (case y1i => k_is); (case y1f => k_is); (case y1l => k_is); (case y1c => k_is); (case y1p => k_is); (case y1a => k_is); (case y1b => k_is); (case y1n_word => k_is); (case y2g => k_is); (case y2o => kx_is); (case y2m => kx_is); (case y2h => k_is); (case y2s => k_is); (case y2x => k_is); (case y2t => k_is); (case y2k => k_is); (case y2i => k_is); (case y2f => k_is); (case y2l => k_is); (case y2c => k_is); (case y2p => k_is); (case y2a => k_is); (case y2b => k_is); (case y2n_word => k_is); (case e0 => k_is); (case z0 => k_is); (case z1 => k_is); (case z2 => k_is); (case z3 => k_is); (case z4 => k_is); (case z5 => k_is); (case z6 => k_is); (case z7 => k_is); (case z8 => k_is); (case z9 => k_is); (case z10 => k_is); (case z11 => k_is); (case kc0 => k_is); (case kl0 => k_is); (case kc1 => k_is); (case kl1 => k_is); (case kq1 => k_keys); (case kv1_0 => k_is); (case kv1_1 => k_is); (case kv1_2 => k_is); (case kv1_3 => k_is); (case kv1_4 => k_is); (case kv1_5 => k_is); (case kv1_6 => k_is); (case kv1_7 => k_is); (case kv1_8 => k_is); (case kv1_9 => k_is); (case kv1_10 => k_is); (case kv1_11 => k_is); (case kc2 => k_is); (case kl2 => k_is); (case kc3 => k_is); (case kl3 => k_is); (case kc4 => k_is); (case kl4 => k_is); (case kc5 => k_is); (case kl5 => k_is)
