import PyProof.Rows.All
import Wide.All
import OpenK.AllK
import Wide.FinOn
import HandS.ForMost
import HandS.IsInst
import HandS.Zip
import HandS.Deep
import HandS.TupAny
import HandS.Style
import HandS.DictComp
import HandS.ListItems
import HandS.Conv
import HandS.Flow
import HandS.SetFor
import HandS.TupLe
import KE.SortData
import PySem.Challenge.RW_sparetrees_k30_whole_fewest_links_put_in
import KE.GoesEnum
import HandS.RepeatKit
import KE.KDictList
import HandS.Sort
set_option Elab.async false
section
set_option autoImplicit false
set_option linter.all false
/-! The plain law, part one: sides, entering links, least numbers put in, lots joined, lacks. Core Lean alone. -/
namespace Ff
abbrev Asc (l : List Int) : Prop := l.Pairwise (fun a b => a < b)

theorem asc_nodup {l : List Int} (h : Asc l) : l.Nodup := h.imp fun h => Int.ne_of_lt h

theorem asc_ext : ∀ {a b : List Int}, Asc a → Asc b → (∀ x, x ∈ a ↔ x ∈ b) → a = b
  | [], [], _, _, _ => rfl
  | [], y :: r, _, _, h => by
    have := (h y).mpr List.mem_cons_self
    cases this
  | x :: l, [], _, _, h => by
    have := (h x).mp List.mem_cons_self
    cases this
  | x :: l, y :: r, ha, hb, h => by
    obtain ⟨ha1, ha2⟩ := List.pairwise_cons.mp ha
    obtain ⟨hb1, hb2⟩ := List.pairwise_cons.mp hb
    have e : x = y := by
      have h1 := (h x).mp List.mem_cons_self
      have h2 := (h y).mpr List.mem_cons_self
      rcases List.mem_cons.mp h1 with e | h1
      · exact e
      · rcases List.mem_cons.mp h2 with e | h2
        · exact e.symm
        · have := ha1 _ h2
          have := hb1 _ h1
          omega
    subst e
    have ih : l = r := asc_ext ha2 hb2 fun z => by
      constructor
      · intro hz
        have := ha1 _ hz
        rcases List.mem_cons.mp ((h z).mp (List.mem_cons_of_mem _ hz)) with e | q
        · omega
        · exact q
      · intro hz
        have := hb1 _ hz
        rcases List.mem_cons.mp ((h z).mpr (List.mem_cons_of_mem _ hz)) with e | q
        · omega
        · exact q
    rw [ih]

/-- places but the root -/
def pls (n : Nat) (r : Int) : List Int := ((List.range n).map fun (i : Nat) => (i : Int)).filter fun p => decide (p ≠ r)

theorem mem_pls {n : Nat} {r x : Int} : x ∈ pls n r ↔ 0 ≤ x ∧ x < n ∧ x ≠ r := by
  unfold pls
  rw [List.mem_filter, List.mem_map]
  constructor
  · rintro ⟨⟨i, hi, rfl⟩, h⟩
    have := List.mem_range.mp hi
    exact ⟨by omega, by omega, of_decide_eq_true h⟩
  · rintro ⟨h1, h2, h3⟩
    exact ⟨⟨x.toNat, List.mem_range.mpr (by omega), by omega⟩, decide_eq_true h3⟩
theorem asc_range (n : Nat) : Asc ((List.range n).map fun (i : Nat) => (i : Int)) := by
  refine List.pairwise_map.mpr ?_
  exact List.pairwise_lt_range.imp fun h => by omega
theorem asc_pls (n : Nat) (r : Int) : Asc (pls n r) := (asc_range n).filter _

structure Side (n : Nat) (r : Int) (S : List Int) : Prop where
  asc : Asc S
  ne : S ≠ []
  sub : ∀ x, x ∈ S → x ∈ pls n r

theorem Side.eq {n : Nat} {r : Int} {S : List Int} (h : Side n r S) : S = (pls n r).filter fun x => decide (x ∈ S) :=
  asc_ext h.asc ((asc_pls n r).filter _) fun x => by
    rw [List.mem_filter]
    exact ⟨fun q => ⟨h.sub x q, decide_eq_true q⟩, fun q => of_decide_eq_true q.2⟩

abbrev Lks := List (Int × Int)
def entP (ls : Lks) (P : Int → Bool) : Nat := (ls.filter fun e => !P e.1 && P e.2).length
def ent (ls : Lks) (S : List Int) : Nat := entP ls fun x => decide (x ∈ S)
theorem ent_congr {ls : Lks} {S T : List Int} (h : ∀ x, x ∈ S ↔ x ∈ T) : ent ls S = ent ls T := by
  unfold ent
  have e : (fun x : Int => decide (x ∈ S)) = fun x => decide (x ∈ T) := funext fun x => decide_eq_decide.mpr (h x)
  rw [e]
theorem entP_cons (e : Int × Int) (ls : Lks) (P : Int → Bool) : entP (e :: ls) P = (if (!P e.1 && P e.2) = true then 1 else 0) + entP ls P := by
  unfold entP
  rw [List.filter_cons]
  split
  · rw [List.length_cons]; omega
  · omega
theorem entP_app (a b : Lks) (P : Int → Bool) : entP (a ++ b) P = entP a P + entP b P := by
  unfold entP
  rw [List.filter_append, List.length_append]
theorem ent_app (a b : Lks) (S : List Int) : ent (a ++ b) S = ent a S + ent b S := entP_app a b _
theorem dec_or {p q s : Prop} [Decidable p] [Decidable q] [Decidable s] (h : p ↔ q ∨ s) : decide p = (decide q || decide s) := by
  by_cases h1 : q <;> by_cases h2 : s <;> simp_all
theorem dec_and {p q s : Prop} [Decidable p] [Decidable q] [Decidable s] (h : p ↔ q ∧ s) : decide p = (decide q && decide s) := by
  by_cases h1 : q <;> by_cases h2 : s <;> simp_all
/-- two sides: what both have and what one has are entered by no more -/
theorem entP_sub (P Q : Int → Bool) : ∀ ls : Lks, entP ls (fun x => P x || Q x) + entP ls (fun x => P x && Q x) ≤ entP ls P + entP ls Q
  | [] => Nat.le_refl _
  | e :: ls => by
    have ih := entP_sub P Q ls
    rw [entP_cons, entP_cons, entP_cons, entP_cons]
    cases h1 : P e.1 <;> cases h2 : P e.2 <;> cases h3 : Q e.1 <;> cases h4 : Q e.2 <;> simp [h1, h2, h3, h4] <;> omega
theorem ent_sub {ls : Lks} {A B C D : List Int} (hc : ∀ x, x ∈ C ↔ x ∈ A ∨ x ∈ B) (hd : ∀ x, x ∈ D ↔ x ∈ A ∧ x ∈ B) : ent ls C + ent ls D ≤ ent ls A + ent ls B := by
  have h := entP_sub (fun x => decide (x ∈ A)) (fun x => decide (x ∈ B)) ls
  have e1 : (fun x : Int => decide (x ∈ C)) = fun x => (decide (x ∈ A) || decide (x ∈ B)) := funext fun x => by
    exact dec_or (hc x)
  have e2 : (fun x : Int => decide (x ∈ D)) = fun x => (decide (x ∈ A) && decide (x ∈ B)) := funext fun x => by
    exact dec_and (hd x)
  unfold ent
  rw [e1, e2]
  exact h

/-- what is put in on a side -/
def sm (f : Int → Int) (S : List Int) : Int := (S.map f).sum
theorem sm_nil (f : Int → Int) : sm f [] = 0 := rfl
theorem sm_cons (f : Int → Int) (x : Int) (S : List Int) : sm f (x :: S) = f x + sm f S := by
  unfold sm
  rw [List.map_cons, List.sum_cons]
theorem sm_app (f : Int → Int) : ∀ A B : List Int, sm f (A ++ B) = sm f A + sm f B
  | [], B => by rw [List.nil_append, sm_nil]; omega
  | x :: A, B => by rw [List.cons_append, sm_cons, sm_cons, sm_app f A B]; omega
theorem sm_mod (f : Int → Int) (P Q : Int → Bool) : ∀ ps : List Int, sm f (ps.filter fun x => P x || Q x) + sm f (ps.filter fun x => P x && Q x) = sm f (ps.filter P) + sm f (ps.filter Q)
  | [] => rfl
  | x :: ps => by
    have ih := sm_mod f P Q ps
    rw [List.filter_cons, List.filter_cons, List.filter_cons, List.filter_cons]
    cases h1 : P x <;> cases h2 : Q x <;> simp [sm_cons] <;> omega
theorem sm_sides {n : Nat} {r : Int} {f : Int → Int} {A B C D : List Int} (a : Side n r A) (b : Side n r B) (c : Side n r C) (d : Side n r D) (hc : ∀ x, x ∈ C ↔ x ∈ A ∨ x ∈ B) (hd : ∀ x, x ∈ D ↔ x ∈ A ∧ x ∈ B) :
    sm f C + sm f D = sm f A + sm f B := by
  have h := sm_mod f (fun x => decide (x ∈ A)) (fun x => decide (x ∈ B)) (pls n r)
  have e1 : (fun x : Int => decide (x ∈ C)) = fun x => (decide (x ∈ A) || decide (x ∈ B)) := funext fun x => by
    exact dec_or (hc x)
  have e2 : (fun x : Int => decide (x ∈ D)) = fun x => (decide (x ∈ A) && decide (x ∈ B)) := funext fun x => by
    exact dec_and (hd x)
  rw [← e1, ← e2, ← c.eq, ← d.eq, ← a.eq, ← b.eq] at h
  exact h
theorem sm_mono {f g : Int → Int} : ∀ {S : List Int}, (∀ x, x ∈ S → f x ≤ g x) → sm f S ≤ sm g S
  | [], _ => Int.le_refl _
  | x :: S, h => by
    rw [sm_cons, sm_cons]
    have h1 := h x List.mem_cons_self
    have h2 := sm_mono (S := S) fun y hy => h y (List.mem_cons_of_mem _ hy)
    omega
theorem sm_congr {f g : Int → Int} {S : List Int} (h : ∀ x, x ∈ S → f x = g x) : sm f S = sm g S := by
  unfold sm
  rw [List.map_congr_left h]
theorem sm_nn {f : Int → Int} {S : List Int} (h : ∀ x, x ∈ S → 0 ≤ f x) : 0 ≤ sm f S := by
  have := sm_mono (f := fun _ => 0) (g := f) h
  have z : ∀ l : List Int, sm (fun _ => 0) l = 0 := fun l => by
    induction l with
    | nil => rfl
    | cons x l ih => rw [sm_cons, ih]; rfl
  rw [z] at this
  exact this
theorem sm_ge {f : Int → Int} : ∀ {S : List Int} {p : Int}, (∀ x, x ∈ S → 0 ≤ f x) → p ∈ S → f p ≤ sm f S
  | x :: S, p, h, hp => by
    rw [sm_cons]
    have h2 : 0 ≤ sm f S := sm_nn fun y hy => h y (List.mem_cons_of_mem _ hy)
    rcases List.mem_cons.mp hp with e | hp
    · subst e; omega
    · have h1 := h x List.mem_cons_self
      have := sm_ge (fun y hy => h y (List.mem_cons_of_mem _ hy)) hp
      omega

/-- one place's number turned -/
def upf (f : Int → Int) (p v : Int) : Int → Int := fun q => if q = p then v else f q
theorem upf_same (f : Int → Int) (p v : Int) : upf f p v p = v := if_pos rfl
theorem upf_ne {f : Int → Int} {p v q : Int} (h : q ≠ p) : upf f p v q = f q := if_neg h
theorem sm_upf_out {f : Int → Int} {p v : Int} {S : List Int} (h : p ∉ S) : sm (upf f p v) S = sm f S := sm_congr fun x hx => upf_ne fun e => h (e ▸ hx)
theorem sm_upf {f : Int → Int} {p v : Int} : ∀ {S : List Int}, S.Nodup → p ∈ S → sm (upf f p v) S = sm f S - f p + v
  | x :: S, hn, h => by
    obtain ⟨h1, h2⟩ := List.nodup_cons.mp hn
    rw [sm_cons, sm_cons]
    rcases List.mem_cons.mp h with e | h
    · subst e
      rw [upf_same, sm_upf_out h1]; omega
    · have ne : x ≠ p := fun e => h1 (e ▸ h)
      rw [upf_ne ne, sm_upf h2 h]; omega

def lackI (m : Int) (ls : Lks) (S : List Int) : Int := m - (ent ls S : Int)
def holdB (sd : List (List Int)) (ls : Lks) (m : Int) (f : Int → Int) : Bool := sd.all fun S => !decide (sm f S < lackI m ls S)
theorem holdB_iff {sd : List (List Int)} {ls : Lks} {m : Int} {f : Int → Int} : holdB sd ls m f = true ↔ ∀ S, S ∈ sd → lackI m ls S ≤ sm f S := by
  unfold holdB
  rw [List.all_eq_true]
  constructor
  · intro h S hS
    have := h S hS
    simp only [Bool.not_eq_true', decide_eq_false_iff_not] at this
    omega
  · intro h S hS
    have := h S hS
    simp only [Bool.not_eq_true', decide_eq_false_iff_not]
    omega
theorem holdB_mono {sd : List (List Int)} {ls : Lks} {m : Int} {f g : Int → Int} (h : ∀ x, f x ≤ g x) (hf : holdB sd ls m f = true) : holdB sd ls m g = true :=
  holdB_iff.mpr fun S hS => Int.le_trans (holdB_iff.mp hf S hS) (sm_mono fun x _ => h x)

/-- one place's turn: lowered while it may be -/
def lower (hb : (Int → Int) → Bool) (p : Int) : Nat → (Int → Int) → (Int → Int)
  | 0, f => f
  | k + 1, f => if 0 < f p ∧ hb (upf f p (f p - 1)) = true then lower hb p k (upf f p (f p - 1)) else f
theorem upf_upf (f : Int → Int) (p u v : Int) : upf (upf f p u) p v = upf f p v := funext fun q => by
  unfold upf
  split <;> rfl
structure Lowered (hb : (Int → Int) → Bool) (p : Int) (f g : Int → Int) : Prop where
  hold : hb g = true
  other : ∀ q, q ≠ p → g q = f q
  nn : 0 ≤ g p
  le : g p ≤ f p
  stop : ¬ (0 < g p ∧ hb (upf g p (g p - 1)) = true)
theorem lower_ok {hb : (Int → Int) → Bool} {p : Int} : ∀ (k : Nat) (f : Int → Int), f p = (k : Int) → hb f = true → Lowered hb p f (lower hb p k f)
  | 0, f, hk, hf => ⟨hf, fun _ _ => rfl, by show 0 ≤ f p; omega, Int.le_refl _, fun h => by
      have h1 : 0 < f p := h.1
      omega⟩
  | k + 1, f, hk, hf => by
    unfold lower
    by_cases h : 0 < f p ∧ hb (upf f p (f p - 1)) = true
    · rw [if_pos h]
      have e : upf f p (f p - 1) p = (k : Int) := by rw [upf_same]; omega
      have ih := lower_ok k (upf f p (f p - 1)) e h.2
      exact ⟨ih.hold, fun q hq => by rw [ih.other q hq, upf_ne hq], ih.nn, by have := ih.le; rw [upf_same] at this; omega, ih.stop⟩
    · rw [if_neg h]
      exact ⟨hf, fun _ _ => rfl, by omega, Int.le_refl _, h⟩
def least (hb : (Int → Int) → Bool) (m : Int) (ps : List Int) : Int → Int := ps.foldl (fun f p => lower hb p (f p).toNat f) fun _ => m
structure LeastAt (hb : (Int → Int) → Bool) (m : Int) (done : List Int) (f : Int → Int) : Prop where
  hold : hb f = true
  nn : ∀ q, 0 ≤ f q
  le : ∀ q, f q ≤ m
  stop : ∀ p, p ∈ done → ¬ (0 < f p ∧ hb (upf f p (f p - 1)) = true)
theorem LeastAt.start {hb : (Int → Int) → Bool} {m : Int} (h0 : 0 ≤ m) (hh : hb (fun _ => m) = true) : LeastAt hb m [] fun _ => m :=
  ⟨hh, fun _ => h0, fun _ => Int.le_refl _, fun _ h => nomatch h⟩
theorem LeastAt.step {hb : (Int → Int) → Bool} {m : Int} {done : List Int} {f : Int → Int} {p : Int} (hmono : ∀ f g : Int → Int, (∀ x, f x ≤ g x) → hb f = true → hb g = true) (h : LeastAt hb m done f) (hp : p ∉ done) :
    LeastAt hb m (done ++ [p]) (lower hb p (f p).toNat f) := by
  have L := lower_ok (hb := hb) (p := p) (f p).toNat f (by have := h.nn p; omega) h.hold
  have le : ∀ q, lower hb p (f p).toNat f q ≤ f q := fun q => by
    by_cases e : q = p
    · subst e; exact L.le
    · rw [L.other q e]; exact Int.le_refl _
  refine ⟨L.hold, fun q => ?_, fun q => Int.le_trans (le q) (h.le q), fun q hq => ?_⟩
  · by_cases e : q = p
    · subst e; exact L.nn
    · rw [L.other q e]; exact h.nn q
  · rcases List.mem_append.mp hq with hq | hq
    · have e : q ≠ p := fun e => hp (e ▸ hq)
      rintro ⟨h1, h2⟩
      rw [L.other q e] at h1 h2
      refine h.stop q hq ⟨h1, hmono _ _ (fun x => ?_) h2⟩
      by_cases ex : x = q
      · subst ex; rw [upf_same, upf_same]; exact Int.le_refl _
      · rw [upf_ne ex, upf_ne ex]; exact le x
    · have e : q = p := by simpa using hq
      subst e
      exact L.stop
theorem least_take {hb : (Int → Int) → Bool} {m : Int} {ps : List Int} {i : Nat} {p : Int} (h : ps[i]? = some p) :
    least hb m (ps.take (i + 1)) = lower hb p (least hb m (ps.take i) p).toNat (least hb m (ps.take i)) := by
  unfold least
  rw [List.take_add_one, h, Option.toList_some, List.foldl_append]
  rfl
theorem least_at {hb : (Int → Int) → Bool} {m : Int} (h0 : 0 ≤ m) (hh : hb (fun _ => m) = true) (hmono : ∀ f g : Int → Int, (∀ x, f x ≤ g x) → hb f = true → hb g = true) {ps : List Int} (hn : ps.Nodup) :
    ∀ i, i ≤ ps.length → LeastAt hb m (ps.take i) (least hb m (ps.take i))
  | 0, _ => by rw [List.take_zero]; exact .start h0 hh
  | i + 1, hi => by
    have hlt : i < ps.length := hi
    have e : ps[i]? = some ps[i] := List.getElem?_eq_getElem hlt
    rw [least_take e]
    have et : ps.take (i + 1) = ps.take i ++ [ps[i]] := by rw [List.take_add_one, e, Option.toList_some]
    rw [et]
    refine (least_at h0 hh hmono hn i (Nat.le_of_lt hlt)).step hmono fun hm => ?_
    rw [← List.take_append_drop i ps] at hn
    obtain ⟨_, _, d⟩ := List.nodup_append.mp hn
    refine d _ hm _ ?_ rfl
    rw [List.drop_eq_getElem_cons hlt]
    exact List.mem_cons_self
/-! ### the tight sides -/
section
variable {n : Nat} {r : Int} {ls : Lks} {m : Int} {sd : List (List Int)} {x : Int → Int}
structure Tight (n : Nat) (r : Int) (ls : Lks) (m : Int) (x : Int → Int) (S : List Int) : Prop where
  side : Side n r S
  eq : sm x S = lackI m ls S
theorem Tight.union (hold : ∀ S, Side n r S → lackI m ls S ≤ sm x S) {A B C : List Int} (a : Tight n r ls m x A) (b : Tight n r ls m x B) (hp : ∃ p, p ∈ A ∧ p ∈ B) (hc : Asc C) (hm : ∀ q, q ∈ C ↔ q ∈ A ∨ q ∈ B) : Tight n r ls m x C := by
  obtain ⟨p, p1, p2⟩ := hp
  have c : Side n r C := ⟨hc, List.ne_nil_of_mem ((hm p).mpr (.inl p1)), fun q hq => ((hm q).mp hq).elim (a.side.sub q) (b.side.sub q)⟩
  have hd : ∀ q, q ∈ (pls n r).filter (fun q => decide (q ∈ A) && decide (q ∈ B)) ↔ q ∈ A ∧ q ∈ B := fun q => by
    rw [List.mem_filter, Bool.and_eq_true, decide_eq_true_eq, decide_eq_true_eq]
    exact ⟨fun h => h.2, fun h => ⟨a.side.sub q h.1, h⟩⟩
  have d : Side n r ((pls n r).filter fun q => decide (q ∈ A) && decide (q ∈ B)) :=
    ⟨(asc_pls n r).filter _, List.ne_nil_of_mem ((hd p).mpr ⟨p1, p2⟩), fun q hq => a.side.sub q ((hd q).mp hq).1⟩
  have s1 := sm_sides (f := x) a.side b.side c d hm hd
  have s2 := ent_sub (ls := ls) hm hd
  have h1 := hold _ c
  have h2 := hold _ d
  have h3 := a.eq
  have h4 := b.eq
  unfold lackI at *
  exact ⟨c, by unfold lackI; omega⟩
/-- what the least numbers are: each side has enough, each place with a number lies on a tight side -/
structure Fit (n : Nat) (r : Int) (ls : Lks) (m : Int) (x : Int → Int) : Prop where
  hold : ∀ S, Side n r S → lackI m ls S ≤ sm x S
  nn : ∀ q, 0 ≤ x q
  le : ∀ q, x q ≤ m
  tight : ∀ p, p ∈ pls n r → 0 < x p → ∃ S, p ∈ S ∧ Tight n r ls m x S
theorem fit_least (h0 : 0 ≤ m) (hsd : ∀ S, S ∈ sd ↔ Side n r S) : Fit n r ls m (least (holdB sd ls m) m (pls n r)) := by
  have hh : holdB sd ls m (fun _ => m) = true := holdB_iff.mpr fun S hS => by
    have s := (hsd S).mp hS
    obtain ⟨p, hp⟩ := List.exists_mem_of_ne_nil S s.ne
    have := sm_ge (f := fun _ => m) (S := S) (fun _ _ => h0) hp
    unfold lackI
    omega
  have L := least_at (hb := holdB sd ls m) h0 hh (fun f g => holdB_mono) (asc_nodup (asc_pls n r)) (pls n r).length (Nat.le_refl _)
  rw [List.take_length] at L
  have hold := holdB_iff.mp L.hold
  refine ⟨fun S hS => hold S ((hsd S).mpr hS), L.nn, L.le, fun p hp h => ?_⟩
  have st := L.stop p hp
  have nh : ¬ holdB sd ls m (upf (least (holdB sd ls m) m (pls n r)) p (least (holdB sd ls m) m (pls n r) p - 1)) = true := fun q => st ⟨h, q⟩
  rw [holdB_iff] at nh
  have ⟨S, hS⟩ : ∃ S, ¬ (S ∈ sd → lackI m ls S ≤ sm (upf (least (holdB sd ls m) m (pls n r)) p (least (holdB sd ls m) m (pls n r) p - 1)) S) := Classical.not_forall.mp nh
  have ⟨hS1, hS2⟩ := Classical.not_imp.mp hS
  have s := (hsd S).mp hS1
  have h1 := hold S hS1
  by_cases hpS : p ∈ S
  · rw [sm_upf (asc_nodup s.asc) hpS] at hS2
    exact ⟨S, hpS, s, by omega⟩
  · rw [sm_upf_out hpS] at hS2
    exact absurd h1 hS2
end

/-! ### lots put together -/
def insU (x : Int) : List Int → List Int
  | [] => [x]
  | y :: l => if x < y then x :: y :: l else if x = y then y :: l else y :: insU x l
theorem mem_insU {x z : Int} : ∀ {l : List Int}, z ∈ insU x l ↔ z = x ∨ z ∈ l
  | [] => by simp [insU]
  | y :: l => by
    unfold insU
    split
    · simp
    · split
      · rename_i h; subst h; simp
      · rw [List.mem_cons, mem_insU (l := l), List.mem_cons]
        constructor
        · rintro (h | h | h)
          · exact .inr (.inl h)
          · exact .inl h
          · exact .inr (.inr h)
        · rintro (h | h | h)
          · exact .inr (.inl h)
          · exact .inl h
          · exact .inr (.inr h)
theorem asc_insU {x : Int} : ∀ {l : List Int}, Asc l → Asc (insU x l)
  | [], _ => List.pairwise_singleton _ _
  | y :: l, h => by
    obtain ⟨h1, h2⟩ := List.pairwise_cons.mp h
    unfold insU
    split
    · rename_i hlt
      refine List.pairwise_cons.mpr ⟨fun z hz => ?_, h⟩
      rcases List.mem_cons.mp hz with e | hz
      · omega
      · have := h1 z hz; omega
    · split
      · exact h
      · refine List.pairwise_cons.mpr ⟨fun z hz => ?_, asc_insU h2⟩
        rcases mem_insU.mp hz with e | hz
        · omega
        · exact h1 z hz
def sortU (l : List Int) : List Int := l.foldr insU []
theorem mem_sortU {z : Int} : ∀ {l : List Int}, z ∈ sortU l ↔ z ∈ l
  | [] => Iff.rfl
  | x :: l => by
    show z ∈ insU x (sortU l) ↔ _
    rw [mem_insU, mem_sortU (l := l), List.mem_cons]
theorem asc_sortU : ∀ (l : List Int), Asc (sortU l)
  | [] => List.Pairwise.nil
  | x :: l => asc_insU (asc_sortU l)
def touches (lot one : List Int) : Bool := lot.any fun p => decide (p ∈ one)
theorem touches_iff {lot one : List Int} : touches lot one = true ↔ ∃ p, p ∈ lot ∧ p ∈ one := by
  unfold touches
  rw [List.any_eq_true]
  exact ⟨fun ⟨p, h1, h2⟩ => ⟨p, h1, of_decide_eq_true h2⟩, fun ⟨p, h1, h2⟩ => ⟨p, h1, decide_eq_true h2⟩⟩
abbrev Apart (L : List (List Int)) : Prop := L.Pairwise fun A B => ∀ p, p ∈ A → p ∈ B → False
def joinStep (found : List (List Int)) (lot : List Int) : List (List Int) :=
  found.filter (fun one => !touches lot one) ++ [sortU (lot ++ (found.filter fun one => touches lot one).flatten)]
def joined (lots : List (List Int)) : List (List Int) := lots.foldl joinStep []
theorem joined_take {lots : List (List Int)} {i : Nat} {S : List Int} (h : lots[i]? = some S) : joined (lots.take (i + 1)) = joinStep (joined (lots.take i)) S := by
  unfold joined
  rw [List.take_add_one, h, Option.toList_some, List.foldl_append]
  rfl
structure Joins (G : List Int → Prop) (done found : List (List Int)) : Prop where
  good : ∀ S, S ∈ found → G S
  apart : Apart found
  cover : ∀ S, S ∈ done → ∀ p, p ∈ S → ∃ T, T ∈ found ∧ p ∈ T
/-- one lot with those that it touches -/
theorem good_join {G : List Int → Prop} (hu : ∀ A B C, G A → G B → (∃ p, p ∈ A ∧ p ∈ B) → Asc C → (∀ q, q ∈ C ↔ q ∈ A ∨ q ∈ B) → G C) {lot : List Int} :
    ∀ (L : List (List Int)) (A : List Int), G A → (∀ q, q ∈ lot → q ∈ A) → (∀ S, S ∈ L → G S ∧ touches lot S = true) → ∀ C, Asc C → (∀ q, q ∈ C ↔ q ∈ A ∨ q ∈ L.flatten) → (L = [] → C = A) → G C
  | [], A, hA, _, _, C, _, _, h => by rw [h rfl]; exact hA
  | S :: L, A, hA, hlot, hL, C, hC, hm, _ => by
    obtain ⟨gS, tS⟩ := hL S List.mem_cons_self
    obtain ⟨p, p1, p2⟩ := touches_iff.mp tS
    have g1 : G (sortU (A ++ S)) := hu A S _ hA gS ⟨p, hlot p p1, p2⟩ (asc_sortU _) fun q => by rw [mem_sortU, List.mem_append]
    refine good_join hu L (sortU (A ++ S)) g1 (fun q hq => mem_sortU.mpr (List.mem_append_left _ (hlot q hq))) (fun T hT => hL T (List.mem_cons_of_mem _ hT)) C hC (fun q => ?_) fun e => ?_
    · rw [hm q, mem_sortU, List.mem_append, List.flatten_cons, List.mem_append, or_assoc]
    · subst e
      exact asc_ext hC (asc_sortU _) fun q => by rw [hm q, mem_sortU, List.mem_append]; simp
theorem Joins.step {G : List Int → Prop} (hu : ∀ A B C, G A → G B → (∃ p, p ∈ A ∧ p ∈ B) → Asc C → (∀ q, q ∈ C ↔ q ∈ A ∨ q ∈ B) → G C) {done found : List (List Int)} {lot : List Int} (h : Joins G done found) (hl : G lot) (ha : Asc lot) :
    Joins G (done ++ [lot]) (joinStep found lot) := by
  have hmem : ∀ q, q ∈ sortU (lot ++ (found.filter fun one => touches lot one).flatten) ↔ q ∈ lot ∨ q ∈ (found.filter fun one => touches lot one).flatten := fun q => by
    rw [mem_sortU, List.mem_append]
  refine ⟨fun S hS => ?_, ?_, fun S hS p hp => ?_⟩
  · rcases List.mem_append.mp hS with hS | hS
    · exact h.good S (List.mem_filter.mp hS).1
    · rw [List.mem_singleton.mp hS]
      refine good_join hu (lot := lot) (found.filter fun one => touches lot one) lot hl (fun _ z => z) (fun T hT => ?_) _ (asc_sortU _) hmem fun e => ?_
      · obtain ⟨h1, h2⟩ := List.mem_filter.mp hT
        exact ⟨h.good T h1, h2⟩
      · exact asc_ext (asc_sortU _) ha fun q => by rw [hmem q, e]; simp
  · unfold joinStep
    refine List.pairwise_append.mpr ⟨h.apart.filter _, List.pairwise_singleton _ _, fun A hA B hB p pA pB => ?_⟩
    obtain ⟨hA1, hA2⟩ := List.mem_filter.mp hA
    rw [List.mem_singleton.mp hB, hmem p] at pB
    rcases pB with pB | pB
    · rw [touches_iff.mpr ⟨p, pB, pA⟩] at hA2
      cases hA2
    · obtain ⟨T, hT, pT⟩ := List.mem_flatten.mp pB
      obtain ⟨hT1, hT2⟩ := List.mem_filter.mp hT
      by_cases eq : A = T
      · subst eq
        simp [hT2] at hA2
      · rcases List.mem_iff_getElem.mp hA1 with ⟨i, hi, ei⟩
        rcases List.mem_iff_getElem.mp hT1 with ⟨j, hj, ej⟩
        have pw := List.pairwise_iff_getElem.mp h.apart
        rcases Nat.lt_trichotomy i j with q | q | q
        · exact pw i j hi hj q p (ei ▸ pA) (ej ▸ pT)
        · subst q
          exact eq (ei.symm.trans ej)
        · exact pw j i hj hi q p (ej ▸ pT) (ei ▸ pA)
  · unfold joinStep
    have old : ∀ T, T ∈ found → p ∈ T → ∃ T, T ∈ found.filter (fun one => !touches lot one) ++ [sortU (lot ++ (found.filter fun one => touches lot one).flatten)] ∧ p ∈ T := fun T hT pT => by
      by_cases ht : touches lot T = true
      · exact ⟨_, List.mem_append_right _ List.mem_cons_self, (hmem p).mpr (.inr (List.mem_flatten.mpr ⟨T, List.mem_filter.mpr ⟨hT, ht⟩, pT⟩))⟩
      · exact ⟨T, List.mem_append_left _ (List.mem_filter.mpr ⟨hT, by simpa using ht⟩), pT⟩
    rcases List.mem_append.mp hS with hS | hS
    · obtain ⟨T, hT, pT⟩ := h.cover S hS p hp
      exact old T hT pT
    · have e : S = lot := by simpa using hS
      subst e
      exact ⟨_, List.mem_append_right _ List.mem_cons_self, (hmem p).mpr (.inl hp)⟩
theorem joins_joined {G : List Int → Prop} (hu : ∀ A B C, G A → G B → (∃ p, p ∈ A ∧ p ∈ B) → Asc C → (∀ q, q ∈ C ↔ q ∈ A ∨ q ∈ B) → G C) {lots : List (List Int)} (hg : ∀ S, S ∈ lots → G S ∧ Asc S) :
    ∀ i, i ≤ lots.length → Joins G (lots.take i) (joined (lots.take i))
  | 0, _ => by
    rw [List.take_zero]
    exact ⟨(fun _ h => nomatch h), List.Pairwise.nil, (fun _ h => nomatch h)⟩
  | i + 1, hi => by
    have hlt : i < lots.length := hi
    have e : lots[i]? = some lots[i] := List.getElem?_eq_getElem hlt
    rw [joined_take e]
    have et : lots.take (i + 1) = lots.take i ++ [lots[i]] := by rw [List.take_add_one, e, Option.toList_some]
    rw [et]
    obtain ⟨g1, g2⟩ := hg _ (List.getElem_mem hlt)
    exact (joins_joined hu hg i (Nat.le_of_lt hlt)).step hu g1 g2
/-- a side within another -/
theorem sm_split (f : Int → Int) (P : Int → Bool) : ∀ l : List Int, sm f l = sm f (l.filter P) + sm f (l.filter fun q => !P q)
  | [] => rfl
  | p :: l => by
    have ih := sm_split f P l
    rw [sm_cons, List.filter_cons, List.filter_cons]
    cases h : P p <;> simp [sm_cons] <;> omega
theorem wlog1 {n : Nat} {r : Int} {x : Int → Int} {A C : List Int} (a : Side n r A) (c : Side n r C) (h : ∀ q, q ∈ A → q ∈ C) : sm x C = sm x A + sm x (C.filter fun q => !decide (q ∈ A)) := by
  rw [sm_split x (fun q => decide (q ∈ A)) C]
  have e : C.filter (fun q => decide (q ∈ A)) = A := asc_ext (c.asc.filter _) a.asc fun q => by
    rw [List.mem_filter, decide_eq_true_eq]
    exact ⟨fun z => z.2, fun z => ⟨h q z, z⟩⟩
  rw [e]
/-! ### sums over lots that lie apart -/
def wsum (g : List Int → Int) (L : List (List Int)) : Int := (L.map g).sum
theorem wsum_nil (g : List Int → Int) : wsum g [] = 0 := rfl
theorem wsum_cons (g : List Int → Int) (S : List Int) (L : List (List Int)) : wsum g (S :: L) = g S + wsum g L := by
  unfold wsum
  rw [List.map_cons, List.sum_cons]
theorem wsum_perm {g : List Int → Int} {A B : List (List Int)} (h : A.Perm B) : wsum g A = wsum g B := by
  induction h with
  | nil => rfl
  | cons x _ ih => rw [wsum_cons, wsum_cons, ih]
  | swap x y l => rw [wsum_cons, wsum_cons, wsum_cons, wsum_cons]; omega
  | trans _ _ h1 h2 => rw [h1, h2]
theorem wsum_le {g f : List Int → Int} : ∀ {L : List (List Int)}, (∀ S, S ∈ L → g S ≤ f S) → wsum g L ≤ wsum f L
  | [], _ => Int.le_refl _
  | S :: L, h => by
    rw [wsum_cons, wsum_cons]
    have h1 := h S List.mem_cons_self
    have h2 := wsum_le (L := L) fun T hT => h T (List.mem_cons_of_mem _ hT)
    omega
theorem wsum_congr {g f : List Int → Int} {L : List (List Int)} (h : ∀ S, S ∈ L → g S = f S) : wsum g L = wsum f L := by
  unfold wsum
  rw [List.map_congr_left h]
/-- in how many of some lots a place is -/
def cov (L : List (List Int)) (p : Int) : Int := ((L.filter fun S => decide (p ∈ S)).length : Int)
theorem cov_cons (S : List Int) (L : List (List Int)) (p : Int) : cov (S :: L) p = (if p ∈ S then 1 else 0) + cov L p := by
  unfold cov
  rw [List.filter_cons]
  by_cases h : p ∈ S
  · rw [if_pos (decide_eq_true h), if_pos h, List.length_cons]; omega
  · rw [if_neg (by simpa using h), if_neg h]; omega
theorem sm_ite (x : Int → Int) (S : List Int) : ∀ ps : List Int, sm x (ps.filter fun q => decide (q ∈ S)) = sm (fun p => (if p ∈ S then 1 else 0) * x p) ps
  | [] => rfl
  | p :: ps => by
    have ih := sm_ite x S ps
    rw [List.filter_cons, sm_cons]
    by_cases h : p ∈ S
    · rw [if_pos (decide_eq_true h), sm_cons, ih, if_pos h]; omega
    · rw [if_neg (by simpa using h), ih, if_neg h]; omega
theorem sm_add (f g : Int → Int) : ∀ ps : List Int, sm (fun p => f p + g p) ps = sm f ps + sm g ps
  | [] => rfl
  | p :: ps => by rw [sm_cons, sm_cons, sm_cons, sm_add f g ps]; omega
theorem wsum_cov {n : Nat} {r : Int} (x : Int → Int) : ∀ {L : List (List Int)}, (∀ S, S ∈ L → Side n r S) → wsum (sm x) L = sm (fun p => cov L p * x p) (pls n r)
  | [], _ => by
    rw [wsum_nil]
    have e : ∀ l : List Int, sm (fun p => cov [] p * x p) l = 0 := fun l => by
      induction l with
      | nil => rfl
      | cons p l ih => rw [sm_cons, ih]; show (0 : Int) * x p + 0 = 0; omega
    exact (e _).symm
  | S :: L, h => by
    have ih := wsum_cov x (L := L) fun T hT => h T (List.mem_cons_of_mem _ hT)
    have s := (h S List.mem_cons_self).eq
    rw [wsum_cons, ih]
    have e : sm x S = sm (fun p => (if p ∈ S then 1 else 0) * x p) (pls n r) := by
      rw [← sm_ite, ← s]
    rw [e, ← sm_add]
    refine sm_congr fun p _ => ?_
    rw [cov_cons, Int.add_mul]
theorem cov_le {p : Int} : ∀ {L : List (List Int)}, Apart L → cov L p ≤ 1
  | [], _ => by show (0 : Int) ≤ 1; decide
  | S :: L, h => by
    obtain ⟨h1, h2⟩ := List.pairwise_cons.mp h
    rw [cov_cons]
    by_cases hp : p ∈ S
    · have z : cov L p = 0 := by
        unfold cov
        have e : L.filter (fun S => decide (p ∈ S)) = [] := List.filter_eq_nil_iff.mpr fun T hT q => h1 T hT p hp (of_decide_eq_true q)
        rw [e]; rfl
      rw [if_pos hp, z]; decide
    · rw [if_neg hp]
      have := cov_le (p := p) h2
      omega
theorem cov_nn (L : List (List Int)) (p : Int) : 0 ≤ cov L p := Int.natCast_nonneg _
theorem cov_pos {p : Int} {L : List (List Int)} {S : List Int} (h : S ∈ L) (hp : p ∈ S) : 1 ≤ cov L p := by
  unfold cov
  have : 0 < (L.filter fun S => decide (p ∈ S)).length := List.length_pos_of_mem (List.mem_filter.mpr ⟨h, decide_eq_true hp⟩)
  omega
section
variable {n : Nat} {r : Int} {ls : Lks} {m : Int} {x : Int → Int}
/-- no lack weighs more -/
theorem Fit.weight_le (F : Fit n r ls m x) {L : List (List Int)} (hs : ∀ S, S ∈ L → Side n r S) (ha : Apart L) : wsum (lackI m ls) L ≤ sm x (pls n r) := by
  refine Int.le_trans (wsum_le fun S hS => F.hold S (hs S hS)) ?_
  rw [wsum_cov x hs]
  refine sm_mono fun p _ => ?_
  have h1 := cov_le (p := p) ha
  have h2 := cov_nn L p
  have h3 := F.nn p
  rcases (show cov L p = 0 ∨ cov L p = 1 by omega) with e | e
  · rw [e]; omega
  · rw [e]; omega
/-- sides that are tight, lie apart, and have every place with a number weigh as much -/
theorem Fit.weight_eq (F : Fit n r ls m x) {L : List (List Int)} (hs : ∀ S, S ∈ L → Tight n r ls m x S) (ha : Apart L) (hc : ∀ p, p ∈ pls n r → 0 < x p → ∃ S, S ∈ L ∧ p ∈ S) : wsum (lackI m ls) L = sm x (pls n r) := by
  rw [← wsum_congr fun S hS => (hs S hS).eq, wsum_cov x fun S hS => (hs S hS).side]
  refine sm_congr fun p hp => ?_
  by_cases h : 0 < x p
  · obtain ⟨S, h1, h2⟩ := hc p hp h
    have := cov_le (p := p) ha
    have := cov_pos h1 h2
    rw [show cov L p = 1 by omega]; omega
  · have h3 := F.nn p
    rw [show x p = 0 by omega]; omega
/-- the tight sides that have something -/
def tightB (ls : Lks) (m : Int) (x : Int → Int) (S : List Int) : Bool := decide (0 < sm x S) && decide (sm x S = lackI m ls S)
theorem tightB_iff {S : List Int} : tightB ls m x S = true ↔ 0 < sm x S ∧ sm x S = lackI m ls S := by
  unfold tightB
  rw [Bool.and_eq_true, decide_eq_true_eq, decide_eq_true_eq]
structure GoodLack (n : Nat) (r : Int) (ls : Lks) (m : Int) (x : Int → Int) (J : List (List Int)) : Prop where
  tight : ∀ S, S ∈ J → Tight n r ls m x S
  pos : ∀ S, S ∈ J → 0 < sm x S
  apart : Apart J
  weight : wsum (lackI m ls) J = sm x (pls n r)
theorem Fit.lack (F : Fit n r ls m x) {sd : List (List Int)} (hsd : ∀ S, S ∈ sd ↔ Side n r S) : GoodLack n r ls m x (joined (sd.filter (tightB ls m x))) := by
  have hu : ∀ A B C, (Tight n r ls m x A ∧ 0 < sm x A) → (Tight n r ls m x B ∧ 0 < sm x B) → (∃ p, p ∈ A ∧ p ∈ B) → Asc C → (∀ q, q ∈ C ↔ q ∈ A ∨ q ∈ B) → Tight n r ls m x C ∧ 0 < sm x C := fun A B C a b hp hC hm => by
    have t := a.1.union F.hold b.1 hp hC hm
    refine ⟨t, Int.lt_of_lt_of_le a.2 ?_⟩
    rw [wlog1 a.1.side t.side fun q hq => (hm q).mpr (.inl hq)]
    have : 0 ≤ sm x (C.filter fun q => !decide (q ∈ A)) := sm_nn fun q _ => F.nn q
    omega
  have j := joins_joined hu (lots := sd.filter (tightB ls m x)) (fun S hS => by
    obtain ⟨h1, h2⟩ := List.mem_filter.mp hS
    have s := (hsd S).mp h1
    obtain ⟨h3, h4⟩ := tightB_iff.mp h2
    exact ⟨⟨⟨s, h4⟩, h3⟩, s.asc⟩) _ (Nat.le_refl _)
  rw [List.take_length] at j
  refine ⟨fun S hS => (j.good S hS).1, fun S hS => (j.good S hS).2, j.apart, F.weight_eq (fun S hS => (j.good S hS).1) j.apart fun p hp h => ?_⟩
  obtain ⟨S, h1, t⟩ := F.tight p hp h
  refine j.cover S (List.mem_filter.mpr ⟨(hsd S).mpr t.side, tightB_iff.mpr ⟨?_, t.eq⟩⟩) p h1
  have := sm_ge (f := x) (S := S) (fun q _ => F.nn q) h1
  omega
end
/-! ### all lacks, as the law lists them -/
def putAt (rows : List (List Int)) (i : Nat) (p : Int) : List (List Int) := rows.take i ++ ((rows.getD i [] ++ [p]) :: rows.drop (i + 1))
def lackRow (p : Int) (rows : List (List Int)) : List (List (List Int)) := [rows, rows ++ [[p]]] ++ (List.range rows.length).map fun i => putAt rows i p
def lackStep (found : List (List (List Int))) (p : Int) : List (List (List Int)) := found.flatMap (lackRow p)
def lacksOf (ps : List Int) : List (List (List Int)) := ps.foldl lackStep [[]]
theorem lacksOf_take {ps : List Int} {i : Nat} {p : Int} (h : ps[i]? = some p) : lacksOf (ps.take (i + 1)) = lackStep (lacksOf (ps.take i)) p := by
  unfold lacksOf
  rw [List.take_add_one, h, Option.toList_some, List.foldl_append]
  rfl
structure LackIn (done : List Int) (L : List (List Int)) : Prop where
  side : ∀ S, S ∈ L → Asc S ∧ S ≠ [] ∧ ∀ q, q ∈ S → q ∈ done
  apart : Apart L
theorem asc_snoc {S : List Int} {p : Int} (h : Asc S) (hp : ∀ q, q ∈ S → q < p) : Asc (S ++ [p]) :=
  List.pairwise_append.mpr ⟨h, List.pairwise_singleton _ _, fun a ha b hb => by rw [List.mem_singleton.mp hb]; exact hp a ha⟩
theorem lackIn_row {done : List Int} {L R : List (List Int)} {p : Int} (hp : ∀ q, q ∈ done → q < p) (h : LackIn done L) (hR : R ∈ lackRow p L) : LackIn (done ++ [p]) R := by
  have wide : ∀ S, S ∈ L → Asc S ∧ S ≠ [] ∧ ∀ q, q ∈ S → q ∈ done ++ [p] := fun S hS =>
    ⟨(h.side S hS).1, (h.side S hS).2.1, fun q hq => List.mem_append_left _ ((h.side S hS).2.2 q hq)⟩
  have pno : ∀ S, S ∈ L → p ∉ S := fun S hS hq => by
    have := hp p ((h.side S hS).2.2 p hq)
    omega
  unfold lackRow at hR
  rcases List.mem_append.mp hR with hR | hR
  · rcases List.mem_cons.mp hR with e | hR
    · subst e
      exact ⟨wide, h.apart⟩
    · rw [List.mem_singleton.mp hR]
      refine ⟨fun S hS => ?_, List.pairwise_append.mpr ⟨h.apart, List.pairwise_singleton _ _, fun A hA B hB q qA qB => ?_⟩⟩
      · rcases List.mem_append.mp hS with hS | hS
        · exact wide S hS
        · rw [List.mem_singleton.mp hS]
          exact ⟨List.pairwise_singleton _ _, by simp, fun q hq => List.mem_append_right _ hq⟩
      · rw [List.mem_singleton.mp hB] at qB
        rw [List.mem_singleton.mp qB] at qA
        exact pno A hA qA
  · obtain ⟨i, hi, rfl⟩ := List.mem_map.mp hR
    have hlt : i < L.length := List.mem_range.mp hi
    have ed : L.getD i [] = L[i] := by rw [List.getD_eq_getElem?_getD, List.getElem?_eq_getElem hlt]; rfl
    have hmem : L[i] ∈ L := List.getElem_mem hlt
    obtain ⟨s1, s2, s3⟩ := h.side _ hmem
    unfold putAt
    rw [ed]
    have hap := h.apart
    rw [show L = L.take i ++ (L[i] :: L.drop (i + 1)) by rw [← List.drop_eq_getElem_cons hlt, List.take_append_drop]] at hap
    obtain ⟨a1, a2, a3⟩ := List.pairwise_append.mp hap
    obtain ⟨a4, a5⟩ := List.pairwise_cons.mp a2
    have mt : ∀ S, S ∈ L.take i → S ∈ L := fun S hS => List.mem_of_mem_take hS
    have md : ∀ S, S ∈ L.drop (i + 1) → S ∈ L := fun S hS => List.mem_of_mem_drop hS
    refine ⟨fun S hS => ?_, List.pairwise_append.mpr ⟨a1, List.pairwise_cons.mpr ⟨fun B hB q qA qB => ?_, a5⟩, fun A hA B hB q qA qB => ?_⟩⟩
    · rcases List.mem_append.mp hS with hS | hS
      · exact wide S (mt S hS)
      · rcases List.mem_cons.mp hS with e | hS
        · rw [e]
          refine ⟨asc_snoc s1 fun q hq => hp q (s3 q hq), by simp, fun q hq => ?_⟩
          rcases List.mem_append.mp hq with hq | hq
          · exact List.mem_append_left _ (s3 q hq)
          · exact List.mem_append_right _ hq
        · exact wide S (md S hS)
    · rcases List.mem_append.mp qA with qA | qA
      · exact a4 B hB q qA qB
      · rw [List.mem_singleton.mp qA] at qB
        exact pno B (md B hB) qB
    · rcases List.mem_cons.mp hB with e | hB
      · rw [e] at qB
        rcases List.mem_append.mp qB with qB | qB
        · exact a3 A hA _ List.mem_cons_self q qA qB
        · rw [List.mem_singleton.mp qB] at qA
          exact pno A (mt A hA) qA
      · exact a3 A hA B (List.mem_cons_of_mem _ hB) q qA qB
theorem asc_take_lt {ps : List Int} (h : Asc ps) {i : Nat} (hi : i < ps.length) : ∀ q, q ∈ ps.take i → q < ps[i] := fun q hq => by
  rw [← List.take_append_drop i ps] at h
  obtain ⟨_, _, d⟩ := List.pairwise_append.mp h
  refine d q hq _ ?_
  rw [List.drop_eq_getElem_cons hi]
  exact List.mem_cons_self
theorem lackIn_all {ps : List Int} (h : Asc ps) : ∀ i, i ≤ ps.length → ∀ L, L ∈ lacksOf (ps.take i) → LackIn (ps.take i) L
  | 0, _, L, hL => by
    rw [List.take_zero] at hL
    rw [List.mem_singleton.mp hL]
    exact ⟨(fun _ z => nomatch z), List.Pairwise.nil⟩
  | i + 1, hi, L, hL => by
    have hlt : i < ps.length := hi
    have e : ps[i]? = some ps[i] := List.getElem?_eq_getElem hlt
    rw [lacksOf_take e] at hL
    obtain ⟨L0, h0, h1⟩ := List.mem_flatMap.mp hL
    have et : ps.take (i + 1) = ps.take i ++ [ps[i]] := by rw [List.take_add_one, e, Option.toList_some]
    rw [et]
    exact lackIn_row (asc_take_lt h hlt) (lackIn_all h i (Nat.le_of_lt hlt) L0 h0) h1
/-- what a family has of some places -/
def cut (done S : List Int) : List Int := S.filter fun q => decide (q ∈ done)
def restr (done : List Int) (F : List (List Int)) : List (List Int) := (F.map (cut done)).filter fun S => decide (S ≠ [])
theorem restr_cons (done S : List Int) (F : List (List Int)) : restr done (S :: F) = (if cut done S ≠ [] then [cut done S] else []) ++ restr done F := by
  unfold restr
  rw [List.map_cons, List.filter_cons]
  by_cases h : cut done S ≠ []
  · rw [if_pos (decide_eq_true h), if_pos h]; rfl
  · rw [if_neg (by simpa using h), if_neg h]; rfl
theorem cut_out {done S : List Int} {p : Int} (h : p ∉ S) : cut (done ++ [p]) S = cut done S := by
  unfold cut
  refine List.filter_congr fun q hq => decide_eq_decide.mpr ?_
  rw [List.mem_append]
  refine ⟨fun z => z.elim id fun z => ?_, .inl⟩
  rw [List.mem_singleton.mp z] at hq
  exact absurd hq h
theorem cut_in {done S : List Int} {p : Int} (hs : Asc S) (hd : ∀ q, q ∈ done → q < p) (ha : Asc done) (h : p ∈ S) : cut (done ++ [p]) S = cut done S ++ [p] := by
  refine asc_ext (hs.filter _) (asc_snoc (hs.filter _) fun q hq => hd q (of_decide_eq_true (List.mem_filter.mp hq).2)) fun q => ?_
  unfold cut
  simp only [List.mem_filter, List.mem_append, decide_eq_true_eq, List.mem_singleton]
  constructor
  · rintro ⟨h1, h2 | h2⟩
    · exact .inl ⟨h1, h2⟩
    · exact .inr h2
  · rintro (⟨h1, h2⟩ | h2)
    · exact ⟨h1, .inl h2⟩
    · subst h2
      exact ⟨h, .inr rfl⟩
theorem restr_out {done : List Int} {p : Int} : ∀ {F : List (List Int)}, (∀ S, S ∈ F → p ∉ S) → restr (done ++ [p]) F = restr done F
  | [], _ => rfl
  | S :: F, h => by
    rw [restr_cons, restr_cons, cut_out (h S List.mem_cons_self), restr_out fun T hT => h T (List.mem_cons_of_mem _ hT)]
theorem restr_app (done : List Int) (A B : List (List Int)) : restr done (A ++ B) = restr done A ++ restr done B := by
  unfold restr
  rw [List.map_append, List.filter_append]
/-- a family that lies apart is listed, up to its order -/
theorem lacks_all {ps : List Int} (h : Asc ps) {F : List (List Int)} (hF : ∀ S, S ∈ F → Asc S) (ha : Apart F) : ∀ i, i ≤ ps.length → ∃ L, L ∈ lacksOf (ps.take i) ∧ L.Perm (restr (ps.take i) F)
  | 0, _ => by
    refine ⟨[], by rw [List.take_zero]; exact List.mem_singleton.mpr rfl, ?_⟩
    have e : ∀ F : List (List Int), restr [] F = [] := fun F => by
      induction F with
      | nil => rfl
      | cons S F ih =>
        have ec : cut [] S = [] := List.filter_eq_nil_iff.mpr fun q _ => by simp
        rw [restr_cons, ih, ec]; rfl
    rw [List.take_zero, e]
  | i + 1, hi => by
    have hlt : i < ps.length := hi
    have e : ps[i]? = some ps[i] := List.getElem?_eq_getElem hlt
    have et : ps.take (i + 1) = ps.take i ++ [ps[i]] := by rw [List.take_add_one, e, Option.toList_some]
    obtain ⟨L, hL, pm⟩ := lacks_all h hF ha i (Nat.le_of_lt hlt)
    rw [lacksOf_take e, et]
    have hd := asc_take_lt h hlt
    have hdone : Asc (ps.take i) := h.sublist (List.take_sublist _ _)
    by_cases hp : ∃ S, S ∈ F ∧ ps[i] ∈ S
    · obtain ⟨S, hS, pS⟩ := hp
      obtain ⟨F1, F2, rfl⟩ := List.append_of_mem hS
      obtain ⟨a1, a2, a3⟩ := List.pairwise_append.mp ha
      obtain ⟨a4, a5⟩ := List.pairwise_cons.mp a2
      have o1 : ∀ T, T ∈ F1 → ps[i] ∉ T := fun T hT q => a3 T hT S List.mem_cons_self _ q pS
      have o2 : ∀ T, T ∈ F2 → ps[i] ∉ T := fun T hT q => a4 T hT _ pS q
      have eN : restr (ps.take i ++ [ps[i]]) (F1 ++ S :: F2) = restr (ps.take i) F1 ++ ((cut (ps.take i) S ++ [ps[i]]) :: restr (ps.take i) F2) := by
        rw [restr_app, restr_cons, restr_out o1, restr_out o2, cut_in (hF S hS) hd hdone pS, if_pos (by simp)]
        rfl
      rw [eN]
      rw [restr_app, restr_cons] at pm
      by_cases hc : cut (ps.take i) S ≠ []
      · rw [if_pos hc] at pm
        have hm : cut (ps.take i) S ∈ L := pm.mem_iff.mpr (List.mem_append_right _ (List.mem_append_left _ List.mem_cons_self))
        obtain ⟨j, hj, ej⟩ := List.mem_iff_getElem.mp hm
        refine ⟨putAt L j ps[i], List.mem_flatMap.mpr ⟨L, hL, List.mem_append_right _ (List.mem_map.mpr ⟨j, List.mem_range.mpr hj, rfl⟩)⟩, ?_⟩
        unfold putAt
        have ed : L.getD j [] = cut (ps.take i) S := by rw [List.getD_eq_getElem?_getD, List.getElem?_eq_getElem hj]; exact ej
        rw [ed]
        have eL : L = L.take j ++ (cut (ps.take i) S :: L.drop (j + 1)) := by
          rw [← ej, ← List.drop_eq_getElem_cons hj, List.take_append_drop]
        have p1 : (L.take j ++ (cut (ps.take i) S :: L.drop (j + 1))).Perm (restr (ps.take i) F1 ++ ([cut (ps.take i) S] ++ restr (ps.take i) F2)) := by
          rw [← eL]; exact pm
        have p2 : (cut (ps.take i) S :: (L.take j ++ L.drop (j + 1))).Perm (cut (ps.take i) S :: (restr (ps.take i) F1 ++ restr (ps.take i) F2)) :=
          (List.perm_middle.symm.trans p1).trans List.perm_middle
        have p3 := p2.cons_inv
        exact (List.perm_middle.trans (p3.cons _)).trans List.perm_middle.symm
      · rw [if_neg hc, List.nil_append] at pm
        have ec : cut (ps.take i) S = [] := Classical.not_not.mp hc
        refine ⟨L ++ [[ps[i]]], List.mem_flatMap.mpr ⟨L, hL, List.mem_append_left _ (List.mem_cons_of_mem _ List.mem_cons_self)⟩, ?_⟩
        rw [ec, List.nil_append]
        have p1 : (L ++ [[ps[i]]]).Perm ([ps[i]] :: L) := List.perm_append_comm
        exact (p1.trans (pm.cons _)).trans List.perm_middle.symm
    · have o : ∀ S, S ∈ F → ps[i] ∉ S := fun S hS q => hp ⟨S, hS, q⟩
      rw [restr_out o]
      exact ⟨L, List.mem_flatMap.mpr ⟨L, hL, List.mem_append_left _ List.mem_cons_self⟩, pm⟩
theorem restr_self {n : Nat} {r : Int} : ∀ {F : List (List Int)}, (∀ S, S ∈ F → Side n r S) → restr (pls n r) F = F
  | [], _ => rfl
  | S :: F, h => by
    have s := h S List.mem_cons_self
    have e : cut (pls n r) S = S := List.filter_eq_self.mpr fun q hq => decide_eq_true (s.sub q hq)
    rw [restr_cons, e, if_pos s.ne, restr_self fun T hT => h T (List.mem_cons_of_mem _ hT)]
    rfl
section
variable {n : Nat} {r : Int} {ls : Lks} {m : Int} {x : Int → Int}
theorem lacks_side {L : List (List Int)} (h : L ∈ lacksOf (pls n r)) : (∀ S, S ∈ L → Side n r S) ∧ Apart L := by
  have l := lackIn_all (asc_pls n r) _ (Nat.le_refl _) L (by rw [List.take_length]; exact h)
  rw [List.take_length] at l
  exact ⟨fun S hS => ⟨(l.side S hS).1, (l.side S hS).2.1, (l.side S hS).2.2⟩, l.apart⟩
/-- THE FACT OF LACKS, as the law asks it: the greatest weight of all listed is what is put in -/
theorem Fit.due (F : Fit n r ls m x) {J : List (List Int)} (j : GoodLack n r ls m x J) {d : Int} (hd : d ∈ (lacksOf (pls n r)).map (wsum (lackI m ls))) (hm : ∀ y, y ∈ (lacksOf (pls n r)).map (wsum (lackI m ls)) → y ≤ d) : d = sm x (pls n r) := by
  obtain ⟨L, hL, rfl⟩ := List.mem_map.mp hd
  obtain ⟨h1, h2⟩ := lacks_side hL
  have le := F.weight_le h1 h2
  obtain ⟨L', hL', pm⟩ := lacks_all (asc_pls n r) (fun S hS => (j.tight S hS).side.asc) j.apart _ (Nat.le_refl _)
  rw [List.take_length] at hL' pm
  rw [restr_self fun S hS => (j.tight S hS).side] at pm
  have := hm _ (List.mem_map.mpr ⟨L', hL', rfl⟩)
  rw [wsum_perm pm, j.weight] at this
  omega
end
/-! ### the pairs -/
def pairsOf (r : Int) (x : Int → Int) (ps : List Int) : Lks := ps.flatMap fun p => List.replicate (x p).toNat (r, p)
theorem pairsOf_take {r : Int} {x : Int → Int} {ps : List Int} {i : Nat} {p : Int} (h : ps[i]? = some p) : pairsOf r x (ps.take (i + 1)) = pairsOf r x (ps.take i) ++ List.replicate (x p).toNat (r, p) := by
  unfold pairsOf
  rw [List.take_add_one, h, Option.toList_some, List.flatMap_append]
  simp
theorem pairsOf_cons (r : Int) (x : Int → Int) (p : Int) (ps : List Int) : pairsOf r x (p :: ps) = List.replicate (x p).toNat (r, p) ++ pairsOf r x ps := List.flatMap_cons
theorem pairsOf_len (r : Int) {x : Int → Int} (h : ∀ q, 0 ≤ x q) : ∀ ps : List Int, ((pairsOf r x ps).length : Int) = sm x ps
  | [] => rfl
  | p :: ps => by
    have := pairsOf_len r h ps
    have := h p
    rw [pairsOf_cons, List.length_append, List.length_replicate, sm_cons]
    omega
theorem mem_pairsOf {r : Int} {x : Int → Int} {ps : List Int} {e : Int × Int} (h : e ∈ pairsOf r x ps) : e.1 = r ∧ e.2 ∈ ps ∧ 0 < x e.2 := by
  obtain ⟨p, hp, h⟩ := List.mem_flatMap.mp h
  obtain ⟨h1, h2⟩ := List.mem_replicate.mp h
  rw [h2]
  exact ⟨rfl, hp, by show 0 < x p; omega⟩
theorem ent_replicate {r p : Int} {S : List Int} (hr : r ∉ S) : ∀ k : Nat, ent (List.replicate k (r, p)) S = if p ∈ S then k else 0
  | 0 => by split <;> rfl
  | k + 1 => by
    have ih := ent_replicate (p := p) hr k
    unfold ent at *
    rw [List.replicate_succ, entP_cons, ih]
    by_cases h : p ∈ S
    · simp [hr, h]; omega
    · simp [hr, h]
theorem ent_pairs {r : Int} {x : Int → Int} (hx : ∀ q, 0 ≤ x q) {S : List Int} (hr : r ∉ S) : ∀ ps : List Int, ((ent (pairsOf r x ps) S : Nat) : Int) = sm x (ps.filter fun q => decide (q ∈ S))
  | [] => rfl
  | p :: ps => by
    have ih := ent_pairs hx hr ps
    have := hx p
    rw [pairsOf_cons, ent_app, ent_replicate hr, List.filter_cons]
    by_cases h : p ∈ S
    · rw [if_pos h, if_pos (decide_eq_true h), sm_cons]; omega
    · rw [if_neg h, if_neg (by simpa using h)]; omega
theorem side_root {n : Nat} {r : Int} {S : List Int} (h : Side n r S) : r ∉ S := fun q => (mem_pls.mp (h.sub r q)).2.2 rfl
section
variable {n : Nat} {r : Int} {ls : Lks} {m : Int} {x : Int → Int}
theorem ent_pairs_side (hx : ∀ q, 0 ≤ x q) {S : List Int} (h : Side n r S) : ((ent (pairsOf r x (pls n r)) S : Nat) : Int) = sm x S := by
  rw [ent_pairs hx (side_root h), ← h.eq]
/-- the pairs are enough -/
theorem Fit.enough (F : Fit n r ls m x) {S : List Int} (h : Side n r S) : lackI m ls S ≤ ((ent (pairsOf r x (pls n r)) S : Nat) : Int) := by
  rw [ent_pairs_side F.nn h]
  exact F.hold S h
theorem ent_erase {S : List Int} : ∀ {l : Lks} {i : Nat} {e : Int × Int}, l[i]? = some e → e.1 ∉ S → e.2 ∈ S → ent l S = ent (l.take i ++ l.drop (i + 1)) S + 1
  | [], i, e, h, _, _ => by simp at h
  | a :: l, 0, e, h, h1, h2 => by
    have e1 : a = e := Option.some.inj h
    subst e1
    show ent (a :: l) S = ent l S + 1
    unfold ent
    rw [entP_cons]
    simp [h1, h2]; omega
  | a :: l, i + 1, e, h, h1, h2 => by
    have ih := ent_erase (l := l) (i := i) (e := e) (by simpa using h) h1 h2
    show ent (a :: l) S = ent (a :: (l.take i ++ l.drop (i + 1))) S + 1
    unfold ent at *
    rw [entP_cons, entP_cons, ih]; omega
/-- with any one of them left out they are not -/
theorem Fit.short (F : Fit n r ls m x) {i : Nat} (hi : i < (pairsOf r x (pls n r)).length) : ∃ S, Side n r S ∧ ((ent ((pairsOf r x (pls n r)).take i ++ (pairsOf r x (pls n r)).drop (i + 1)) S : Nat) : Int) < lackI m ls S := by
  have e := List.getElem?_eq_getElem hi
  obtain ⟨h1, h2, h3⟩ := mem_pairsOf (List.getElem_mem hi)
  obtain ⟨S, hS, t⟩ := F.tight _ h2 h3
  refine ⟨S, t.side, ?_⟩
  have q := ent_erase (S := S) e (by rw [h1]; exact side_root t.side) hS
  have w := ent_pairs_side F.nn t.side
  have := t.eq
  omega
end
/-! ### the law's own sides -/
def sideStep (found : List (List Int)) (p : Int) : List (List Int) := found ++ found.map fun S => S ++ [p]
def sidesOf (ps : List Int) : List (List Int) := ps.foldl sideStep [[]]
theorem sidesOf_take {ps : List Int} {i : Nat} {p : Int} (h : ps[i]? = some p) : sidesOf (ps.take (i + 1)) = sideStep (sidesOf (ps.take i)) p := by
  unfold sidesOf
  rw [List.take_add_one, h, Option.toList_some, List.foldl_append]
  rfl
theorem sidesOf_ok {ps : List Int} (h : Asc ps) : ∀ i, i ≤ ps.length → ∃ T, sidesOf (ps.take i) = [] :: T ∧ ∀ S, S ∈ T → Asc S ∧ S ≠ [] ∧ ∀ q, q ∈ S → q ∈ ps.take i
  | 0, _ => ⟨[], by rw [List.take_zero]; rfl, (fun _ z => nomatch z)⟩
  | i + 1, hi => by
    have hlt : i < ps.length := hi
    have e : ps[i]? = some ps[i] := List.getElem?_eq_getElem hlt
    have et : ps.take (i + 1) = ps.take i ++ [ps[i]] := by rw [List.take_add_one, e, Option.toList_some]
    obtain ⟨T, h1, h2⟩ := sidesOf_ok h i (Nat.le_of_lt hlt)
    have hd := asc_take_lt h hlt
    rw [sidesOf_take e, h1, et]
    refine ⟨T ++ ([] :: T).map fun S => S ++ [ps[i]], rfl, fun S hS => ?_⟩
    rcases List.mem_append.mp hS with hS | hS
    · obtain ⟨a, b, c⟩ := h2 S hS
      exact ⟨a, b, fun q hq => List.mem_append_left _ (c q hq)⟩
    · obtain ⟨S0, h0, rfl⟩ := List.mem_map.mp hS
      rcases List.mem_cons.mp h0 with e0 | h0
      · subst e0
        exact ⟨List.pairwise_singleton _ _, by simp, fun q hq => List.mem_append_right _ hq⟩
      · obtain ⟨a, b, c⟩ := h2 S0 h0
        refine ⟨asc_snoc a fun q hq => hd q (c q hq), by simp, fun q hq => ?_⟩
        rcases List.mem_append.mp hq with hq | hq
        · exact List.mem_append_left _ (c q hq)
        · exact List.mem_append_right _ hq
theorem sidesOf_side {n : Nat} {r : Int} {S : List Int} (h : S ∈ (sidesOf (pls n r)).drop 1) : Side n r S := by
  obtain ⟨T, h1, h2⟩ := sidesOf_ok (asc_pls n r) _ (Nat.le_refl _)
  rw [List.take_length] at h1 h2
  rw [h1] at h
  obtain ⟨a, b, c⟩ := h2 S h
  exact ⟨a, b, c⟩
end Ff
end

section
set_option linter.all false
set_option maxRecDepth 100000
/-! The walk's base: the text by places, the defs' names, shared words. -/
namespace Fw
open PySem PySem.Spec PyProof.Rows L2
def topS (i : Nat) : Stmt := PySem.Challenge.pw_sparetrees_k30_whole_fewest_links_put_in.main.body.getD i (.Pass ⟨0, 0, 0, 0⟩)
abbrev s_is_integer : Stmt := topS 2
abbrev N_is_integer : List Str := ["thing"]
theorem sc_is_integer : FnScope N_is_integer ["thing"] (defScope s_is_integer) := ⟨rfl, rfl, rfl, by decide +kernel, rfl, by decide +kernel, by decide +kernel⟩
-- is_integer: 0 thing
abbrev s_is_within : Stmt := topS 3
abbrev N_is_within : List Str := ["thing", "least", "most"]
theorem sc_is_within : FnScope N_is_within ["thing", "least", "most"] (defScope s_is_within) := ⟨rfl, rfl, rfl, by decide +kernel, rfl, by decide +kernel, by decide +kernel⟩
-- is_within: 0 thing, 1 least, 2 most
abbrev s_is_pair : Stmt := topS 4
abbrev N_is_pair : List Str := ["thing"]
theorem sc_is_pair : FnScope N_is_pair ["thing"] (defScope s_is_pair) := ⟨rfl, rfl, rfl, by decide +kernel, rfl, by decide +kernel, by decide +kernel⟩
-- is_pair: 0 thing
abbrev s_is_lot : Stmt := topS 5
abbrev N_is_lot : List Str := ["thing", "many", "last", "number"]
theorem sc_is_lot : FnScope N_is_lot ["thing", "many"] (defScope s_is_lot) := ⟨rfl, rfl, rfl, by decide +kernel, rfl, by decide +kernel, by decide +kernel⟩
-- is_lot: 0 thing, 1 many, 2 last, 3 number
abbrev s_BadNet_init : Stmt := inClass (topS 8) 0
abbrev N_BadNet_init : List Str := ["self", "part"]
theorem sc_BadNet_init : FnScope N_BadNet_init ["self", "part"] (defScope s_BadNet_init) := ⟨rfl, rfl, rfl, by decide +kernel, rfl, by decide +kernel, by decide +kernel⟩
-- BadNet_init: 0 self, 1 part
abbrev s_Net_init : Stmt := inClass (topS 15) 0
abbrev N_Net_init : List Str := ["self", "many", "root", "links", "number", "link"]
theorem sc_Net_init : FnScope N_Net_init ["self", "many", "root", "links"] (defScope s_Net_init) := ⟨rfl, rfl, rfl, by decide +kernel, rfl, by decide +kernel, by decide +kernel⟩
-- Net_init: 0 self, 1 many, 2 root, 3 links, 4 number, 5 link
abbrev s_Net_eq : Stmt := inClass (topS 15) 1
abbrev N_Net_eq : List Str := ["self", "other"]
theorem sc_Net_eq : FnScope N_Net_eq ["self", "other"] (defScope s_Net_eq) := ⟨rfl, rfl, rfl, by decide +kernel, rfl, by decide +kernel, by decide +kernel⟩
-- Net_eq: 0 self, 1 other
abbrev s_is_link : Stmt := topS 16
abbrev N_is_link : List Str := ["many", "thing", "place"]
theorem sc_is_link : FnScope N_is_link ["many", "thing"] (defScope s_is_link) := ⟨rfl, rfl, rfl, by decide +kernel, rfl, by decide +kernel, by decide +kernel⟩
-- is_link: 0 many, 1 thing, 2 place
abbrev s_check_net : Stmt := topS 17
abbrev N_check_net : List Str := ["net"]
theorem sc_check_net : FnScope N_check_net ["net"] (defScope s_check_net) := ⟨rfl, rfl, rfl, by decide +kernel, rfl, by decide +kernel, by decide +kernel⟩
-- check_net: 0 net
abbrev s_is_side : Stmt := topS 18
abbrev N_is_side : List Str := ["net", "thing"]
theorem sc_is_side : FnScope N_is_side ["net", "thing"] (defScope s_is_side) := ⟨rfl, rfl, rfl, by decide +kernel, rfl, by decide +kernel, by decide +kernel⟩
-- is_side: 0 net, 1 thing
abbrev s_all_lots : Stmt := topS 19
abbrev N_all_lots : List Str := ["many", "found", "size"]
theorem sc_all_lots : FnScope N_all_lots ["many"] (defScope s_all_lots) := ⟨rfl, rfl, rfl, by decide +kernel, rfl, by decide +kernel, by decide +kernel⟩
-- all_lots: 0 many, 1 found, 2 size
abbrev s_all_sides : Stmt := topS 20
abbrev N_all_sides : List Str := ["net", "lot"]
theorem sc_all_sides : FnScope N_all_sides ["net"] (defScope s_all_sides) := ⟨rfl, rfl, rfl, by decide +kernel, rfl, by decide +kernel, by decide +kernel⟩
-- all_sides: 0 net, 1 lot
abbrev s_does_enter : Stmt := topS 21
abbrev N_does_enter : List Str := ["net", "link", "places"]
theorem sc_does_enter : FnScope N_does_enter ["net", "link", "places"] (defScope s_does_enter) := ⟨rfl, rfl, rfl, by decide +kernel, rfl, by decide +kernel, by decide +kernel⟩
-- does_enter: 0 net, 1 link, 2 places
abbrev s_entering_of : Stmt := topS 22
abbrev N_entering_of : List Str := ["net", "lot", "places", "link"]
theorem sc_entering_of : FnScope N_entering_of ["net", "lot", "places"] (defScope s_entering_of) := ⟨rfl, rfl, rfl, by decide +kernel, rfl, by decide +kernel, by decide +kernel⟩
-- entering_of: 0 net, 1 lot, 2 places, 3 link
abbrev s_every_link : Stmt := topS 23
abbrev N_every_link : List Str := ["net"]
theorem sc_every_link : FnScope N_every_link ["net"] (defScope s_every_link) := ⟨rfl, rfl, rfl, by decide +kernel, rfl, by decide +kernel, by decide +kernel⟩
-- every_link: 0 net
abbrev s_check_number : Stmt := topS 24
abbrev N_check_number : List Str := ["thing", "least", "most"]
theorem sc_check_number : FnScope N_check_number ["thing", "least", "most"] (defScope s_check_number) := ⟨rfl, rfl, rfl, by decide +kernel, rfl, by decide +kernel, by decide +kernel⟩
-- check_number: 0 thing, 1 least, 2 most
abbrev s_are_apart : Stmt := topS 26
abbrev N_are_apart : List Str := ["lots", "items", "lot"]
theorem sc_are_apart : FnScope N_are_apart ["lots"] (defScope s_are_apart) := ⟨rfl, rfl, rfl, by decide +kernel, rfl, by decide +kernel, by decide +kernel⟩
-- are_apart: 0 lots, 1 items, 2 lot
abbrev s_lack_of : Stmt := topS 30
abbrev N_lack_of : List Str := ["net", "many", "side"]
theorem sc_lack_of : FnScope N_lack_of ["net", "many", "side"] (defScope s_lack_of) := ⟨rfl, rfl, rfl, by decide +kernel, rfl, by decide +kernel, by decide +kernel⟩
-- lack_of: 0 net, 1 many, 2 side
abbrev s_holds : Stmt := topS 31
abbrev N_holds : List Str := ["net", "many", "added", "side", "place"]
theorem sc_holds : FnScope N_holds ["net", "many", "added"] (defScope s_holds) := ⟨rfl, rfl, rfl, by decide +kernel, rfl, by decide +kernel, by decide +kernel⟩
-- holds: 0 net, 1 many, 2 added, 3 side, 4 place
abbrev s_least_added : Stmt := topS 32
abbrev N_least_added : List Str := ["net", "many", "added", "place"]
theorem sc_least_added : FnScope N_least_added ["net", "many"] (defScope s_least_added) := ⟨rfl, rfl, rfl, by decide +kernel, rfl, by decide +kernel, by decide +kernel⟩
-- least_added: 0 net, 1 many, 2 added, 3 place
abbrev s_check_wanted : Stmt := topS 33
abbrev N_check_wanted : List Str := ["net", "many"]
theorem sc_check_wanted : FnScope N_check_wanted ["net", "many"] (defScope s_check_wanted) := ⟨rfl, rfl, rfl, by decide +kernel, rfl, by decide +kernel, by decide +kernel⟩
-- check_wanted: 0 net, 1 many
abbrev s_lacking : Stmt := topS 34
abbrev N_lacking : List Str := ["net", "many"]
theorem sc_lacking : FnScope N_lacking ["net", "many"] (defScope s_lacking) := ⟨rfl, rfl, rfl, by decide +kernel, rfl, by decide +kernel, by decide +kernel⟩
-- lacking: 0 net, 1 many
abbrev s_to_add : Stmt := topS 35
abbrev N_to_add : List Str := ["net", "many", "added", "found", "place"]
theorem sc_to_add : FnScope N_to_add ["net", "many"] (defScope s_to_add) := ⟨rfl, rfl, rfl, by decide +kernel, rfl, by decide +kernel, by decide +kernel⟩
-- to_add: 0 net, 1 many, 2 added, 3 found, 4 place
abbrev s_is_enough : Stmt := topS 36
abbrev N_is_enough : List Str := ["net", "many", "thing", "side", "more", "pair"]
theorem sc_is_enough : FnScope N_is_enough ["net", "many", "thing"] (defScope s_is_enough) := ⟨rfl, rfl, rfl, by decide +kernel, rfl, by decide +kernel, by decide +kernel⟩
-- is_enough: 0 net, 1 many, 2 thing, 3 side, 4 more, 5 pair
abbrev s_joined : Stmt := topS 37
abbrev N_joined : List Str := ["lots", "found", "lot", "apart", "whole", "one", "place"]
theorem sc_joined : FnScope N_joined ["lots"] (defScope s_joined) := ⟨rfl, rfl, rfl, by decide +kernel, rfl, by decide +kernel, by decide +kernel⟩
-- joined: 0 lots, 1 found, 2 lot, 3 apart, 4 whole, 5 one, 6 place
abbrev s_greatest_lack : Stmt := topS 38
abbrev N_greatest_lack : List Str := ["net", "many", "added", "tight", "side", "more", "place"]
theorem sc_greatest_lack : FnScope N_greatest_lack ["net", "many"] (defScope s_greatest_lack) := ⟨rfl, rfl, rfl, by decide +kernel, rfl, by decide +kernel, by decide +kernel⟩
-- greatest_lack: 0 net, 1 many, 2 added, 3 tight, 4 side, 5 more, 6 place
abbrev s_is_lack : Stmt := topS 39
abbrev N_is_lack : List Str := ["net", "thing", "side", "one", "other"]
theorem sc_is_lack : FnScope N_is_lack ["net", "thing"] (defScope s_is_lack) := ⟨rfl, rfl, rfl, by decide +kernel, rfl, by decide +kernel, by decide +kernel⟩
-- is_lack: 0 net, 1 thing, 2 side, 3 one, 4 other
abbrev s_l_hand : Stmt := topS 41
abbrev N_l_hand : List Str := ["_law_script", "_law_cells", "_law_cell"]
theorem sc_l_hand : FnScope N_l_hand ["_law_script"] (defScope s_l_hand) := ⟨rfl, rfl, rfl, by decide +kernel, rfl, by decide +kernel, by decide +kernel⟩
-- l_hand: 0 _law_script, 1 _law_cells, 2 _law_cell
abbrev s_l_draw : Stmt := topS 42
abbrev N_l_draw : List Str := ["_law_hand_here", "_law_many", "_law_cell", "_law_digit", "_law_number"]
theorem sc_l_draw : FnScope N_l_draw ["_law_hand_here", "_law_many"] (defScope s_l_draw) := ⟨rfl, rfl, rfl, by decide +kernel, rfl, by decide +kernel, by decide +kernel⟩
-- l_draw: 0 _law_hand_here, 1 _law_many, 2 _law_cell, 3 _law_digit, 4 _law_number
abbrev s_l_any : Stmt := topS 43
abbrev N_l_any : List Str := ["_law_hand_here", "_law_items"]
theorem sc_l_any : FnScope N_l_any ["_law_hand_here", "_law_items"] (defScope s_l_any) := ⟨rfl, rfl, rfl, by decide +kernel, rfl, by decide +kernel, by decide +kernel⟩
-- l_any: 0 _law_hand_here, 1 _law_items
abbrev s_l_is : Stmt := topS 44
abbrev N_l_is : List Str := ["_law_given", "_law_due", "_law_one", "_law_two"]
theorem sc_l_is : FnScope N_l_is ["_law_given", "_law_due"] (defScope s_l_is) := ⟨rfl, rfl, rfl, by decide +kernel, rfl, by decide +kernel, by decide +kernel⟩
-- l_is: 0 _law_given, 1 _law_due, 2 _law_one, 3 _law_two
abbrev s_l_int : Stmt := topS 45
abbrev N_l_int : List Str := ["_law_thing", "_law_low", "_law_high"]
theorem sc_l_int : FnScope N_l_int ["_law_thing", "_law_low", "_law_high"] (defScope s_l_int) := ⟨rfl, rfl, rfl, by decide +kernel, rfl, by decide +kernel, by decide +kernel⟩
-- l_int: 0 _law_thing, 1 _law_low, 2 _law_high
abbrev s_l_mixed : Stmt := topS 46
abbrev N_l_mixed : List Str := ["_law_hand_here", "_law_items", "_law_left", "_law_found", "_law_turn"]
theorem sc_l_mixed : FnScope N_l_mixed ["_law_hand_here", "_law_items"] (defScope s_l_mixed) := ⟨rfl, rfl, rfl, by decide +kernel, rfl, by decide +kernel, by decide +kernel⟩
-- l_mixed: 0 _law_hand_here, 1 _law_items, 2 _law_left, 3 _law_found, 4 _law_turn
abbrev s_l_is_lot : Stmt := topS 47
abbrev N_l_is_lot : List Str := ["_law_thing", "_law_many", "_law_one", "_law_other"]
theorem sc_l_is_lot : FnScope N_l_is_lot ["_law_thing", "_law_many"] (defScope s_l_is_lot) := ⟨rfl, rfl, rfl, by decide +kernel, rfl, by decide +kernel, by decide +kernel⟩
-- l_is_lot: 0 _law_thing, 1 _law_many, 2 _law_one, 3 _law_other
abbrev s_l_are_apart : Stmt := topS 48
abbrev N_l_are_apart : List Str := ["_law_lots", "_law_every"]
theorem sc_l_are_apart : FnScope N_l_are_apart ["_law_lots"] (defScope s_l_are_apart) := ⟨rfl, rfl, rfl, by decide +kernel, rfl, by decide +kernel, by decide +kernel⟩
-- l_are_apart: 0 _law_lots, 1 _law_every
abbrev s_l_net : Stmt := topS 49
abbrev N_l_net : List Str := ["_law_hand_here", "_law_places", "_law_most", "_law_many", "_law_root", "_law_links", "_law_way", "_law_turn", "_law_row", "_law_at", "_law_one", "_law_other", "_law_place"]
theorem sc_l_net : FnScope N_l_net ["_law_hand_here", "_law_places", "_law_most"] (defScope s_l_net) := ⟨rfl, rfl, rfl, by decide +kernel, rfl, by decide +kernel, by decide +kernel⟩
-- l_net: 0 _law_hand_here, 1 _law_places, 2 _law_most, 3 _law_many, 4 _law_root, 5 _law_links, 6 _law_way, 7 _law_turn, 8 _law_row, 9 _law_at, 10 _law_one, 11 _law_other, 12 _law_place
abbrev s_l_sides : Stmt := topS 50
abbrev N_l_sides : List Str := ["_law_net_here", "_law_found", "_law_place", "_law_side"]
theorem sc_l_sides : FnScope N_l_sides ["_law_net_here"] (defScope s_l_sides) := ⟨rfl, rfl, rfl, by decide +kernel, rfl, by decide +kernel, by decide +kernel⟩
-- l_sides: 0 _law_net_here, 1 _law_found, 2 _law_place, 3 _law_side
abbrev s_l_entered : Stmt := topS 51
abbrev N_l_entered : List Str := ["_law_links", "_law_side", "_law_one", "_law_other"]
theorem sc_l_entered : FnScope N_l_entered ["_law_links", "_law_side"] (defScope s_l_entered) := ⟨rfl, rfl, rfl, by decide +kernel, rfl, by decide +kernel, by decide +kernel⟩
-- l_entered: 0 _law_links, 1 _law_side, 2 _law_one, 3 _law_other
abbrev s_l_weight : Stmt := topS 52
abbrev N_l_weight : List Str := ["_law_net_here", "_law_many", "_law_lack", "_law_side"]
theorem sc_l_weight : FnScope N_l_weight ["_law_net_here", "_law_many", "_law_lack"] (defScope s_l_weight) := ⟨rfl, rfl, rfl, by decide +kernel, rfl, by decide +kernel, by decide +kernel⟩
-- l_weight: 0 _law_net_here, 1 _law_many, 2 _law_lack, 3 _law_side
abbrev s_l_lacks : Stmt := topS 53
abbrev N_l_lacks : List Str := ["_law_net_here", "_law_found", "_law_place", "_law_later", "_law_rows", "_law_spot", "_law_one"]
theorem sc_l_lacks : FnScope N_l_lacks ["_law_net_here"] (defScope s_l_lacks) := ⟨rfl, rfl, rfl, by decide +kernel, rfl, by decide +kernel, by decide +kernel⟩
-- l_lacks: 0 _law_net_here, 1 _law_found, 2 _law_place, 3 _law_later, 4 _law_rows, 5 _law_spot, 6 _law_one
abbrev s_l_is_side : Stmt := topS 54
abbrev N_l_is_side : List Str := ["_law_net_here", "_law_thing"]
theorem sc_l_is_side : FnScope N_l_is_side ["_law_net_here", "_law_thing"] (defScope s_l_is_side) := ⟨rfl, rfl, rfl, by decide +kernel, rfl, by decide +kernel, by decide +kernel⟩
-- l_is_side: 0 _law_net_here, 1 _law_thing
abbrev s_l_is_lack : Stmt := topS 55
abbrev N_l_is_lack : List Str := ["_law_net_here", "_law_thing", "_law_side"]
theorem sc_l_is_lack : FnScope N_l_is_lack ["_law_net_here", "_law_thing"] (defScope s_l_is_lack) := ⟨rfl, rfl, rfl, by decide +kernel, rfl, by decide +kernel, by decide +kernel⟩
-- l_is_lack: 0 _law_net_here, 1 _law_thing, 2 _law_side
abbrev s_l_are_pairs : Stmt := topS 56
abbrev N_l_are_pairs : List Str := ["_law_many", "_law_thing", "_law_pair", "_law_one"]
theorem sc_l_are_pairs : FnScope N_l_are_pairs ["_law_many", "_law_thing"] (defScope s_l_are_pairs) := ⟨rfl, rfl, rfl, by decide +kernel, rfl, by decide +kernel, by decide +kernel⟩
-- l_are_pairs: 0 _law_many, 1 _law_thing, 2 _law_pair, 3 _law_one
abbrev s_l_is_enough : Stmt := topS 57
abbrev N_l_is_enough : List Str := ["_law_net_here", "_law_many", "_law_thing", "_law_side"]
theorem sc_l_is_enough : FnScope N_l_is_enough ["_law_net_here", "_law_many", "_law_thing"] (defScope s_l_is_enough) := ⟨rfl, rfl, rfl, by decide +kernel, rfl, by decide +kernel, by decide +kernel⟩
-- l_is_enough: 0 _law_net_here, 1 _law_many, 2 _law_thing, 3 _law_side
abbrev s_l_flat : Stmt := topS 58
abbrev N_l_flat : List Str := ["_law_rows", "_law_found", "_law_row"]
theorem sc_l_flat : FnScope N_l_flat ["_law_rows"] (defScope s_l_flat) := ⟨rfl, rfl, rfl, by decide +kernel, rfl, by decide +kernel, by decide +kernel⟩
-- l_flat: 0 _law_rows, 1 _law_found, 2 _law_row
abbrev s_law : Stmt := topS 59
abbrev N_law : List Str := ["_law_script", "_law_hand_here", "_law_turn", "_law_net_here", "_law_made", "_law_many", "_law_due", "_law_pairs", "_law_lack", "_law_spot", "_law_less"]
theorem sc_law : FnScope N_law ["_law_script"] (defScope s_law) := ⟨rfl, rfl, rfl, by decide +kernel, rfl, by decide +kernel, by decide +kernel⟩
-- law: 0 _law_script, 1 _law_hand_here, 2 _law_turn, 3 _law_net_here, 4 _law_made, 5 _law_many, 6 _law_due, 7 _law_pairs, 8 _law_lack, 9 _law_spot, 10 _law_less
/-! ### shared words -/
section
variable (P : Program) (w : World) (K : PySem.W.Frag) (mg : Str → Option Value) (base : Heap)
/-- a def of the text, where it stands -/
structure FunAt (x : Str) (st : Stmt) (ps : List Str) : Prop where
  ex : ∃ f fd, Fun K x x st f fd ∧ Binds K fd ps [] ∧ mg x = some (.ref f)
/-- a def of the text that keeps a promise -/
structure Fn (k : Nat) (x : Str) (ps : List Str) (sp : Sp) : Prop where
  ex : ∃ f fd, FnOk P w K mg base CX0 k f fd ps sp ∧ Binds K fd ps [] ∧ mg x = some (.ref f) ∧ PySem.W.keepIn K (.ref f) = true
/-- the built-ins' names are the built-ins' -/
structure Bt : Prop where
  isinstance : mg "isinstance" = none
  int : mg "int" = none
  bool : mg "bool" = none
  tuple : mg "tuple" = none
  list : mg "list" = none
  dict : mg "dict" = none
  set : mg "set" = none
  len : mg "len" = none
  all : mg "all" = none
  any : mg "any" = none
  sum : mg "sum" = none
  max : mg "max" = none
  min : mg "min" = none
  abs : mg "abs" = none
  sorted : mg "sorted" = none
  range : mg "range" = none
  zip : mg "zip" = none
  enumerate : mg "enumerate" = none
end
section
variable {P : Program} {w : World} {K : PySem.W.Frag} {mg : Str → Option Value} {base : Heap}
theorem FunAt.fn {x : Str} {st : Stmt} {ps : List Str} {k : Nat} {sp : Sp} (F : FunAt K mg x st ps) (h : ∀ f fd, Fun K x x st f fd → FnOk P w K mg base CX0 k f fd ps sp) : Fn P w K mg base k x ps sp := by
  obtain ⟨f, fd, a, b, c⟩ := F.ex
  exact ⟨f, fd, h f fd a, b, c, a.kp⟩
end
section
variable {X : Cx} {x : Str} {p pos : Pos} {e : Expr} {es : List Expr} {t : TA}
def tFn (sp : Sp) (t : TA) : TE := fun σ H Q => t σ H fun vs H1 => sp vs H1 Q E0
/-- f(a, ..) -/
theorem pe_fn {k : Nat} {ps : List Str} {sp : Sp} (F : Fn X.prog X.w X.K X.mg X.base k x ps sp) (hr : Room k X.A) (ha : PA X (e :: es) t) (hg : Gl X x := by rfl) (hdb : (x == ("__debug__" : Str)) = false := by decide +kernel)
    (he : starEach (e :: es) X.env = (false, eval e X.env) :: starEach es X.env := by rfl) (hpl : (backTo pos (starEach es X.env)).any (fun z => z.1) = false := by rfl) : PE X (.Call (.Name x p) (e :: es) [] pos) (tFn sp t) := by
  obtain ⟨f, fd, G, b, m, kp⟩ := F.ex
  refine ⟨fun pins s σ H Q I h => (pe_call G hr hg m kp b .nil pass0 ha hdb he hpl).run pins s σ H Q I ?_⟩
  show t σ H fun vs H1 => sp (vs ++ []) H1 Q E0
  have e : (fun (vs : List V) H1 => sp (vs ++ []) H1 Q E0) = fun vs H1 => sp vs H1 Q E0 := by
    funext vs H1
    rw [List.append_nil]
  rw [e]
  exact h
end
theorem bt_len : bootBuiltins "len" = some (.builtin "len") := by decide +kernel
theorem bt_isinstance : bootBuiltins "isinstance" = some (.builtin "isinstance") := by decide +kernel
theorem bt_all : bootBuiltins "all" = some (.builtin "all") := by decide +kernel
theorem bt_any : bootBuiltins "any" = some (.builtin "any") := by decide +kernel
theorem bt_sum : bootBuiltins "sum" = some (.builtin "sum") := by decide +kernel
theorem bt_max : bootBuiltins "max" = some (.builtin "max") := by decide +kernel
theorem bt_min : bootBuiltins "min" = some (.builtin "min") := by decide +kernel
theorem bt_abs : bootBuiltins "abs" = some (.builtin "abs") := by decide +kernel
theorem bt_sorted : bootBuiltins "sorted" = some (.builtin "sorted") := by decide +kernel
theorem bt_int : bootBuiltins "int" = some (.type "int") := by decide +kernel
theorem bt_bool : bootBuiltins "bool" = some (.type "bool") := by decide +kernel
theorem bt_tuple : bootBuiltins "tuple" = some (.type "tuple") := by decide +kernel
theorem bt_list : bootBuiltins "list" = some (.type "list") := by decide +kernel
theorem bt_dict : bootBuiltins "dict" = some (.type "dict") := by decide +kernel
theorem bt_set : bootBuiltins "set" = some (.type "set") := by decide +kernel
theorem bt_range : bootBuiltins "range" = some (.type "range") := by decide +kernel
theorem bt_zip : bootBuiltins "zip" = some (.type "zip") := by decide +kernel
theorem bt_enumerate : bootBuiltins "enumerate" = some (.type "enumerate") := by decide +kernel
theorem s1000 {n : Nat} (h : n ≤ 1000) : n ≤ sizeLine := Nat.le_of_lt (small1000 h)
theorem new_same {H : Hp} {p : Addr} (h : H p = none) (o : HO) : Same H (upd H p o) := fun b u q => by rw [upd_ne (ne_of_none q h)]; exact q
theorem upd_sameN {H H' : Hp} {D : Addr} (h : H D = none) (s : Same H H') (o : HO) : Same H (upd H' D o) := fun b u q => by rw [upd_ne (ne_of_none q h)]; exact s b u q
theorem iteN {b : Bool} {A B : Prop} (h : b = true) (q : B) : if (!b) = true then A else B := by
  rw [h]
  exact iteF q
theorem iteY {b : Bool} {A B : Prop} (h : b = true) (q : A) : if b = true then A else B := by
  rw [if_pos h]
  exact q
theorem iteO {b : Bool} {A B : Prop} (h : b = false) (q : B) : if b = true then A else B := by
  rw [h]
  exact iteF q
/-- an int tuple -/
def IT (H : Hp) (v : V) (ns : List Int) : Prop := ∃ a, v = .ref a ∧ H a = some (.tup (ns.map V.int))
theorem IT.same {H H' : Hp} {v : V} {ns : List Int} (h : IT H v ns) (s : Same H H') : IT H' v ns := by
  obtain ⟨a, e, q⟩ := h
  exact ⟨a, e, s _ _ q⟩
/-- int tuples in a row -/
abbrev ITs (H : Hp) : List V → List (List Int) → Prop := Paired (IT H)
theorem ITs.same {H H' : Hp} {vs : List V} {nss : List (List Int)} (h : ITs H vs nss) (s : Same H H') : ITs H' vs nss := Paired.mapP h fun _ _ z => z.same s
/-- pairs in a row -/
def IP (H : Hp) (v : V) (e : Int × Int) : Prop := IT H v [e.1, e.2]
abbrev IPs (H : Hp) : List V → Ff.Lks → Prop := Paired (IP H)
theorem IPs.same {H H' : Hp} {vs : List V} {ls : Ff.Lks} (h : IPs H vs ls) (s : Same H H') : IPs H' vs ls := Paired.mapP h fun _ _ z => IT.same z s
section
variable {α β : Type} {R : α → β → Prop}
theorem Paired.at : ∀ {as : List α} {bs : List β} {i : Nat} {a : α}, Paired R as bs → as[i]? = some a → ∃ b, bs[i]? = some b ∧ R a b
  | _, _, _, _, .nil, e => by simp at e
  | _, _, 0, _, .cons r _, e => by simp at e; subst e; exact ⟨_, rfl, r⟩
  | _, _, i + 1, a, .cons _ t, e => by
    obtain ⟨u, h1, h2⟩ := Paired.at (i := i) (a := a) t (by simpa using e)
    exact ⟨u, by simpa using h1, h2⟩
theorem Paired.at2 : ∀ {as : List α} {bs : List β} {i : Nat} {b : β}, Paired R as bs → bs[i]? = some b → ∃ a, as[i]? = some a ∧ R a b
  | _, _, _, _, .nil, e => by simp at e
  | _, _, 0, _, .cons r _, e => by simp at e; subst e; exact ⟨_, rfl, r⟩
  | _, _, i + 1, a, .cons _ t, e => by
    obtain ⟨u, h1, h2⟩ := Paired.at2 (i := i) (b := a) t (by simpa using e)
    exact ⟨u, by simpa using h1, h2⟩
theorem Paired.app : ∀ {as : List α} {bs : List β} {as' : List α} {bs' : List β}, Paired R as bs → Paired R as' bs' → Paired R (as ++ as') (bs ++ bs')
  | _, _, _, _, .nil, s => s
  | _, _, _, _, .cons r t, s => .cons r (Paired.app t s)
theorem Paired.take : ∀ (n : Nat) {as : List α} {bs : List β}, Paired R as bs → Paired R (as.take n) (bs.take n)
  | 0, _, _, _ => .nil
  | _ + 1, _, _, .nil => .nil
  | n + 1, _, _, .cons r t => .cons r (Paired.take n t)
theorem Paired.drop : ∀ (n : Nat) {as : List α} {bs : List β}, Paired R as bs → Paired R (as.drop n) (bs.drop n)
  | 0, _, _, r => r
  | _ + 1, _, _, .nil => .nil
  | n + 1, _, _, .cons _ t => Paired.drop n t
theorem Paired.one {a : α} {b : β} (h : R a b) : Paired R [a] [b] := .cons h .nil
theorem Paired.mem : ∀ {as : List α} {bs : List β} {a : α}, Paired R as bs → a ∈ as → ∃ b, b ∈ bs ∧ R a b
  | _, _, _, .cons r t, h => by
    rcases List.mem_cons.mp h with e | h
    · subst e; exact ⟨_, List.mem_cons_self, r⟩
    · obtain ⟨b, h1, h2⟩ := Paired.mem t h
      exact ⟨b, List.mem_cons_of_mem _ h1, h2⟩
end
/-- in, of ints -/
theorem inV_int (i : Int) (ns : List Int) : inV (.int i) (ns.map V.int) = decide (i ∈ ns) := by
  unfold inV
  rw [List.any_map]
  induction ns with
  | nil => rfl
  | cons n ns ih =>
    rw [List.any_cons, ih]
    show ((n == i) || decide (i ∈ ns)) = decide (i ∈ n :: ns)
    by_cases h : n = i
    · subst h; simp
    · have h' : ¬ i = n := fun e => h e.symm
      simp [h, h']
theorem flat_ints (ns : List Int) : (ns.map V.int).all flatV = true := by
  rw [List.all_map]
  exact List.all_eq_true.mpr fun _ _ => rfl
end Fw
end

section
set_option linter.all false
set_option maxRecDepth 100000
/-! A rule of our own: for i, x in enumerate(t), t a tuple. -/
namespace Fw
open PySem PySem.Spec PyProof.Rows L2
set_option maxHeartbeats 1000000 in
theorem enumNew1 {v : Value} {o : Obj} {Z : Heap → Prop} (B : Begins v o Z) :
    Meets (Builtin.«enumerate.__new__» ⟨[.type "enumerate", v], []⟩) (fun _ R s => Z s.heap ∧
      R (.ok (.ret (.ref (s.heap.push o).objs.size))) { s with heap := (s.heap.push o).push { cls := .type "enumerate", data := .fields #[.none, .bool false, .ref s.heap.objs.size, rawInt 0, .none, .none] } }) :=
  .of_wp fun prog w A R s hz => by
    obtain ⟨h0, g0, d0, t0, o0⟩ := s
    obtain ⟨z, hz⟩ := hz
    have hsub := sub_enumerate
    have beg : ∀ {A' : Around} {E : Value → Shared → Prop} {Q : Value → Shared → Prop}, Q (.ref h0.objs.size) ⟨h0.push o, g0, d0, t0, o0⟩ → wpAny (model prog w) A' (pyIter v) Q E ⟨h0, g0, d0, t0, o0⟩ :=
      fun q => B.iter prog w _ _ ⟨h0, g0, d0, t0, o0⟩ _ z q
    wp_walk
    refine wpAny_stack_any fun st => wpAny_pure ?_
    split
    · rename_i c _ _ _ _ _
      cases (c == Value.type "enumerate")
      all_goals
        wp_walk using beg
        exact ⟨_, rfl, hz⟩
    · wp_walk using beg
      exact ⟨_, rfl, hz⟩
theorem call_enum1 {prog : Program} {w : World} {A : Around} {E : Value → Shared → Prop} {s : Shared} {v : Value} {o : Obj} {Z : Heap → Prop} {Q : Value → Shared → Prop} (B : Begins v o Z) (hz : Z s.heap)
    (q : ∀ h', IsEnum h' (s.heap.objs.size + 1) s.heap.objs.size 0 .none → h'.get? s.heap.objs.size = some o → h'.objs.size = s.heap.objs.size + 2 →
      (∀ b u, s.heap.get? b = some u → h'.get? b = some u) → Q (.ref (s.heap.objs.size + 1)) { s with heap := h' }) :
    wpAny (model prog w) A (call (.type "enumerate") [v]) Q E s := by
  refine callType_new F.called_enumerate (by decide) (F.typeCall_enumerate_1 _) (F.newCall_enumerate_1 _) (fun ob => F.args_object_init_2 ob _) F.entry_enumerate_new (enumNew1 B) ⟨hz, ?_⟩
  have e1 : (s.heap.push o).objs.size = s.heap.objs.size + 1 := Heap.size_push ..
  have isE : IsEnum ((s.heap.push o).push { cls := .type "enumerate", data := .fields #[.none, .bool false, .ref s.heap.objs.size, rawInt 0, .none, .none] }) (s.heap.objs.size + 1) s.heap.objs.size 0 .none := by
    have g := Heap.get?_push_size (s.heap.push o) (o := { cls := .type "enumerate", data := .fields #[.none, .bool false, .ref s.heap.objs.size, rawInt 0, .none, .none] }) rfl
    rw [e1] at g
    exact g
  show _ ∧ _
  rw [e1]
  exact ⟨⟨_, isE, rfl⟩, q _ isE (Heap.get?_push_of_some _ (Heap.get?_push_size _ B.free)) (by rw [Heap.size_push, e1]) fun b u x => Heap.get?_push_of_some _ (Heap.get?_push_of_some _ x)⟩
/-- the tuple at a, each item in a new pair -/
def ItE (K : PySem.W.Frag) (a : Addr) : It :=
  ⟨fun i H => ∃ (xs : List V) (x : V), SqT K H a xs ∧ xs[i]? = some x, fun i H v H' => ∃ T x, v = .ref T ∧ H T = none ∧ H' = upd H T (.tup [.int (i : Nat), x]) ∧ ∀ xs, SqT K H a xs → xs[i]? = some x,
    fun i H => ∃ xs : List V, SqT K H a xs ∧ xs.length = i⟩
theorem turn_enumT {P : Program} {w : World} {K : PySem.W.Frag} {elts : List Expr} {kk : Nat} {tpos : Pos} (a e it : Addr) (hae : a ≠ e) (hai : a ≠ it) (hne : e ≠ it) :
    Turn P w K (.Tuple elts kk tpos) (ItE K a) [e, it] e (fun i h => (∃ old, IsEnum h e it ((i : Nat) : Int) old) ∧ h.IsTupleIter it a i) where
  mem := by simp
  obj := fun i h st b hb => by
    obtain ⟨⟨old, he⟩, o, ho, hc, hd⟩ := st
    rcases (show b = e ∨ b = it by simpa using hb) with z | z
    · rw [z]
      exact ⟨_, he, fun v q => nomatch q⟩
    · rw [z]
      exact ⟨o, ho, fun v q => by rw [hd] at q; cases q⟩
  keep := fun i h h' st k => by
    obtain ⟨⟨old, he⟩, hi⟩ := st
    exact ⟨⟨old, k e (by simp) _ he⟩, hi.at fun o q => k it (by simp) o q⟩
  item := by
    intro X hP hw hK hc i pins s σ H E I hf st hg
    subst hP hw hK
    obtain ⟨⟨old, he⟩, hit⟩ := st
    obtain ⟨xs, x, hq, hx⟩ := hg
    obtain ⟨its, rv, p, hz⟩ := I.tuple hq
    obtain ⟨u, hu, ru⟩ := rv.get hx
    have hel : e < s.heap.objs.size := Heap.lt_size he
    have hil : it < s.heap.objs.size := by
      obtain ⟨_, q, _⟩ := hit
      exact Heap.lt_size q
    have hlt : i < its.toArray.size := by
      have := (List.getElem?_eq_some_iff.mp hu).1
      simpa using this
    refine wpAny_pyNext_enum_itemD (Draws.tuple (A := X.A.in1) (I.ok.hd hc) it a hai its.toArray) he ⟨hit, p⟩ hlt hne (by simp [hne, Ne.symm hae]) fun y h' tk hy ho hst hT hsz hk => ?_
    have ey : y = u := by
      have e1 : its[i]? = some y := by simpa using hy
      rw [hu] at e1
      exact (Option.some.inj e1).symm
    subst ey
    refine ⟨_, rfl, wpAny_letOwnedTupleGo_enum (s := { s with heap := h', toks := tk + 1 }) ho fun h2 he2 sb => ?_⟩
    have hT2 : h2.get? s.heap.objs.size = some { cls := .type "tuple", data := .seq #[.int i tk, y] } := (sb.2 _ (Nat.ne_of_gt hel)).trans hT
    have new : ObjOk X.prog X.w (upd H s.heap.objs.size (.tup [.int (i : Nat), x])) h2 s.heap.objs.size (.tup [.int (i : Nat), x]) :=
      ⟨by show 2 ≤ sizeLine; decide, [.int i tk, y], .cons ⟨_, rfl⟩ (.cons ru .nil), ⟨_, hT2, rfl, _, rfl⟩⟩
    have I1 : Inv X pins σ (upd H s.heap.objs.size (.tup [.int (i : Nat), x])) { s with heap := h2, toks := tk + 1 } :=
      I.turnedNew (ch := [e, it]) (fun b ob hb q => (sb.2 b (fun z => hb (by simp [z]))).trans (hk b ob (fun z => hb (by simp [z])) (fun z => hb (by simp [z])) q)) hf (Nat.le_refl _) new
    refine ⟨.ref s.heap.objs.size, _, I1, rfl, ⟨_, x, rfl, I.hok.fresh (Nat.le_refl _), rfl, fun ys hy => by rw [I.tuple_inj hy hq]; exact hx⟩, ⟨⟨y, ?_⟩, hst.1.at fun o q => (sb.2 it (Ne.symm hne)).trans q⟩, fun b hb => ?_⟩
    · rw [show ((i + 1 : Nat) : Int) = (i : Int) + 1 by omega]
      exact he2
    · have hb' : b < s.heap.objs.size := by
        rcases (show b = e ∨ b = it by simpa using hb) with z | z
        · rw [z]; exact hel
        · rw [z]; exact hil
      rw [upd_ne (Nat.ne_of_lt hb')]
      exact (hf b hb).1
  done := by
    intro X hP hw hK hc i pins s σ H E I hf st hg
    subst hP hw hK
    obtain ⟨⟨old, he⟩, hit⟩ := st
    obtain ⟨xs, hq, hx⟩ := hg
    obtain ⟨its, rv, p, hz⟩ := I.tuple hq
    obtain ⟨f0, f1, f2, f3, f4, f5⟩ := hf it (by simp)
    have hl := rv.length
    have hle : i = its.toArray.size := by simp; omega
    rw [hle] at hit
    refine wpAny_pyNext_enum_endD (Draws.tuple (A := X.A.in1) (I.ok.hd hc) it a hai its.toArray) he ⟨hit, p⟩ fun h' eb => ⟨rfl, I.turned (t' := s.toks) (fun b o hb q => eb b o hb q) f0 f1 f3 f4 f5⟩
  self := fun A i s Q E st h => by
    obtain ⟨⟨_, he⟩, _⟩ := st
    exact wpAny_pyIter_enum he h
def iEnumT (K : PySem.W.Frag) (ta : TA) : TI := fun σ H R => ta σ H fun vs H1 => ∃ a xs, vs = [.ref a] ∧ SqT K H1 a xs ∧ R (ItE K a) H1
theorem pi_enumT {X : Cx} {e : Expr} {ta : TA} {p pos tpos : Pos} {elts : List Expr} {kk : Nat} (hg : Gl X "enumerate") (hm : X.mg "enumerate" = none) (ha : PA X [e] ta) (hs : starEach [e] X.env = [(false, eval e X.env)] := by rfl) :
    PI X (.Tuple elts kk tpos) (.Call (.Name "enumerate" p) [e] [] pos) (iEnumT X.K ta) := by
  refine ⟨fun pins s σ H R I h => Call_ (ld_blt I hg hm PyProof.Rows.boot_enumerate (PyProof.Rows.callWith_type1 (thn (ha.run pos pins s σ H _ I h) fun us s1 got => ?_) hs rfl))⟩
  obtain ⟨vs, H1, I1, r1, a, xs, ex, hq, q⟩ := got
  subst ex
  cases r1 with
  | cons r rr =>
    cases rr
    cases r
    obtain ⟨its, rv, pt, hz⟩ := I1.tuple hq
    have hal : a < s1.heap.objs.size := pt.lt
    refine call_enum1 (begins_tuple a its.toArray) (show s1.heap.IsTuple a its.toArray from pt) fun h' he hit hsz hk => wpAny_pyIter_enum he ?_
    have I2 : Inv X pins σ H1 { s1 with heap := h' } := I1.kept (t' := s1.toks) hk
    refine ⟨s1.heap.objs.size + 1, [s1.heap.objs.size + 1, s1.heap.objs.size], _, _, H1, rfl, I2, turn_enumT a (s1.heap.objs.size + 1) s1.heap.objs.size (Nat.ne_of_lt (Nat.lt_succ_of_lt hal)) (Nat.ne_of_lt hal) (Nat.succ_ne_self _), ⟨⟨.none, he⟩, ⟨_, hit, rfl, rfl⟩⟩, fun b hb => ?_, q⟩
    have hle : s1.heap.objs.size ≤ b := by
      rcases (show b = s1.heap.objs.size + 1 ∨ b = s1.heap.objs.size by simpa using hb) with z | z
      · rw [z]; exact Nat.le_add_right _ _
      · rw [z]; exact Nat.le_refl _
    exact I1.fpOk hle (I1.hok.fresh hle)
theorem for_enumT {K : PySem.W.Frag} {a : Addr} {xs : List V} {g : TG} {tb : TS} {D : Ends} {σ : L2.St} {H : Hp} (Pv : Nat → L2.St → Hp → Prop) (h0 : Pv 0 σ H) (hl : ∀ i σ H, i ≤ xs.length → Pv i σ H → SqT K H a xs)
    (hs : ∀ i x σ H T, xs[i]? = some x → Pv i σ H → H T = none → g (.ref T) σ (upd H T (.tup [.int (i : Nat), x])) fun σ2 H2 => tb { D with nx := Pv (i + 1), ct := Pv (i + 1), bk := D.nx } σ2 H2) (hd : ∀ σ H, Pv xs.length σ H → D.nx σ H) :
    ∃ W : Nat → Nat → L2.St → Hp → Prop, (∃ m, W 0 m σ H) ∧ ∀ i m σ H, W i m σ H →
      ((ItE K a).stop i H ∧ D.nx σ H) ∨ ((ItE K a).go i H ∧ ∃ N : L2.St → Hp → Prop, (∀ σ' H', N σ' H' → ∃ m', m' < m ∧ W (i + 1) m' σ' H') ∧ ∀ x H', (ItE K a).yld i H x H' → g x σ H' fun σ2 H2 => tb { D with nx := N, ct := N, bk := D.nx } σ2 H2) := by
  refine ⟨fun i m σ H => i + m = xs.length ∧ Pv i σ H, ⟨xs.length, Nat.zero_add _, h0⟩, ?_⟩
  rintro i m σ H ⟨em, pv⟩
  have q := hl i σ H (by omega) pv
  by_cases hlt : i < xs.length
  · refine .inr ⟨⟨xs, xs[i], q, List.getElem?_eq_getElem hlt⟩, Pv (i + 1), fun σ' H' p' => ⟨m - 1, by omega, by omega, p'⟩, fun x H' y => ?_⟩
    obtain ⟨T, y, rfl, nT, rfl, fy⟩ := y
    exact hs i y σ H T (fy xs q) pv nT
  · have e : i = xs.length := by omega
    subst e
    exact .inl ⟨⟨xs, q, rfl⟩, hd σ H pv⟩
end Fw
end

section
set_option linter.all false
set_option maxRecDepth 100000
set_option maxHeartbeats 2000000
namespace Fw
open PySem PySem.Spec PyProof.Rows L2
abbrev Cn : String := "itertools.combinations"
theorem mro_comb : mroOf (.type "itertools.combinations") = pure [.type "itertools.combinations", .type "object"] := by
  rw [mroOf_type]
  kernel_rfl
theorem new_comb : typeLookup (.type "itertools.combinations") "__new__" = pure (some (.builtin "itertools.combinations.__new__")) := by
  rw [typeLookup_type, builtinLookup_eq_fast]
  kernel_rfl
theorem init_comb : Slot "itertools.combinations" "__init__" "object.__init__" := .of (owner := "object") (n := "__init__")
  (by rw [typeLookup_type, builtinLookup_eq_fast]; kernel_rfl) (by decide +kernel) (by decide +kernel) (by decide +kernel) (by first | exact .inl (by decide +kernel) | exact .inr (by decide +kernel)) (by rw [isSubtype_type]; kernel_rfl)
theorem sub_comb : isSubtype (.type "itertools.combinations") (.type "itertools.combinations") = pure true := by
  rw [isSubtype_type]
  kernel_rfl
theorem called_comb : TypeCalled "itertools.combinations" "itertools.combinations.__new__" "object.__init__" where
  notType := by decide +kernel
  canCreate := by decide +kernel
  mro := ⟨_, _, mro_comb⟩
  made := madeBy_type mro_comb new_comb (by decide +kernel)
  plain := by decide +kernel
  sub := sub_comb
  init := init_comb
theorem tyCall_comb (a b : Value) : checkTypeCall "itertools.combinations" ⟨[a, b], []⟩ = pure () := by kernel_rfl
theorem nwCall_comb (a b : Value) : checkBuiltinCall "itertools.combinations.__new__" ⟨[.type "itertools.combinations", a, b], []⟩ = pure () := by kernel_rfl
theorem entry_comb_new : entryFor table "itertools.combinations.__new__" = some Builtin.«itertools.combinations.__new__» := entryFor_of_tree (by kernel_rfl)
theorem bind_comb (a b : Value) : Builtin.Itertools.itBindNamed "combinations" ["iterable", "r"] 2 2 [a, b] [] = pure [some a, some b] := by kernel_rfl
theorem name_comb : ("itertools." ++ "combinations" : String) = "itertools.combinations" := by decide +kernel
/-- a combinations object over the pool, its state, what it handed out last, its places -/
def combObj (pool : Addr) (st : Int) (last : Value) (ix : List Nat) : Obj := { cls := .type "itertools.combinations", data := .fields ([.ref pool, .int st 0, last] ++ ix.map fun (i : Nat) => Value.int (i : Int) 0).toArray }
theorem noDict_comb : typeHasDict (.type "itertools.combinations") = false := by decide +kernel
theorem meets_comb_new (l : Addr) (its : List Value) (r : Nat) (t : Tok) (hr : r ≤ its.length) (h1 : its.length ≤ 1000) :
    Meets (Builtin.«itertools.combinations.__new__» ⟨[.type "itertools.combinations", .ref l, .int r t], []⟩)
      (fun _ R s => s.heap.IsList l its.toArray ∧ ∀ (h' : Heap) (pool it : Addr), (∀ b o, s.heap.get? b = some o → h'.get? b = some o) → s.heap.objs.size ≤ pool → s.heap.objs.size ≤ it → pool ≠ it →
        h'.get? pool = some { cls := .type "tuple", data := .seq its.toArray } → h'.get? it = some (combObj pool 0 .none (List.range r)) → R (.ok (.ret (.ref it))) { s with heap := h' }) :=
  .of_wp fun prog w A R s h => by
    obtain ⟨hp, g, dd, tk, os⟩ := s
    obtain ⟨hl, h⟩ := h
    have hsub := sub_comb
    have sz : sizeLine = 16777216 := sizeLine_eq
    repeat (first
      | wp_step
      | simp only [List.head?_cons, Option.some_or, List.getElem?_cons_succ, List.getElem?_cons_zero, List.length_cons, List.length_nil, List.forIn_nil])
    rw [name_comb, hsub]
    refine wpAny_pure ?_
    refine wpAny_pure ?_
    refine wpAny_bind ?_
    rw [bind_comb]
    refine wpAny_pure ?_
    repeat (first
      | wp_step
      | simp only [List.head?_cons, Option.some_or, List.getElem?_cons_succ, List.getElem?_cons_zero, List.length_cons, List.length_nil, List.forIn_nil])
    have c1 : (decide ((r : Int) < -2 ^ 63) || decide ((r : Int) ≥ 2 ^ 63)) = false := by
      rw [decide_eq_false (by omega), decide_eq_false (by omega)]
      rfl
    rw [c1, if_neg Bool.false_ne_true]
    refine wpAny_pure ?_
    refine wpAny_bind (collect_list hl ?_ (by rw [sz]; omega))
    have c2 : ¬ ((r : Int) < 0) := by omega
    have c3 : Builtin.Itertools.itTooMany (r : Int) = false := by
      unfold Builtin.Itertools.itTooMany
      exact decide_eq_false (by omega)
    rw [if_neg c2, c3, if_neg Bool.false_ne_true]
    refine wpAny_bind (wpAny_newTuple ?_ (by rw [sz]; omega))
    refine wpAny_pure ?_
    show wpAny _ _ (Builtin.Itertools.itNewRecord _ _ >>= _) _ _ _
    refine wpAny_bind ?_
    unfold Builtin.Itertools.itNewRecord
    dsimp only
    rw [noDict_comb]
    rw [Bool.not_false, if_pos rfl, Int.toNat_natCast, if_neg (by omega)]
    have kb : ∀ b o, hp.get? b = some o → ((hp.push (seqObj "list" #[] 0)).update hp.objs.size (Obj.mapSeq fun x => x ++ its.toArray)).get? b = some o := fun b o e => by
      have ne : hp.objs.size ≠ b := Nat.ne_of_gt (Heap.lt_size e)
      rw [Heap.get?_update_other _ _ ne]
      exact Heap.get?_push_of_some _ e
    have zb : ((hp.push (seqObj "list" #[] 0)).update hp.objs.size (Obj.mapSeq fun x => x ++ its.toArray)).objs.size = hp.objs.size + 1 := by
      rw [Heap.size_update, Heap.size_push]
    generalize ((hp.push (seqObj "list" #[] 0)).update hp.objs.size (Obj.mapSeq fun x => x ++ its.toArray)) = hb at kb zb
    refine wpAny_newObj_type ?_ (by show _ ≤ _; simp; omega)
    refine wpAny_pure ⟨_, rfl, ?_⟩
    have zt : (hb.push { cls := .type "tuple", data := .seq its.toArray }).objs.size = hp.objs.size + 2 := by rw [Heap.size_push, zb]
    refine h _ hb.objs.size _ (fun b o e => Heap.get?_push_of_some _ (Heap.get?_push_of_some _ (kb b o e))) (by show hp.objs.size ≤ hb.objs.size; omega) (by show hp.objs.size ≤ (hb.push { cls := .type "tuple", data := .seq its.toArray }).objs.size; rw [zt]; omega) ?_ (Heap.get?_push_of_some _ (Heap.get?_push_size _ rfl)) (Heap.get?_push_size _ rfl)
    rw [zt, zb]
    exact Nat.ne_of_lt (Nat.lt_succ_self _)
section
variable {prog : Program} {w : World} {A : Around} {E : Value → Shared → Prop} {s : Shared}
theorem call_comb {l : Addr} {its : List Value} {r : Nat} {t : Tok} {Q : Value → Shared → Prop} (hl : s.heap.IsList l its.toArray) (hr : r ≤ its.length) (h1 : its.length ≤ 1000)
    (q : ∀ (h' : Heap) (pool it : Addr), (∀ b o, s.heap.get? b = some o → h'.get? b = some o) → s.heap.objs.size ≤ pool → s.heap.objs.size ≤ it → pool ≠ it →
        h'.get? pool = some { cls := .type "tuple", data := .seq its.toArray } → h'.get? it = some (combObj pool 0 .none (List.range r)) → Q (.ref it) { s with heap := h' }) :
    wpAny (model prog w) A (call (.type "itertools.combinations") [.ref l, .int r t]) Q E s := by
  refine callType_new called_comb (by decide +kernel) (tyCall_comb _ _) (nwCall_comb _ _) (fun obj => F.args_object_init_3 obj _ _) entry_comb_new (meets_comb_new l its r t hr h1) ⟨hl, fun h' pool it k a b c d e => ?_⟩
  exact ⟨⟨_, e, rfl⟩, q h' pool it k a b c d e⟩
end
theorem slot_comb_iter : Slot "itertools.combinations" "__iter__" "itertools.combinations.__iter__" := .of (owner := "itertools.combinations") (n := "__iter__")
  (by rw [typeLookup_type, builtinLookup_eq_fast]; kernel_rfl) (by decide +kernel) (by decide +kernel) (by decide +kernel) (by first | exact .inl (by decide +kernel) | exact .inr (by decide +kernel)) sub_comb
theorem slot_comb_next : Slot "itertools.combinations" "__next__" "itertools.combinations.__next__" := .of (owner := "itertools.combinations") (n := "__next__")
  (by rw [typeLookup_type, builtinLookup_eq_fast]; kernel_rfl) (by decide +kernel) (by decide +kernel) (by decide +kernel) (by first | exact .inl (by decide +kernel) | exact .inr (by decide +kernel)) sub_comb
theorem entry_comb_next : entryFor table "itertools.combinations.__next__" = some Builtin.«itertools.combinations.__next__» := entryFor_of_tree (by kernel_rfl)
theorem entry_comb_iter : entryFor table "itertools.combinations.__iter__" = some Builtin.«dict_keyiterator.__iter__» :=
  entryFor_alias (id' := "dict_keyiterator.__iter__") (by kernel_rfl) (by first | rfl | decide +kernel | (unfold String.splitOn; simp +decide [String.splitOnAux])) (by decide +kernel) (by kernel_rfl)
theorem owner_comb : Manifest.owners.lookup (String.ofList (['s', 'n', 'o', 'i', 't', 'a', 'n', 'i', 'b', 'm', 'o', 'c', '.', 's', 'l', 'o', 'o', 't', 'r', 'e', 't', 'i'] : List Char).reverse) = some Manifest.sig_itertools_combinations := by kernel_rfl
theorem args_comb_iter (a : Value) : argsOk "itertools.combinations.__iter__" ⟨[a], []⟩ := by
  unfold argsOk
  rw [signature?_of (id := "itertools.combinations.__iter__") (n := ['_', '_', 'r', 'e', 't', 'i', '_', '_']) (o := ['s', 'n', 'o', 'i', 't', 'a', 'n', 'i', 'b', 'm', 'o', 'c', '.', 's', 'l', 'o', 'o', 't', 'r', 'e', 't', 'i']) (by kernel_rfl) owner_comb]
  kernel_rfl
theorem args_comb_next (a : Value) : argsOk "itertools.combinations.__next__" ⟨[a], []⟩ := by
  unfold argsOk
  rw [signature?_of (id := "itertools.combinations.__next__") (n := ['_', '_', 't', 'x', 'e', 'n', '_', '_']) (o := ['s', 'n', 'o', 'i', 't', 'a', 'n', 'i', 'b', 'm', 'o', 'c', '.', 's', 'l', 'o', 'o', 't', 'r', 'e', 't', 'i']) (by kernel_rfl) owner_comb]
  kernel_rfl
end Fw
end

section
set_option linter.all false
set_option maxRecDepth 100000
set_option maxHeartbeats 2000000
namespace Fw
open PySem PySem.Spec PyProof.Rows L2
/-- the places behind these ones -/
def nextIx (n : Nat) (l : List Nat) : Option (List Nat) :=
  ((List.range l.length).reverse.find? fun k => l.getD k 0 != k + n - l.length).map fun k => l.take k ++ (List.range (l.length - k)).map fun j => l.getD k 0 + 1 + j
theorem comb_get {pool : Addr} {st : Int} {last : Value} {ix : List Nat} : (combObj pool st last ix).data = .fields ([Value.ref pool, Value.int st 0, last] ++ ix.map fun (i : Nat) => Value.int (i : Int) 0).toArray := rfl
theorem map_back : ∀ (ix : List Nat) (f : Value → Nat), (∀ i : Nat, f (.int (i : Int) 0) = i) → (ix.map fun (i : Nat) => Value.int (i : Int) 0).map f = ix
  | [], _, _ => rfl
  | i :: ix, f, h => by rw [List.map_cons, List.map_cons, h i, map_back ix f h]
section
variable {prog : Program} {w : World} {A : Around} {E : Value → Shared → Prop} {s : Shared}
/-- a tuple of the pool's items is made, the object turned -/
theorem comb_hand {it pool : Addr} {last : Value} {ix : List Nat} {its : List Value} {m : Sem Value} {R : Value → Shared → Prop} (hm : m = (do
      let items ← Builtin.Itertools.itPoolItems (.ref pool)
      newTuple (ix.map fun i => items.getD i Value.none))) (ho : s.heap.get? it = some (combObj pool 1 last ix)) (hp : s.heap.get? pool = some { cls := .type "tuple", data := .seq its.toArray })
    (hQ : ∀ h', h'.get? it = some (combObj pool 1 last ix) → h'.get? s.heap.objs.size = some { cls := .type "tuple", data := .seq (ix.map fun i => its.toArray.getD i Value.none).toArray } →
      (∀ b o, s.heap.get? b = some o → h'.get? b = some o) → R (.ref s.heap.objs.size) { s with heap := h' }) (hz : ix.length ≤ 1000) : wpAny (model prog w) A m R E s := by
  subst hm
  refine wpAny_bind ?_
  unfold Builtin.Itertools.itPoolItems
  refine wpAny_bind (wpAny_seqItems hp rfl ?_)
  refine wpAny_pure ?_
  refine wpAny_newTuple (hQ _ (Heap.get?_push_of_some _ ho) (Heap.get?_push_size _ rfl) fun b o e => Heap.get?_push_of_some _ e) ?_
  rw [List.length_map, sizeLine_eq]
  omega
theorem comb_item {it pool : Addr} {last : Value} {ix ix' : List Nat} {st : Int} {its : List Value} {Q : Option Value → Shared → Prop} (ho : s.heap.get? it = some (combObj pool st last ix)) (hp : s.heap.get? pool = some { cls := .type "tuple", data := .seq its.toArray }) (hne : pool ≠ it)
    (hst : (st = 0 ∧ ix' = ix) ∨ (st = 1 ∧ nextIx its.length ix = some ix')) (hz : ix.length ≤ 1000) (hz' : ix'.length ≤ 1000)
    (hQ : ∀ h', h'.get? it = some (combObj pool 1 (.ref s.heap.objs.size) ix') → h'.get? s.heap.objs.size = some { cls := .type "tuple", data := .seq (ix'.map fun i => its.toArray.getD i Value.none).toArray } →
      (∀ b o, b ≠ it → s.heap.get? b = some o → h'.get? b = some o) → Q (some (.ref s.heap.objs.size)) { s with heap := h' }) :
    wpAny (model prog w) A (pyNext (.ref it)) Q E s := by
  have hT : s.TypeIs (.ref it) "itertools.combinations" := ⟨_, ho, rfl⟩
  have hlt : it < s.heap.objs.size := Heap.lt_size ho
  unfold pyNext
  refine wpAny_bind (wpAny_attempt (wpAny_callSpecial?_slot (name := Str.ofString "__next__") hT slot_comb_next (wpAny_call_entry slot_comb_next hT entry_comb_next ?_ (args_comb_next _))))
  show wpAny _ _ (field (.ref it) 0 >>= _) _ _ s
  refine wpAny_bind (wpAny_field ho rfl (x := .ref pool) rfl ?_)
  show wpAny _ _ (Builtin.Itertools.itNumbersFrom (.ref it) 3 >>= _) _ _ s
  refine wpAny_bind ?_
  unfold Builtin.Itertools.itNumbersFrom
  dsimp only
  refine wpAny_bind (wpAny_load ho ?_)
  refine wpAny_pure ?_
  generalize hg : List.map (α := Value) (β := Nat) _ (List.drop 3 _) = g
  have eg : g = ix := by
    rw [← hg]
    exact map_back ix _ fun i => rfl
  subst eg
  clear hg
  refine wpAny_bind ?_
  unfold Builtin.Itertools.itIntField
  refine wpAny_bind (wpAny_field ho rfl (x := .int st 0) rfl ?_)
  refine wpAny_pure ?_
  -- what is common: the object turned, with its places new, hands out
  have fin : ∀ (h1 : Heap) (last1 : Value), h1.get? it = some (combObj pool 1 last1 ix') → (∀ b o, b ≠ it → s.heap.get? b = some o → h1.get? b = some o) → h1.objs.size = s.heap.objs.size → ∀ m : Sem Value, m = (do
        let items ← Builtin.Itertools.itPoolItems (.ref pool)
        newTuple (ix'.map fun i => items.getD i Value.none)) →
      wpAny (model prog w) A.in1 (do
        let result ← m
        let before ← field (Value.ref it) 2
        setField (Value.ref it) 2 result
        letGo [before] [result]
        ret result) (fun fin s' => ∃ v, fin = Fin.done (Flow.ret v) ∧ wpAny (model prog w) A (pure (some v)) Q E s') (fun e s' => wpAny (model prog w) A (do
          let b ← isInstance e (Value.type "StopIteration")
          if b = true then pure none else throw e) Q E s') { s with heap := h1 } := by
    intro h1 last1 e1 k1 z1 m hm
    refine wpAny_bind (comb_hand (s := { s with heap := h1 }) hm e1 (k1 pool _ hne hp) (fun h2 e2 t2 k2 => ?_) hz')
    refine wpAny_bind (wpAny_field e2 rfl (x := last1) rfl ?_)
    refine wpAny_bind (wpAny_setField (s := { s with heap := h2 }) e2 rfl (by simp) ?_)
    have e3 := Heap.get?_update_self (Obj.mapFields fun x => x.setIfInBounds 2 (.ref h1.objs.size)) e2 rfl
    refine wpAny_bind (wpAny_letGo ?_)
    refine wpAny_pure ⟨_, rfl, wpAny_pure ?_⟩
    show Q (some (Value.ref h1.objs.size)) _
    rw [z1] at t2 e3 ⊢
    refine hQ _ e3 ?_ fun b o hb e => ?_
    · rw [Heap.get?_update_other _ _ (Nat.ne_of_lt hlt)]
      exact t2
    · rw [Heap.get?_update_other _ _ (Ne.symm hb)]
      exact k2 _ _ (k1 b o hb e)
  rcases hst with ⟨rfl, rfl⟩ | ⟨rfl, hn⟩
  · show wpAny _ _ (setField (.ref it) 1 (rawInt 1) >>= _) _ _ s
    refine wpAny_bind (wpAny_setField ho rfl (by simp) ?_)
    have e1 := Heap.get?_update_self (Obj.mapFields fun x => x.setIfInBounds 1 (rawInt 1)) ho rfl
    exact fin _ last e1 (fun b o hb e => (Heap.get?_update_other _ _ (Ne.symm hb)).trans e) (Heap.size_update ..) _ rfl
  · show wpAny _ _ (Builtin.Itertools.itPoolItems (.ref pool) >>= _) _ _ s
    refine wpAny_bind ?_
    unfold Builtin.Itertools.itPoolItems
    refine wpAny_bind (wpAny_seqItems hp rfl ?_)
    refine wpAny_pure ?_
    have en : nextIx its.toArray.size g = some ix' := by
      rw [List.size_toArray]
      exact hn
    split
    rotate_left
    · rename_i heq
      have q : nextIx its.toArray.size g = none := Eq.trans (by kernel_rfl) heq
      rw [en] at q
      cases q
    rename_i nx heq
    have q : nextIx its.toArray.size g = some nx := Eq.trans (by kernel_rfl) heq
    have e9 : ix' = nx := Option.some.inj (en.symm.trans q)
    rw [← e9]
    show wpAny _ _ (Builtin.Itertools.itSetNumbersFrom (.ref it) 3 ix' >>= _) _ _ s
    refine wpAny_bind ?_
    unfold Builtin.Itertools.itSetNumbersFrom
    refine wpAny_updateFields ho rfl ?_ (by simp; rw [sizeLine_eq]; omega)
    have e1 := Heap.get?_update_self (Obj.mapFields fun fs => fs.extract 0 3 ++ (List.map (fun (n : Nat) => rawInt (n : Int)) ix').toArray) ho rfl
    refine fin _ last ?_ (fun b o hb e => (Heap.get?_update_other _ _ (Ne.symm hb)).trans e) (Heap.size_update ..) _ rfl
    rw [e1]
    unfold combObj
    simp [Obj.mapFields, rawInt]
end
end Fw
end

section
set_option linter.all false
set_option maxRecDepth 100000
set_option maxHeartbeats 2000000
namespace Fw
open PySem PySem.Spec PyProof.Rows L2
section
variable {prog : Program} {w : World} {A : Around} {E : Value → Shared → Prop} {s : Shared}
theorem comb_done {it pool : Addr} {last : Value} {ix : List Nat} {its : List Value} {Q : Option Value → Shared → Prop} (hh : A.handled = none) (ho : s.heap.get? it = some (combObj pool 1 last ix)) (hp : s.heap.get? pool = some { cls := .type "tuple", data := .seq its.toArray })
    (hn : nextIx its.length ix = none) (hQ : ∀ h', (∀ b o, b ≠ it → s.heap.get? b = some o → h'.get? b = some o) → Q none { s with heap := h' }) : wpAny (model prog w) A (pyNext (.ref it)) Q E s := by
  have hT : s.TypeIs (.ref it) "itertools.combinations" := ⟨_, ho, rfl⟩
  unfold pyNext
  refine wpAny_bind (wpAny_attempt (wpAny_callSpecial?_slot (name := Str.ofString "__next__") hT slot_comb_next (wpAny_call_entry slot_comb_next hT entry_comb_next ?_ (args_comb_next _))))
  show wpAny _ _ (field (.ref it) 0 >>= _) _ _ s
  refine wpAny_bind (wpAny_field ho rfl (x := .ref pool) rfl ?_)
  show wpAny _ _ (Builtin.Itertools.itNumbersFrom (.ref it) 3 >>= _) _ _ s
  refine wpAny_bind ?_
  unfold Builtin.Itertools.itNumbersFrom
  dsimp only
  refine wpAny_bind (wpAny_load ho ?_)
  refine wpAny_pure ?_
  generalize hg : List.map (α := Value) (β := Nat) _ (List.drop 3 _) = g
  have eg : g = ix := by
    rw [← hg]
    exact map_back ix _ fun i => rfl
  subst eg
  clear hg
  refine wpAny_bind ?_
  unfold Builtin.Itertools.itIntField
  refine wpAny_bind (wpAny_field ho rfl (x := .int 1 0) rfl ?_)
  refine wpAny_pure ?_
  show wpAny _ _ (Builtin.Itertools.itPoolItems (.ref pool) >>= _) _ _ s
  refine wpAny_bind ?_
  unfold Builtin.Itertools.itPoolItems
  refine wpAny_bind (wpAny_seqItems hp rfl ?_)
  refine wpAny_pure ?_
  have en : nextIx its.toArray.size g = none := by
    rw [List.size_toArray]
    exact hn
  split
  · rename_i nx heq
    have q : nextIx its.toArray.size g = some nx := Eq.trans (by kernel_rfl) heq
    rw [en] at q
    cases q
  show wpAny _ _ (setField (.ref it) 1 (rawInt 2) >>= _) _ _ s
  refine wpAny_bind (wpAny_setField ho rfl (by simp) ?_)
  unfold Builtin.Itertools.itStop
  refine wpAny_bind ?_
  simp only [newExc, newTuple]
  refine wpAny_bind (wpAny_newObj_type ?_ (by size_fits))
  refine wpAny_bind (m := firstArgMember _ _) (wpAny_of_eq (a := Value.none) (by first | rfl | (simp only [firstArgMember]; rfl)) ?_)
  refine wpAny_newObj_type ?_ (by size_fits)
  simp only [raiseNew]
  refine wpAny_bind (wpAny_handled ?_)
  rw [show A.in1.handled = none from hh]
  refine wpAny_bind (wpAny_pure (wpAny_throw ?_))
  refine wpAny_bind (wpAny_isInstance (T := "StopIteration") (b := true) ⟨_, Heap.get?_push_size _ rfl, rfl⟩ isSubtype_stop ?_)
  exact wpAny_pure (hQ _ fun b o hb e => Heap.get?_push_of_some _ (Heap.get?_push_of_some _ ((Heap.get?_update_other _ _ (Ne.symm hb)).trans e)))
end
def chainB (n : Nat) : List (List Nat) → Bool
  | [] => false
  | [l] => (nextIx n l).isNone
  | l :: l' :: r => decide (nextIx n l = some l') && chainB n (l' :: r)
/-- what is still to come -/
def Ahead (n : Nat) (st : Int) (ix : List Nat) (L : List (List Nat)) : Prop := (st = 0 ∧ chainB n L = true ∧ L.head? = some ix) ∨ (st = 1 ∧ chainB n (ix :: L) = true)
/-- the tuples made -/
abbrev TupsAt (h : Heap) (its : List Value) (as : List Addr) (L : List (List Nat)) : Prop := Paired (fun a (ix : List Nat) => h.get? a = some { cls := .type "tuple", data := .seq (ix.map fun i => its.toArray.getD i Value.none).toArray }) as L
section
variable {prog : Program} {w : World} {A : Around} {R : Result → Shared → Prop}
theorem comb_loop (hh : A.handled = none) {S it pool : Addr} (hSi : S ≠ it) (hSp : S ≠ pool) (hne : pool ≠ it) {its : List Value} (res : Value) : ∀ (L : List (List Nat)) (st : Int) (ix : List Nat) (last : Value) (s : Shared) (acc : Array Value) (c : Nat),
    Ahead its.length st ix L → ix.length ≤ 1000 → (∀ l ∈ L, l.length ≤ 1000) → acc.size + L.length ≤ 10000 → s.heap.get? it = some (combObj pool st last ix) → s.heap.get? pool = some { cls := .type "tuple", data := .seq its.toArray } →
    s.heap.get? S = some { cls := .type "list", dict := none, data := .seq acc c, slots := #[] } →
    (∀ h' c' as, (∀ b o, b ≠ S → b ≠ it → s.heap.get? b = some o → h'.get? b = some o) → h'.get? S = some { cls := .type "list", dict := none, data := .seq (acc ++ (as.map Value.ref).toArray) c', slots := #[] } →
      TupsAt h' its as L → (∀ a ∈ as, s.heap.objs.size ≤ a) → as.Pairwise (fun a b => a < b) → R (.ok (.ret res)) { s with heap := h' }) →
    codeAny (model prog w) A (.builtin "list.extend.loop" ⟨[.ref S, .ref it, res], []⟩) R s
  | [], st, ix, last, s, acc, c, ha, hz, hzl, hsz, ho, hp, hS, hR => by
    rcases ha with ⟨_, h1, _⟩ | ⟨rfl, h1⟩
    · cases h1
    · refine codeAny_builtin F.entry_extend_loop ?_
      rw [Around.under_plainId F.plain_extend_loop _]
      show wpAny _ A.in1 (pyNext (.ref it) >>= _) _ _ s
      refine wpAny_bind (comb_done (A := A.in1) hh ho hp (by simpa [chainB] using h1) fun h' k => ?_)
      refine wpAny_pure (hR h' c [] (fun b o hS' hb e => k b o hb e) ?_ .nil (fun a z => nomatch z) List.Pairwise.nil)
      simpa using k S _ hSi hS
  | l :: L, st, ix, last, s, acc, c, ha, hz, hzl, hsz, ho, hp, hS, hR => by
    have hst : (st = 0 ∧ l = ix) ∨ (st = 1 ∧ nextIx its.length ix = some l) := by
      rcases ha with ⟨h0, _, h2⟩ | ⟨h0, h1⟩
      · exact .inl ⟨h0, Option.some.inj h2⟩
      · refine .inr ⟨h0, ?_⟩
        unfold chainB at h1
        exact of_decide_eq_true (Bool.and_eq_true _ _ ▸ h1).1
    have hnx : chainB its.length (l :: L) = true := by
      rcases ha with ⟨_, h1, _⟩ | ⟨_, h1⟩
      · exact h1
      · unfold chainB at h1
        exact (Bool.and_eq_true _ _ ▸ h1).2
    refine codeAny_builtin F.entry_extend_loop ?_
    rw [Around.under_plainId F.plain_extend_loop _]
    show wpAny _ A.in1 (pyNext (.ref it) >>= _) _ _ s
    refine wpAny_bind (comb_item ho hp hne hst hz (hzl l List.mem_cons_self) fun h1 e1 t1 k1 => ?_)
    have hS1 := k1 S _ hSi hS
    have hlt : s.heap.objs.size < h1.objs.size := Heap.lt_size t1
    have hSlt : S < s.heap.objs.size := Heap.lt_size hS
    rw [List.length_cons] at hsz
    show wpAny _ A.in1 (updateSeq S (·.push (.ref s.heap.objs.size)) >>= _) _ _ _
    refine wpAny_bind (wpAny_updateSeq (s := { s with heap := h1 }) hS1 rfl (wpAny_pure ⟨plainId_quiet F.plain_extend_loop _, ?_⟩) (by rw [sizeLine_eq]; omega) (by show (acc.push _).size ≤ _; rw [Array.size_push, sizeLine_eq]; omega))
    have hS2 := Heap.get?_update_self (Obj.mapSeq (·.push (Value.ref s.heap.objs.size))) hS1 rfl
    refine comb_loop hh hSi hSp hne res L 1 l (.ref s.heap.objs.size) { s with heap := h1.update S (Obj.mapSeq (·.push (Value.ref s.heap.objs.size))) } (acc.push (.ref s.heap.objs.size)) _ (.inr ⟨rfl, hnx⟩) (hzl l List.mem_cons_self) (fun x hx => hzl x (List.mem_cons_of_mem _ hx)) (by rw [Array.size_push]; omega)
      ((Heap.get?_update_other _ _ hSi).trans e1) ((Heap.get?_update_other _ _ hSp).trans (k1 pool _ hne hp)) hS2 fun h2 c2 as k2 s2 t2 b2 p2 => ?_
    have hz2 : (h1.update S (Obj.mapSeq (·.push (Value.ref s.heap.objs.size)))).objs.size = h1.objs.size := Heap.size_update ..
    have nit : s.heap.objs.size ≠ it := Nat.ne_of_gt (Heap.lt_size ho)
    refine hR h2 c2 (s.heap.objs.size :: as) (fun b o hb hi e => k2 b o hb hi ((Heap.get?_update_other _ _ (Ne.symm hb)).trans (k1 b o hi e))) ?_ (.cons ?_ t2) (fun a hm => ?_) (List.pairwise_cons.mpr ⟨fun a hm => ?_, p2⟩)
    · rw [s2]
      simp
    · exact k2 _ _ (Nat.ne_of_gt hSlt) nit ((Heap.get?_update_other _ _ (Nat.ne_of_lt hSlt)).trans t1)
    · rcases List.mem_cons.mp hm with z | hm
      · rw [z]
        exact Nat.le_refl _
      · have := b2 a hm
        have q : h1.objs.size ≤ a := by rw [← hz2]; exact this
        exact Nat.le_of_lt (Nat.lt_of_lt_of_le hlt q)
    · have := b2 a hm
      have q : h1.objs.size ≤ a := by rw [← hz2]; exact this
      exact Nat.lt_of_lt_of_le hlt q
end
end Fw
end

section
set_option linter.all false
set_option maxRecDepth 100000
set_option maxHeartbeats 2000000
namespace Fw
open PySem PySem.Spec PyProof.Rows L2
theorem nolen_comb : typeLookup (.type "itertools.combinations") "__len__" = pure none := by
  rw [typeLookup_type, builtinLookup_eq_fast]
  kernel_rfl
theorem nohint_comb : typeLookup (.type "itertools.combinations") "__length_hint__" = pure none := by
  rw [typeLookup_type, builtinLookup_eq_fast]
  kernel_rfl
section
variable {prog : Program} {w : World} {A : Around} {E : Value → Shared → Prop} {s : Shared}
theorem comb_self {it pool : Addr} {st : Int} {last : Value} {ix : List Nat} {Q : Value → Shared → Prop} (ho : s.heap.get? it = some (combObj pool st last ix)) (h : Q (.ref it) s) : wpAny (model prog w) A (pyIter (.ref it)) Q E s := by
  have hT : s.TypeIs (.ref it) "itertools.combinations" := ⟨_, ho, rfl⟩
  refine wpAny_pyIter_slot hT slot_comb_iter (wpAny_call_entry slot_comb_iter hT entry_comb_iter ?_ (args_comb_iter _))
  show wpAny _ _ (ret (.ref it)) _ _ s
  exact wpAny_pure ⟨_, rfl, "itertools.combinations", _, hT, slot_comb_next.lookup, h⟩
theorem comb_extend {R : Result → Shared → Prop} (hh : A.handled = none) {S it pool : Addr} (hSi : S ≠ it) (hSp : S ≠ pool) (hne : pool ≠ it) {its : List Value} (res : Value) {L : List (List Nat)} {ix : List Nat} {c : Nat} (hL : Ahead its.length 0 ix L) (hz : ix.length ≤ 1000) (hzl : ∀ l ∈ L, l.length ≤ 1000) (hsz : L.length ≤ 10000)
    (ho : s.heap.get? it = some (combObj pool 0 .none ix)) (hp : s.heap.get? pool = some { cls := .type "tuple", data := .seq its.toArray }) (hS : s.heap.get? S = some { cls := .type "list", dict := none, data := .seq #[] c, slots := #[] })
    (hR : ∀ h' c' as, (∀ b o, b ≠ S → b ≠ it → s.heap.get? b = some o → h'.get? b = some o) → h'.get? S = some { cls := .type "list", dict := none, data := .seq (as.map Value.ref).toArray c', slots := #[] } →
      TupsAt h' its as L → (∀ a ∈ as, s.heap.objs.size ≤ a) → as.Pairwise (fun a b => a < b) → R (.ok (.ret res)) { s with heap := h' }) :
    wpAny (model prog w) A.in1 (Builtin.List.listExtendWith (.ref S) (.ref it) res)
      (fun fin s' => match fin with | .done f => R (.ok f) s' | .again c' => c'.quiet = true ∧ codeAny (model prog w) A c' R s') (fun e s' => R (.error e) s') s := by
  have hT : s.TypeIs (.ref it) "itertools.combinations" := ⟨_, ho, rfl⟩
  unfold Builtin.List.listExtendWith
  refine wpAny_bind (wpAny_typeOf hT ?_)
  have h1 : Builtin.List.listSameRef (.ref S) (.ref it) = false := by simp [Builtin.List.listSameRef, hSi]
  have h2 : (Value.type "itertools.combinations" == Value.type "list") = false := by decide +kernel
  have h3 : (Value.type "itertools.combinations" == Value.type "tuple") = false := by decide +kernel
  simp only [h1, h2, h3, Bool.or_false, Bool.false_eq_true, if_false]
  refine wpAny_bind (comb_self ho ?_)
  have key : ∀ (h : Heap) (c1 : Nat), (∀ b o, b ≠ S → s.heap.get? b = some o → h.get? b = some o) → h.objs.size = s.heap.objs.size → h.get? S = some { cls := .type "list", dict := none, data := .seq #[] c1, slots := #[] } →
      codeAny (model prog w) A (.builtin "list.extend.loop" ⟨[.ref S, .ref it, res], []⟩) R { s with heap := h } := fun h c1 k hzz hS1 => by
    refine comb_loop hh hSi hSp hne res L 0 ix .none { s with heap := h } #[] c1 hL hz hzl (by simpa using hsz) (k it _ (Ne.symm hSi) ho) (k pool _ (Ne.symm hSp) hp) hS1 fun h' c' as k' s' t' b' p' => ?_
    refine hR h' c' as (fun b o hb hi e => k' b o hb hi (k b o hb e)) (by simpa using s') t' (fun a ha => ?_) p'
    have := b' a ha
    rw [← hzz]
    exact this
  refine wpAny_bind (wpAny_holding ?_)
  unfold Builtin.List.listLengthHint
  refine wpAny_bind (wpAny_specialOf hT nolen_comb ?_)
  show wpAny _ A.in1 (specialOf (Value.ref it) (Str.ofString "__length_hint__") >>= _) _ _ _
  refine wpAny_bind (wpAny_specialOf hT nohint_comb ?_)
  refine wpAny_pure ?_
  refine wpAny_ite_split (fun _ => ?_) (fun _ => wpAny_pure ⟨plainId_quiet F.plain_extend_loop _, key _ c (fun b o _ e => e) rfl hS⟩)
  refine wpAny_bind (wpAny_rule ?_)
  refine wpAny_bind ?_
  show wpAny _ _ (updateSeq S (·.push .none) >>= fun _ => updateSeq S (·.pop)) _ _ _
  refine wpAny_bind (wpAny_updateSeq hS rfl ?_)
  have hS2 := Heap.get?_update_self (Obj.mapSeq (·.push Value.none)) hS rfl
  refine wpAny_updateSeq (hz := by seq_fits) hS2 rfl ?_
  have hS3 := Heap.get?_update_self (Obj.mapSeq (·.pop)) hS2 rfl
  refine wpAny_pure ⟨plainId_quiet F.plain_extend_loop _, key _ _ (fun b o hb e => ?_) ?_ hS3⟩
  · exact (Heap.get?_update_other _ _ (Ne.symm hb)).trans ((Heap.get?_update_other _ _ (Ne.symm hb)).trans e)
  · rw [Heap.size_update, Heap.size_update]
theorem list_comb (hh : A.handled = none) {it pool : Addr} (hne : pool ≠ it) {its : List Value} {L : List (List Nat)} {ix : List Nat} {Q : Value → Shared → Prop} (hL : Ahead its.length 0 ix L) (hz : ix.length ≤ 1000) (hzl : ∀ l ∈ L, l.length ≤ 1000) (hsz : L.length ≤ 10000)
    (ho : s.heap.get? it = some (combObj pool 0 .none ix)) (hp : s.heap.get? pool = some { cls := .type "tuple", data := .seq its.toArray })
    (hQ : ∀ h' c' as, (∀ b o, b ≠ it → s.heap.get? b = some o → h'.get? b = some o) → h'.get? s.heap.objs.size = some { cls := .type "list", dict := none, data := .seq (as.map Value.ref).toArray c', slots := #[] } →
      TupsAt h' its as L → (∀ a ∈ as, s.heap.objs.size < a) → as.Pairwise (fun a b => a < b) → Q (.ref s.heap.objs.size) { s with heap := h' }) :
    wpAny (model prog w) A (call (.type "list") [.ref it]) Q E s := by
  refine callType_codes (Q₁ := fun obj s1 => obj = .ref s.heap.objs.size ∧ s1 = { s with heap := s.heap.push { cls := .type "list", data := .seq #[] } }) F.called_list (F.typeCall_list_1 _) F.entry_list_init (code_list_new _ ⟨rfl, rfl⟩) fun obj s1 h1 => ?_
  obtain ⟨rfl, rfl⟩ := h1
  have hS : (s.heap.push { cls := .type "list", data := .seq #[] }).get? s.heap.objs.size = some { cls := .type "list", data := .seq #[] } := Heap.get?_push_size _ rfl
  have hSi : s.heap.objs.size ≠ it := Nat.ne_of_gt (Heap.lt_size ho)
  have hSp : s.heap.objs.size ≠ pool := Nat.ne_of_gt (Heap.lt_size hp)
  refine ⟨⟨_, hS, rfl⟩, F.args_list_init_2 _ _, ?_⟩
  show wpAny _ _ (do let old ← Builtin.List.listItems (.ref s.heap.objs.size); Builtin.List.listUpdate (.ref s.heap.objs.size) (fun _ => #[]); letGo old.toList.reverse; Builtin.List.listExtendWith (.ref s.heap.objs.size) (.ref it) .none) _ _ _
  refine wpAny_bind ?_
  unfold Builtin.List.listItems
  refine wpAny_bind (wpAny_seqItems hS rfl (wpAny_pure ?_))
  show wpAny _ _ (updateSeq s.heap.objs.size (fun _ => #[]) >>= fun _ => letGo (#[] : Array Value).toList.reverse >>= fun _ => Builtin.List.listExtendWith (.ref s.heap.objs.size) (.ref it) .none) _ _ _
  refine wpAny_bind (wpAny_updateSeq hS rfl ?_)
  have hS2 := Heap.get?_update_self (Obj.mapSeq (fun _ => (#[] : Array Value))) hS rfl
  have oth : ∀ b o, s.heap.get? b = some o → ((s.heap.push { cls := .type "list", data := .seq #[] }).update s.heap.objs.size (Obj.mapSeq (fun _ => (#[] : Array Value)))).get? b = some o :=
    fun b o e => (Heap.get?_update_other _ _ (Nat.ne_of_gt (Heap.lt_size e))).trans (Heap.get?_push_of_some _ e)
  have zz : ((s.heap.push { cls := .type "list", data := .seq #[] }).update s.heap.objs.size (Obj.mapSeq (fun _ => (#[] : Array Value)))).objs.size = s.heap.objs.size + 1 := by
    rw [Heap.size_update, Heap.size_push]
  refine wpAny_bind (wpAny_letGo ?_)
  refine comb_extend (A := A.in1) hh hSi hSp hne .none hL hz hzl hsz (oth _ _ ho) (oth _ _ hp) hS2 fun h' c' as k t1 t2 b p => ?_
  refine ⟨rfl, hQ h' c' as (fun x o hx e => k x o (Nat.ne_of_lt (Heap.lt_size e)) hx (oth x o e)) t1 t2 (fun a ha => ?_) p⟩
  have q := b a ha
  have q2 : s.heap.objs.size + 1 ≤ a := by
    rw [← zz]
    exact q
  exact q2
end
end Fw
end

section
set_option linter.all false
set_option maxRecDepth 100000
set_option maxHeartbeats 2000000
namespace Fw
open PySem PySem.Spec PyProof.Rows L2
section
variable {X : Cx} {pins : List (Addr × Obj)} {σ : L2.St} {H : Hp} {s : Shared}
/-- several new objects are laid and tracked at once -/
theorem laidMany {H' : Hp} {h' : Heap} {t' : Nat} (I : Inv X pins σ H s) (k : ∀ b u, s.heap.get? b = some u → h'.get? b = some u) (old : ∀ b, b < s.heap.objs.size → H' b = H b)
    (new : ∀ b o, s.heap.objs.size ≤ b → H' b = some o → ObjOk X.prog X.w H' h' b o) : Inv X pins σ H' { s with heap := h', toks := t' } := by
  have up : ∀ b o, H b = some o → H' b = some o := fun b o e => (old b (I.hok.lt e)).trans e
  refine I.un ⟨fun b o e n _ _ => k b o e, fun b o e n _ _ => ⟨o.slots, k b o e⟩, fun b o e n _ => (old b (Heap.lt_size e)).trans n, fun b o e _ => ⟨o, k b o e⟩, fun b xs e => up b _ e, fun b o u e => up b _ e, fun b ps e => ⟨#[], by rw [up b _ e]; simp⟩⟩ fun b o e => ?_
  by_cases hb : b < s.heap.objs.size
  · rw [old b hb] at e
    exact (I.hok b o e).stay (fun c u _ q => k c u q) (fun c q => up c _ q) fun c xs q => up c _ q
  · exact new b o (Nat.le_of_not_lt hb) e
end
/-- a row of places is one of the new tuples -/
def combV (xs : List V) (ix : List Nat) : List V := ix.map fun i => xs.getD i .non
theorem combV_vals {xs : List V} {its : List Value} (r : Vals xs its) : ∀ {ix : List Nat}, (∀ i ∈ ix, i < xs.length) → Vals (combV xs ix) (ix.map fun i => its.toArray.getD i Value.none)
  | [], _ => .nil
  | i :: ix, h => by
    refine .cons ?_ (combV_vals r fun j hj => h j (List.mem_cons_of_mem _ hj))
    have hi : i < xs.length := h i List.mem_cons_self
    obtain ⟨u, hu, ru⟩ := r.get (List.getElem?_eq_getElem hi)
    have e1 : xs.getD i .non = xs[i] := by rw [List.getD_eq_getElem?_getD, List.getElem?_eq_getElem hi]; rfl
    have e2 : its.toArray.getD i Value.none = u := by
      have : its[i]? = some u := hu
      simp [Array.getD_eq_getD_getElem?, this]
    show RelV (xs.getD i .non) (its.toArray.getD i Value.none)
    rw [e1, e2]
    exact ru
/-- list(combinations(a, b)) -/
def tCombs (K : PySem.W.Frag) (t : TA) : TE := fun σ H Q => t σ H fun vs H1 => ∃ (l : Addr) (xs : List V) (r : Nat) (L : List (List Nat)), vs = [.ref l, .int (r : Int)] ∧ SqL K H1 l xs ∧ r ≤ xs.length ∧ xs.length ≤ 1000 ∧
  chainB xs.length L = true ∧ L.head? = some (List.range r) ∧ (∀ ix ∈ L, ix.length ≤ 1000 ∧ ∀ i ∈ ix, i < xs.length) ∧ L.length ≤ 10000 ∧
  ∀ H' p vs, Same H1 H' → H1 p = none → H' p = some (.lst vs) → Paired (fun v ix => ∃ a, v = .ref a ∧ H' a = some (.tup (combV xs ix))) vs L → Q (.ref p) H'
section
variable {X : Cx} {a b : Expr} {t : TA} {p p2 pos pos2 : Pos}
theorem pe_combs (hc : X.calm = true) (hg : Gl X "list") (hm : X.mg "list" = none) (hb : bootBuiltins "list" = some (.type "list")) (hg2 : Gl X "combinations") (hm2 : X.mg "combinations" = some (.type "itertools.combinations")) (ha : PA X [a, b] t)
    (na : starEach [Expr.Call (.Name "combinations" p2) [a, b] [] pos2] X.env = (false, eval (.Call (.Name "combinations" p2) [a, b] [] pos2) X.env) :: starEach [] X.env := by rfl)
    (hs : starEach [a, b] X.env = (false, eval a X.env) :: starEach [b] X.env := by rfl) (hpl : (backTo pos2 (starEach [b] X.env)).any (fun z => z.1) = false := by rfl) :
    PE X (.Call (.Name "list" p) [.Call (.Name "combinations" p2) [a, b] [] pos2] [] pos) (tCombs X.K t) := by
  refine ⟨fun pins s σ H Q I h => ?_⟩
  refine Call_ (ld_blt I hg hm hb ?_)
  refine PyProof.Rows.callWith_type1 (PyProof.Rows.args_cons ?_ na) na rfl
  refine Call_ (ld_glob I hg2 hm2 ?_)
  refine PyProof.Rows.callWith_type1 (thn (ha.run pos2 pins s σ H _ I h) fun us s1 got => ?_) hs hpl
  obtain ⟨vs, H1, I1, r1, l, xs, r, L, ev, hq, hr, hxl, hch, hhd, hix, hL, q⟩ := got
  subst ev
  obtain ⟨u1, u2, rfl, e1, t2, rfl⟩ := vals2 r1
  cases (show u1 = Value.ref l from e1)
  obtain ⟨its, rv, pl, hz⟩ := I1.list hq
  have hlen : its.length = xs.length := rv.length.symm
  refine call_comb pl.isList (by rw [hlen]; exact hr) (by rw [hlen]; exact hxl) fun h2 pool it k2 z1 z2 ne hpool hit => ?_
  refine PyProof.Rows.args_nil ?_
  have hdd : X.A.handled = none := I1.ok.hd hc
  refine list_comb (s := { s1 with heap := h2 }) hdd ne (L := L) (.inl ⟨rfl, by rw [hlen]; exact hch, hhd⟩) (by rw [List.length_range]; omega) (fun ix hx => (hix ix hx).1) hL hit hpool fun h3 c3 as k3 t3 hT b3 p3 => ?_
  have i2 : it < h2.objs.size := Heap.lt_size hit
  have k : ∀ b o, s1.heap.get? b = some o → h3.get? b = some o := fun b o e => k3 b o (fun z => by
    have := Heap.lt_size e
    rw [z] at this
    exact absurd (Nat.lt_of_lt_of_le this z2) (Nat.lt_irrefl _)) (k2 b o e)
  have g12 : s1.heap.objs.size ≤ h2.objs.size := Nat.le_of_lt (Nat.lt_of_le_of_lt z2 i2)
  have get : ∀ {i : Nat} {a : Addr}, as[i]? = some a → ∃ ix, L[i]? = some ix ∧ h3.get? a = some { cls := .type "tuple", data := .seq (ix.map fun i => its.toArray.getD i Value.none).toArray } := fun {i a} e => by
    have aux : ∀ {as : List Addr} {L : List (List Nat)} {i : Nat}, TupsAt h3 its as L → as[i]? = some a → ∃ ix, L[i]? = some ix ∧ h3.get? a = some { cls := .type "tuple", data := .seq (ix.map fun i => its.toArray.getD i Value.none).toArray } := by
      intro as L i hT e
      induction hT generalizing i with
      | nil => simp at e
      | cons r _ ih =>
        cases i with
        | zero =>
          simp at e
          subst e
          exact ⟨_, rfl, r⟩
        | succ i =>
          obtain ⟨ix, e1, e2⟩ := ih (i := i) (by simpa using e)
          exact ⟨ix, by simpa using e1, e2⟩
    exact aux hT e
  -- the tracked heap behind it: the list, the tuples at their places
  refine ⟨.ref h2.objs.size, fun b => if b = h2.objs.size then some (.lst (as.map V.ref)) else if b ∈ as then some (.tup (combV xs ((L[as.idxOf b]?).getD []))) else H1 b, ?_, rfl, ?_⟩
  · refine laidMany (s := s1) (t' := s1.toks) I1 k (fun b hb => ?_) fun b o hb e => ?_
    · have n1 : b ≠ h2.objs.size := Nat.ne_of_lt (Nat.lt_of_lt_of_le hb g12)
      have n2 : b ∉ as := fun z => absurd (Nat.lt_trans (Nat.lt_of_lt_of_le hb g12) (b3 b z)) (Nat.lt_irrefl _)
      show (if b = h2.objs.size then _ else _) = _
      rw [if_neg n1, if_neg n2]
    · have e' : (if b = h2.objs.size then some (HO.lst (as.map V.ref)) else if b ∈ as then some (HO.tup (combV xs ((L[as.idxOf b]?).getD []))) else H1 b) = some o := e
      by_cases n1 : b = h2.objs.size
      · rw [if_pos n1] at e'
        cases e'
        rw [n1]
        refine ⟨?_, as.map Value.ref, c3, ?_, t3⟩
        · rw [List.length_map, Paired.length hT, sizeLine_eq]
          omega
        · have aux : ∀ l : List Addr, Vals (l.map V.ref) (l.map Value.ref) := fun l => by
            induction l with
            | nil => exact .nil
            | cons a l ih => exact .cons rfl ih
          exact aux as
      · rw [if_neg n1] at e'
        by_cases n2 : b ∈ as
        · rw [if_pos n2] at e'
          cases e'
          have hi : as.idxOf b < as.length := List.idxOf_lt_length_of_mem n2
          have eb : as[as.idxOf b]? = some b := by rw [List.getElem?_eq_getElem hi, List.getElem_idxOf]
          obtain ⟨ix, e1, e2⟩ := get eb
          rw [e1]
          obtain ⟨w1, w2⟩ := hix ix (List.mem_of_getElem? e1)
          refine ⟨?_, _, combV_vals rv w2, _, e2, rfl, _, rfl⟩
          show (combV xs ix).length ≤ _
          unfold combV
          rw [List.length_map, sizeLine_eq]
          omega
        · rw [if_neg n2] at e'
          exact absurd (I1.hok.lt e') (Nat.not_lt_of_le hb)
  · refine q _ _ (as.map V.ref) (fun b o e => ?_) ?_ ?_ ?_
    · have hb := I1.hok.lt e
      have n1 : b ≠ h2.objs.size := Nat.ne_of_lt (Nat.lt_of_lt_of_le hb g12)
      have n2 : b ∉ as := fun z => absurd (Nat.lt_trans (Nat.lt_of_lt_of_le hb g12) (b3 b z)) (Nat.lt_irrefl _)
      show (if b = h2.objs.size then _ else _) = _
      rw [if_neg n1, if_neg n2]
      exact e
    · exact I1.hok.fresh g12
    · show (if h2.objs.size = h2.objs.size then _ else _) = _
      rw [if_pos rfl]
    · have aux : ∀ (done rest : List Addr) (Ld Lr : List (List Nat)), as = done ++ rest → L = Ld ++ Lr → done.length = Ld.length → Paired (fun (_ : Addr) (_ : List Nat) => True) rest Lr →
          Paired (fun v ix => ∃ a, v = V.ref a ∧ (if a = h2.objs.size then some (HO.lst (as.map V.ref)) else if a ∈ as then some (HO.tup (combV xs ((L[as.idxOf a]?).getD []))) else H1 a) = some (.tup (combV xs ix))) (rest.map V.ref) Lr := by
        intro done rest
        induction rest generalizing done with
        | nil =>
          intro Ld Lr _ _ _ hp
          cases hp
          exact .nil
        | cons a rest ih =>
          intro Ld Lr ea eL el hp
          cases hp with
          | @cons _ ix _ Lr' _ hp' =>
            refine .cons ⟨a, rfl, ?_⟩ (ih (done ++ [a]) (Ld ++ [ix]) Lr' (by rw [ea, List.append_assoc]; rfl) (by rw [eL, List.append_assoc]; rfl) (by simp [el]) hp')
            have ha : a ∈ as := by rw [ea]; exact List.mem_append_right _ List.mem_cons_self
            have n1 : a ≠ h2.objs.size := Nat.ne_of_gt (b3 a ha)
            have nd : a ∉ done := fun z => by
              rw [ea] at p3
              exact absurd ((List.pairwise_append.mp p3).2.2 a z a List.mem_cons_self) (Nat.lt_irrefl _)
            have ei : as.idxOf a = done.length := by
              rw [ea, List.idxOf_append, if_neg nd, List.idxOf_cons_self, Nat.zero_add]
            rw [if_neg n1, if_pos ha, ei, el, eL, List.getElem?_append_right (Nat.le_refl _), Nat.sub_self]
            rfl
      have triv : ∀ {as : List Addr} {L : List (List Nat)}, TupsAt h3 its as L → Paired (fun (_ : Addr) (_ : List Nat) => True) as L := fun h => Paired.mapP h fun _ _ _ => trivial
      exact aux [] as [] L rfl rfl rfl (triv hT)
end
end Fw
end

section
set_option linter.all false
set_option maxRecDepth 100000
set_option maxHeartbeats 2000000
/-! Rules of our own: extend by a tuple; sorted of a list or tuple of int tuples. -/
namespace Fw
open PySem PySem.Spec PyProof.Rows L2
section
variable {prog : Program} {w : World} {A : Around} {E : Value → Shared → Prop} {s : Shared}
theorem extend_by_tuple {l b : Addr} {items items2 : Array Value} {n n2 : Nat} {o : Obj} {Q : Value → Shared → Prop} (hl : s.heap.get? l = some { cls := .type "list", dict := none, data := .seq items n, slots := #[] })
    (ho : s.heap.get? b = some o) (hc : o.cls = .type "tuple") (hd : o.data = .seq items2 n2) (hsz : items.size + items2.size ≤ 16777216)
    (q : Q .none { s with heap := s.heap.update l (Obj.mapSeq (· ++ items2)) }) : wpAny (model prog w) A (call (.builtin "list.extend") [.ref l, .ref b]) Q E s := by
  refine wpAny_call_entry F.slot_list_extend ⟨_, hl, rfl⟩ F.entry_list_extend ?_ (F.args_list_extend_2 _ _)
  show wpAny _ _ (Builtin.List.listExtendWith (.ref l) (.ref b) .none) _ _ s
  unfold Builtin.List.listExtendWith
  refine wpAny_bind (wpAny_typeOf (T := "tuple") ⟨o, ho, hc⟩ ?_)
  rw [if_pos (by simp)]
  refine wpAny_bind ?_
  unfold Builtin.List.listItems
  refine wpAny_bind (wpAny_seqItems ho hd (wpAny_pure ?_))
  refine wpAny_bind ?_
  refine wpAny_bind (wpAny_seqItems hl rfl (wpAny_pure ?_))
  have c : (!items.isEmpty && Builtin.List.listTooLong (items.size + items2.size)) = false := by
    rw [notLongL (by rw [sizeLine_eq]; exact hsz), Bool.and_false]
  rw [c, if_neg Bool.false_ne_true]
  refine wpAny_bind ?_
  unfold Builtin.List.listUpdate
  refine wpAny_updateSeq (hz := by rw [sizeLine_eq]; omega) (_hz' := by rw [sizeLine_eq, Array.size_append]; omega) hl rfl ?_
  exact wpAny_pure ⟨_, rfl, q⟩
end
section
variable {X : Cx}
/-- xs.extend(t), t a tuple -/
def rExtT (K : PySem.W.Frag) : V → List V → Hp → VK → Prop := fun x vs H Q => ∃ l b xs zs, x = .ref l ∧ vs = [.ref b] ∧ H l = some (.lst xs) ∧ SqT K H b zs ∧ xs.length + zs.length ≤ 10000 ∧ Q .non (upd H l (.lst (xs ++ zs)))
theorem mt_extT : MtM X "list.extend" (rExtT X.K) := by
  intro pins s σ H x vs v us Q I rx rv h
  obtain ⟨l, b, xs, zs, rfl, rfl, hH, hB, hz, q⟩ := h
  cases rx
  obtain ⟨u, rfl, ru⟩ := rv.one
  cases ru
  obtain ⟨_, its, n, r, hl, e⟩ := I.lstM hH
  obtain ⟨its2, r2, ⟨o, ho, hc, n2, hd⟩, _⟩ := I.tuple hB
  have l2 := r2.length
  refine extend_by_tuple e ho hc hd (by rw [List.size_toArray, List.size_toArray]; omega) ⟨.non, _, I.lset (t' := s.toks) (its' := its ++ its2) hH e (by simp) (r.append r2) ?_, rfl, q⟩
  rw [List.length_append, sizeLine_eq]
  omega
end
/-! ### sorted of int tuples -/
abbrev encT (p : V × List Int) : PyData := .tuple (p.2.map PyData.int)
def leT (p q : V × List Int) : Bool := !decide (q.2 < p.2)
theorem leT_eq : PySem.W.dataLe false encT = leT := by
  rw [PySem.W.dataLe_eq]
  funext p q
  show (!PySem.W.dataLt (encT q) (encT p)) = !decide (q.2 < p.2)
  rw [PySem.W.dataLt_tuple]
  exact congrArg _ (PySem.W.dataLt_ints q.2 p.2)
section
variable {prog : Program} {w : World} {A : Around} {E : Value → Shared → Prop} {s : Shared}
theorem sorted_tups_raw {it : Addr} {T : String} {o : Obj} {us : List Value} {n : Nat} {ps : List (V × List Int)} {Q : Value → Shared → Prop} (hT : T = "list" ∨ T = "tuple") (ho : s.heap.get? it = some o) (hc : o.cls = .type T) (hd : o.data = .seq us.toArray n)
    (hv : PySem.W.EachIs (fun u (p : V × List Int) => RelV p.1 u) us ps) (hr : PySem.W.EachIs (fun u (p : V × List Int) => Reads s.heap u (encT p) []) us ps) (hne : ∀ p ∈ ps, p.2 ≠ []) (hL : ps.length ≤ 1000) (hu : A.units + 64 < cLine)
    (q : ∀ h' p out c, (∀ b o, s.heap.get? b = some o → h'.get? b = some o) → (∀ b o, s.heap.get? b = some o → b ≠ p) → h'.get? p = some (seqObj "list" out c) → PySem.W.EachIs (fun u (p : V × List Int) => RelV p.1 u) out.toList (ps.mergeSort leT) → Q (.ref p) { s with heap := h' }) :
    wpAny (model prog w) A (call (.builtin "sorted") [.ref it]) Q E s := by
  have hl : us.length = ps.length := hv.length
  refine Calls.call_function_entry kind_sorted plain_sorted entry_sorted (args_sorted1 _) ?_
  unfold Builtin.«sorted»
  refine wpAny_bind (m := checkCount "sorted" 1 1 _) (wpAny_pure ?_)
  refine wpAny_bind (wpAny_collect_seq it hT ho hc hd (fun h1 k1 => ?_) (by rw [List.size_toArray, sizeLine_eq]; omega))
  refine wpAny_bind (wpAny_newList ?_ (by show us.length ≤ _; rw [sizeLine_eq]; omega))
  have hS : (h1.push (seqObj "list" us.toArray 0)).get? h1.objs.size = some (seqObj "list" us.toArray 0) := Heap.get?_push_size _ rfl
  have k2 : ∀ b o, s.heap.get? b = some o → (h1.push (seqObj "list" us.toArray 0)).get? b = some o := fun b o e => Heap.get?_push_of_some _ (k1 b o e)
  refine wpAny_bind (wpAny_holding (PySem.W.list_sort_data (s := { s with heap := h1.push (seqObj "list" us.toArray 0) }) (R := fun u (p : V × List Int) => RelV p.1 u) (enc := encT) hS hv (hr.mono fun u p r => ⟨[], PyProof.Rows.Reads.keeps k2 r, fun hm => nomatch hm⟩) ?_ ?_ (by rw [sizeLine_eq]; omega) ?_ fun out ho' he => ?_))
  · exact PySem.W.AllAlike.of fun p q => by
      show PySem.W.alike (.tuple _) (.tuple _) = true
      rw [PySem.W.alike]
      exact PySem.W.alike_ints _ _
  · refine .inl fun d hdm => ?_
    obtain ⟨p, hp, rfl⟩ := List.mem_map.mp hdm
    cases e : p.2 with
    | nil => exact absurd e (hne p hp)
    | cons x r => exact ⟨.int x, r.map PyData.int, by show PyData.tuple (p.2.map PyData.int) = _; rw [e]; rfl⟩
  · intro p _
    show A.in1.units + 1 + PyData.depth (.tuple _) < cLine
    rw [PyData.depth, PySem.W.depth_ints]
    have : A.in1.units = A.units + 1 := rfl
    omega
  · obtain ⟨c, hc2⟩ := sortedHeap_at (vs := us) (out := out.toArray) hS
    rw [leT_eq] at he
    refine wpAny_pure ⟨_, rfl, q _ h1.objs.size out.toArray c (fun b u e => ?_) (fun b u e => Nat.ne_of_lt (Heap.lt_size (k1 b u e))) hc2 (by simpa using he)⟩
    have e2 := k1 b u e
    have hlt := Heap.lt_size e2
    show (sortedHeap (h1.push (seqObj "list" us.toArray 0)) h1.objs.size us out.toArray).get? b = some u
    rw [sortedHeap_old (Nat.ne_of_lt hlt) (by rw [size_push']; exact Nat.lt_succ_of_lt hlt)]
    exact Heap.get?_push_of_some _ e2
end
section
variable {X : Cx} {pins : List (Addr × Obj)} {σ : L2.St} {H : Hp} {s : Shared}
theorem objThere {P : Program} {w : World} {H : Hp} {h : Heap} {a : Addr} {o : HO} (x : ObjOk P w H h a o) : ∃ ob, h.get? a = some ob := by
  cases o with
  | lst xs => obtain ⟨_, _, _, _, e⟩ := x; exact ⟨_, e⟩
  | tup xs => obtain ⟨_, _, _, o, e, _⟩ := x; exact ⟨_, e⟩
  | dK kvs => obtain ⟨_, _, _, _, o, _, _, e, _⟩ := x; exact ⟨_, e⟩
  | dT kvs => obtain ⟨_, _, _, _, o, _, _, e, _⟩ := x; exact ⟨_, e⟩
  | set S n => obtain ⟨o, _, _, _, e, _⟩ := x; exact ⟨_, e⟩
  | ins C dx fs => obtain ⟨_, _, _, e, _⟩ := x; exact ⟨_, e⟩
  | own y => obtain ⟨o, e⟩ := x; exact ⟨_, e⟩
  | xd fs => obtain ⟨_, ⟨o, _, _, e, _⟩, _⟩ := x; exact ⟨_, e⟩
  | rng lo hi => obtain ⟨_, _, _, e⟩ := x; exact ⟨_, e⟩
  | frz ob u => obtain ⟨e, _⟩ := x; exact ⟨_, e⟩
  | tbl ps => exact ⟨_, (show h.get? a = some _ from x)⟩
  | met f y => exact ⟨_, (show h.get? a = some _ from x)⟩
  | ext φ => obtain ⟨_, ⟨o, e⟩, _⟩ := x; exact ⟨_, e⟩
/-- a new object is laid and tracked, its place told by what stood -/
theorem laidNew {h' : Heap} {t' : Nat} {a : Addr} {o : HO} (I : Inv X pins σ H s) (k : ∀ b u, s.heap.get? b = some u → h'.get? b = some u) (ha : ∀ b u, s.heap.get? b = some u → b ≠ a) (new : ObjOk X.prog X.w (upd H a o) h' a o) :
    H a = none ∧ Inv X pins σ (upd H a o) { s with heap := h', toks := t' } := by
  have hn : H a = none := by
    cases e : H a with
    | none => rfl
    | some u =>
      obtain ⟨ob, hb⟩ := objThere (I.hok a u e)
      exact absurd rfl (ha a ob hb)
  refine ⟨hn, I.un ⟨fun b u e n _ _ => k b u e, fun b u e n _ _ => ⟨u.slots, k b u e⟩, fun b u e n _ => by rw [upd_ne (ha b u e)]; exact n, fun b u e _ => ⟨u, k b u e⟩, fun b xs e => by rw [upd_ne (ne_of_none e hn)]; exact e, fun b u z e => by rw [upd_ne (ne_of_none e hn)]; exact e, fun b ps e => ⟨#[], by rw [upd_ne (ne_of_none e hn), e]; simp⟩⟩ fun b u e => ?_⟩
  by_cases hb : b = a
  · subst hb
    rw [upd_same] at e
    cases e
    exact new
  · rw [upd_ne hb] at e
    exact (I.hok b u e).stay (fun c v _ q => k c v q) (fun c q => by rw [upd_ne (ne_of_none q hn)]; exact q) fun c xs q => by rw [upd_ne (ne_of_none q hn)]; exact q
end
section
variable {X : Cx}
theorem reads_ints {h : Heap} : ∀ {ns : List Int} {us : List Value}, Vals (ns.map V.int) us → ReadsAll h us (ns.map PyData.int) []
  | [], _, .nil => .nil
  | n :: ns, _, .cons r t => by
    obtain ⟨k, rfl⟩ := r
    exact ReadsAll.cons (as := []) (bs := []) (.int n k) (reads_ints t)
theorem vals_each {ps : List (V × List Int)} : ∀ {us : List Value}, Vals (ps.map fun p => p.1) us → PySem.W.EachIs (fun u (p : V × List Int) => RelV p.1 u) us ps := by
  induction ps with
  | nil => intro us h; cases h; exact .nil
  | cons p ps ih =>
    intro us h
    cases h with
    | cons r t => exact .cons r (ih t)
theorem each_vals : ∀ {us : List Value} {ps : List (V × List Int)}, PySem.W.EachIs (fun u (p : V × List Int) => RelV p.1 u) us ps → Vals (ps.map fun p => p.1) us
  | _, _, .nil => .nil
  | _, _, .cons r t => .cons r (each_vals t)
/-- sorted(xs), the items int tuples, none empty -/
def rSortTs (K : PySem.W.Frag) : List V → Hp → VK → Prop := fun vs H Q => ∃ (a : Addr) (ps : List (V × List Int)), vs = [.ref a] ∧ (SqL K H a (ps.map fun p => p.1) ∨ SqT K H a (ps.map fun p => p.1)) ∧ (∀ p ∈ ps, IT H p.1 p.2 ∧ p.2 ≠ []) ∧ ps.length ≤ 1000 ∧
  ∀ p, H p = none → Q (.ref p) (upd H p (.lst ((ps.mergeSort leT).map fun p => p.1)))
theorem cr_sortTs (hu : X.A.units + 64 < cLine) : CallR X (.builtin "sorted") (rSortTs X.K) := by
  intro pins s σ H vs us Q I r h
  obtain ⟨a, ps, rfl, hq, hi, hL, q⟩ := h
  rw [Vals.ref1 r]
  have main : ∀ (its : List Value) (T : String) (o : Obj) (n : Nat), (T = "list" ∨ T = "tuple") → s.heap.get? a = some o → o.cls = .type T → o.data = .seq its.toArray n → Vals (ps.map fun p => p.1) its →
      wpAny (model X.prog X.w) X.A (call (.builtin "sorted") [.ref a]) (EP X pins σ Q) X.xe s := fun its T o n hT ho hc hd rv => by
    have hv := vals_each rv
    have hr : PySem.W.EachIs (fun u (p : V × List Int) => Reads s.heap u (encT p) []) its ps := by
      have aux : ∀ {us : List Value} {qs : List (V × List Int)}, PySem.W.EachIs (fun u (p : V × List Int) => RelV p.1 u) us qs → (∀ p ∈ qs, IT H p.1 p.2 ∧ p.2 ≠ []) → PySem.W.EachIs (fun u (p : V × List Int) => Reads s.heap u (encT p) []) us qs := by
        intro us qs h
        induction h with
        | nil => intro _; exact .nil
        | @cons u p us qs r _ ih =>
          intro hm
          refine .cons ?_ (ih fun p hp => hm p (List.mem_cons_of_mem _ hp))
          obtain ⟨⟨b, e1, e2⟩, _⟩ := hm p List.mem_cons_self
          rw [e1] at r
          cases r
          obtain ⟨its2, r2, ⟨o2, ho2, hc2, n2, hd2⟩, _⟩ := I.tuple (SqT.of e2)
          exact .tuple ho2 hc2 hd2 (reads_ints r2)
      exact aux hv hi
    refine sorted_tups_raw hT ho hc hd hv hr (fun p hp => (hi p hp).2) hL hu fun h' p out c k np hp he => ?_
    have new : ObjOk X.prog X.w (upd H p (.lst ((ps.mergeSort leT).map fun p => p.1))) h' p (.lst ((ps.mergeSort leT).map fun p => p.1)) := by
      refine ⟨?_, out.toList, c, each_vals he, by simpa using hp⟩
      rw [List.length_map, List.length_mergeSort, sizeLine_eq]
      omega
    obtain ⟨hn, I2⟩ := laidNew (t' := s.toks) I k np new
    exact ⟨.ref p, _, I2, rfl, q p hn⟩
  rcases hq with hq | hq
  · obtain ⟨its, rv, ⟨o, n, ho, hc, _, hd⟩, _⟩ := I.list hq
    exact main its "list" o n (.inl rfl) ho hc hd rv
  · obtain ⟨its, rv, ⟨o, ho, hc, n, hd⟩, _⟩ := I.tuple hq
    exact main its "tuple" o n (.inr rfl) ho hc hd rv
end
/-! the order -/
theorem lexLt_lt : ∀ a b : List Int, HT.lexLt a b = decide (a < b)
  | [], [] => by simp [HT.lexLt]
  | [], _ :: _ => by simp [HT.lexLt]
  | _ :: _, [] => by simp [HT.lexLt]
  | x :: a, y :: b => by
    rw [HT.lexLt_cons, lexLt_lt a b]
    by_cases e : x = y
    · subst e
      rw [if_pos rfl]
      exact decide_eq_decide.mpr (by simp)
    · rw [if_neg e]
      refine decide_eq_decide.mpr ⟨fun h => List.cons_lt_cons_iff.mpr (.inl h), fun h => ?_⟩
      rcases List.cons_lt_cons_iff.mp h with h | h
      · exact h
      · exact absurd h.1 e
end Fw
end

section
set_option linter.all false
set_option maxRecDepth 100000
set_option maxHeartbeats 2000000
/-! A rule of our own: sum(d.values()). -/
namespace Fw
open PySem PySem.Spec PyProof.Rows L2
theorem preSum_list : ∀ (is : List Int) (n : Nat), n ≤ is.length → preSum (fun i => is.getD i 0) n = (is.take n).sum
  | is, 0, _ => by simp [preSum]
  | is, n + 1, h => by
    have hlt : n < is.length := h
    have e : is[n]? = some is[n] := List.getElem?_eq_getElem hlt
    rw [preSum, preSum_list is n (Nat.le_of_lt hlt), L2.sum_take e, List.getD_eq_getElem?_getD, e]
    rfl
section
variable {X : Cx}
/-- sum(o.values()), a dict with int values -/
def tSumVals (td : TE) : TE := fun σ H Q => td σ H fun x H1 => ∃ (a : Addr) (kvs : List (Key × V)) (is : List Int), x = V.ref a ∧ H1 a = some (.dK kvs) ∧ kvs.map (fun p => p.2) = is.map V.int ∧ Q (.int is.sum) H1
variable {o : Expr} {p pos apos mpos : Pos} {td : TE}
theorem pe_sumVals (hc : X.calm = true) (hg : Gl X "sum") (hm : X.mg "sum" = none) (hd : PE X o td) (hbase : attributeBase o "values" X.env (eval o X.env) = eval o X.env := by rfl) (hline : (apos.endLine == mpos.line) = true := by rfl)
    (hse : starEach [Expr.Call (.Attribute o "values" apos) [] [] mpos] X.env = [(false, eval (Expr.Call (.Attribute o "values" apos) [] [] mpos) X.env)] := by rfl) :
    PE X (.Call (.Name "sum" p) [.Call (.Attribute o "values" apos) [] [] mpos] [] pos) (tSumVals td) := by
  refine ⟨fun pins s σ H Q I h => wpAny_Call_Name_kw (ld_blt I hg hm (u := .builtin "sum") bt_sum ?_ (by decide +kernel) (by decide +kernel))⟩
  rw [hse]
  refine PySem.callWith_builtin1 (wpAny_Call_method0_late hbase hline (thn (hd.run pins s σ H _ I h) fun v s1 got => ?_))
  obtain ⟨x, H1, I1, r1, a, kvs, is, ex, ha, hv, q⟩ := got
  subst ex
  obtain rfl : v = Value.ref a := r1
  obtain ⟨_, hsys, vs, rel, dof⟩ := dk_of I1.hok ha
  obtain ⟨ep, dat⟩ := dof.dictAt
  obtain ⟨ob, es, ho, ex, hdat, hko, hpr, hnd⟩ := id dat
  refine ⟨"dict", "dict.values", F.plainAttrs_dict, F.slot_dict_values, F.type_dict_values, ⟨ob, ho, ex.1⟩, (fun b e => by cases e; exact ⟨ob, ho, ex.2.1⟩), Calls.callWith_builtin rfl (PySem.evalArgs_none ?_)⟩
  refine call_meetsIn F.slot_dict_values ⟨ob, ho, ex.1⟩ F.entry_dict_values (F.args_dict_values_1 _) (meets_dict_values (mixKind X.prog X.w) a hsys) ⟨⟨vs, dof⟩, ?_⟩
  have old : ∀ b u, s1.heap.get? b = some u → (s1.heap.push { cls := .type "dict_values", data := .fields #[.ref a] }).get? b = some u := fun b u e => Heap.get?_push_of_some _ e
  have dat1 := dat.keep old
  have hlv : vs.length = is.length := by
    have e1 := congrArg List.length hv
    rw [List.length_map, List.length_map] at e1
    rw [← e1]
    exact (KV.length rel).symm
  have hval : ∀ (i : Nat) (v : Value), (∃ k, vs[i]? = some (k, v)) → ∃ t, v = Value.int (is.getD i 0) t := fun i v ⟨k, hk⟩ => by
    obtain ⟨x, h1, h2⟩ := KV.at' rel hk
    have e1 : (kvs.map fun p => p.2)[i]? = some x := by
      rw [List.getElem?_map, h1]
      rfl
    rw [hv, List.getElem?_map] at e1
    obtain ⟨j, hj, e2⟩ := Option.map_eq_some_iff.mp e1
    subst e2
    obtain ⟨t, e3⟩ := h2
    refine ⟨t, ?_⟩
    rw [e3, List.getD_eq_getElem?_getD, hj]
    rfl
  have hlt : a < s1.heap.objs.size := Heap.lt_size ho
  have hsz : (s1.heap.push { cls := .type "dict_values", data := .fields #[.ref a] }).objs.size = s1.heap.objs.size + 1 := Heap.size_push _ _
  refine call_sum_walkG (wpAny_pyIter_values (v := s1.heap.objs.size) (d := a) ⟨_, Heap.get?_push_size _ rfl, rfl, rfl⟩ dat1 ?_)
  refine ⟨_, _, _, _, _, _, fun i => is.getD i 0, rfl, Walks.dictValues (knd := mixKind X.prog X.w) (A := X.A.in1) (I.ok.hd hc) (s1.heap.push { cls := .type "dict_values", data := .fields #[.ref a] }).objs.size a (by rw [hsz]; exact Nat.ne_of_lt (Nat.lt_succ_of_lt hlt)) vs ep,
    ⟨⟨_, Heap.get?_push_size _ rfl, rfl, rfl⟩, dat1.keep fun b u e => Heap.get?_push_of_some _ e⟩, fun b hb => ?_, hval, fun h' tk t' hk => ?_⟩
  · show b < ((s1.heap.push _).push _).objs.size
    rw [Heap.size_push, Heap.size_push]
    rw [hsz] at hb
    rcases List.mem_cons.mp hb with e | hb
    · rw [e]
      exact Nat.lt_succ_self _
    · rw [List.mem_singleton.mp hb]
      exact Nat.lt_succ_of_lt (Nat.lt_succ_of_lt hlt)
  · rw [hlv, preSum_list is is.length (Nat.le_refl _), List.take_length]
    refine ⟨.int _, H1, I1.kept (t' := tk) fun b u e => hk b u (fun hmem => ?_) (Heap.get?_push_of_some _ (old b u e)), ⟨t', rfl⟩, q⟩
    have e1 := List.mem_singleton.mp hmem
    have e2 := Heap.lt_size e
    rw [hsz] at e1
    rw [e1] at e2
    exact absurd e2 (Nat.not_lt.mpr (Nat.le_succ _))
end
end Fw
end

section
set_option linter.all false
set_option maxRecDepth 100000
set_option maxHeartbeats 3200000
/-! A rule of our own: sorted(set(xs)), xs a list of ints. -/
namespace Fw
open PySem PySem.Spec PyProof.Rows L2
section
variable {P : Program} {w : World} {A : Around} {E : Value → Shared → Prop} {s : Shared}
abbrev freshSet (w : World) : Obj := { cls := .type "set", dict := none, data := .set #[] 0 (.fresh 0 0 (!w.params.followText "set-order")) }
theorem set_of_list {l : Addr} {items : Array Value} (ns : List Int) {Q : Value → Shared → Prop} (hh : A.handled = none) (hl : s.heap.IsList l items) (hit : IntsAre items.toList ns) (hb : ns.length + 1 < scanBound)
    (q : ∀ (h' : Heap) (tk c : Nat), SetR w h' s.heap.objs.size (fun j => decide (j ∈ ns)) c → c ≤ ns.length → (∀ b o, s.heap.get? b = some o → h'.get? b = some o) → Q (.ref s.heap.objs.size) { s with heap := h', toks := tk }) :
    wpAny (model P w) A (call (.type "set") [.ref l]) Q E s := by
  have hisz : items.size = ns.length := by
    have z := IntsAre.length hit
    rw [Array.length_toList] at z
    exact z
  obtain ⟨c0, tl0, eM⟩ := F.called_set.mro
  have eMade := F.called_set.made
  have eSub := F.called_set.sub
  have eNot := F.called_set.notType
  have eCan := F.called_set.canCreate
  have eTy := F.typeCall_set_1 (.ref l)
  refine wpAny_call (codeAny_of_tree (show wpAny _ _ (callAny (.type "set") _) _ _ _ from ?_))
  refine wpAny_pure ⟨Code.quiet_builtin _ (by decide +kernel), codeAny_builtin F.entry_type_call (Eq.mpr (by rw [Around.under_plain (weight_type_call_type "set" [.ref l] []) rfl]) ?body)⟩
  case body =>
    repeat (any_goals (first | assumption | wp_step))
    refine codeAny_mono (code_set_led1 (.ref l) (E := E) (Q₁ := fun obj s1 => obj = .ref s.heap.objs.size ∧ s1 = { s with heap := s.heap.push (freshSet w) }) ⟨rfl, rfl⟩) fun r s1 hr1 => ?_
    match r, hr1 with
    | .error e, hr1 => exact hr1
    | .ok .next, hr1 => exact hr1.elim
    | .ok .brk, hr1 => exact hr1.elim
    | .ok .cont, hr1 => exact hr1.elim
    | .ok (.ret obj), hr1 =>
      obtain ⟨rfl, rfl⟩ := hr1
      have hS : (s.heap.push (freshSet w)).get? s.heap.objs.size = some (freshSet w) := Heap.get?_push_size _ rfl
      have hT : Shared.TypeIs { s with heap := s.heap.push (freshSet w) } (.ref s.heap.objs.size) "set" := ⟨_, hS, rfl⟩
      have eLook := F.called_set.init.lookup
      have eBind := F.called_set.init.bind (.ref s.heap.objs.size)
      repeat (any_goals (first | assumption | wp_step))
      refine codeAny_mono (codeAny_call_builtin (R := wants (fun r s2 => r = .none ∧ ∃ h' tk c, s2 = { s with heap := h', toks := tk } ∧ SetR w h' s.heap.objs.size (fun j => decide (j ∈ ns)) c ∧ c ≤ ns.length ∧ (∀ b o, s.heap.get? b = some o → h'.get? b = some o)) E)
        F.called_set.init.plain F.entry_set_init (check_set_init_1 hT ?inner)) fun r2 s2 hr2 => ?outer
      case outer =>
        match r2, hr2 with
        | .error e, hr2 => exact hr2
        | .ok .next, hr2 => exact hr2.elim
        | .ok .brk, hr2 => exact hr2.elim
        | .ok .cont, hr2 => exact hr2.elim
        | .ok (.ret r), hr2 =>
          obtain ⟨rfl, h', tk, c', rfl, hS', hc', hk'⟩ := hr2
          repeat (any_goals (first | assumption | wp_step))
          exact q _ _ _ hS' hc' hk'
      obtain ⟨ol, hol, hcl, nl, hdl⟩ := hl
      obtain ⟨ocls, odict, odata, oslots⟩ := ol
      simp only at hcl hdl
      subst hcl hdl
      have hol' : (s.heap.push (freshSet w)).get? l = some { cls := .type "list", dict := odict, data := .seq items nl, slots := oslots } := Heap.get?_push_of_some _ hol
      have hl1 : (s.heap.push (freshSet w)).IsList l items := ⟨_, hol', rfl, nl, rfl⟩
      have f1 := F.sub_list_set
      have f2 := F.sub_list_frozenset
      have f3 : (Value.type "list" == Value.type "dict") = false := by decide
      have hlS : l < s.heap.objs.size := Heap.lt_size hol
      unfold Builtin.«set.__init__» noKeywords Builtin.Frozenset.updateFrom
      generalize hPI : pyIter = PI
      wp_walk
      subst hPI
      refine wpAny_pyIter_list hl1 ?_
      refine wpAny_bind (wpAny_runValue ?_)
      have hh3 : A.in1.in1.in1.handled = none := by simp [hh]
      have zz : (s.heap.push (freshSet w)).objs.size = s.heap.objs.size + 1 := Heap.size_push ..
      have nI : l ≠ (s.heap.push (freshSet w)).objs.size := by
        rw [zz]
        exact Nat.ne_of_lt (Nat.lt_succ_of_lt hlS)
      have nf : s.heap.objs.size ∉ [(s.heap.push (freshSet w)).objs.size, l] := by
        rw [zz]
        simp only [List.mem_cons, List.not_mem_nil, or_false, not_or]
        exact ⟨Nat.ne_of_lt (Nat.lt_succ_self _), Nat.ne_of_gt hlS⟩
      have hval : ∀ (i : Nat) (v : Value), items[i]? = some v → ∃ k t, ns[i]? = some k ∧ v = .int k t := fun i v hv => by
        have hi : i < ns.length := by
          rw [← hisz]
          exact (Array.getElem?_eq_some_iff.mp hv).1
        obtain ⟨t, e⟩ := IntsAre.int_at hit i v (by rw [Array.getElem?_toList]; exact hv)
        refine ⟨ns[i], t, List.getElem?_eq_getElem hi, ?_⟩
        rw [e, List.getD_eq_getElem?_getD, List.getElem?_eq_getElem hi]
        rfl
      refine set_update_ints ((Walks.list hh3 _ l nI items).toS) s.heap.objs.size nf ns hisz hb hval (items.size - 0) 0 _ (by omega) (Nat.zero_le _) ⟨⟨_, Heap.get?_push_size _ rfl, rfl, rfl⟩, (hl1.push _)⟩
        ⟨0, Nat.le_refl 0, setR_new_at (Heap.get?_push_of_some _ hS)⟩ fun s2 c2 hm hc2 hS2 => ?_
      obtain ⟨h2, g2, d2, k2, o2⟩ := s2
      obtain rfl : g2 = s.gens := hm.gens
      obtain rfl : d2 = s.drawn := hm.drawn
      obtain rfl : o2 = s.os := hm.os
      refine wpAny_pure ?_
      show wpAny _ _ (ret Value.none) _ _ _
      rw [hisz] at hc2
      refine wpAny_pure ⟨rfl, h2, k2, c2, rfl, hS2, hc2, fun b o e => ?_⟩
      have b0 : b < s.heap.objs.size := Heap.lt_size e
      refine hm.heap b o ?_ (Heap.get?_push_of_some _ (Heap.get?_push_of_some _ e))
      rw [zz]
      simp only [List.mem_cons, List.not_mem_nil, or_false, not_or]
      exact ⟨Nat.ne_of_lt b0, Nat.ne_of_lt (Nat.lt_succ_of_lt b0)⟩
end
end Fw
end

section
set_option linter.all false
set_option maxRecDepth 100000
set_option maxHeartbeats 2000000
namespace Fw
open PySem PySem.Spec PyProof.Rows L2
theorem vals_ints : ∀ {ns : List Int} {us : List Value}, IntsAre us ns → Vals (ns.map V.int) us
  | _, _, .nil => .nil
  | _, _, .cons n t r => .cons ⟨t, rfl⟩ (vals_ints r)
section
variable {X : Cx}
/-- sorted(set(e)), e a list of ints -/
def tSortSet (K : PySem.W.Frag) (te : TE) : TE := fun σ H Q => te σ H fun x H1 => ∃ (l : Addr) (ns : List Int), x = .ref l ∧ SqL K H1 l (ns.map V.int) ∧ ns.length < 64 ∧ ∀ p, H1 p = none → Q (.ref p) (upd H1 p (.lst ((Ff.sortU ns).map V.int)))
theorem pe_sortSet {a : Expr} {ta : TE} {p p2 q pos : Pos} (hg : Gl X "sorted") (hm : X.mg "sorted" = none) (hg2 : Gl X "set") (hm2 : X.mg "set" = none) (ha : PE X a ta) (hc : X.calm = true := by rfl)
    (na : starEach [a] X.env = (false, eval a X.env) :: starEach [] X.env := by rfl) : PE X (.Call (.Name "sorted" p) [.Call (.Name "set" p2) [a] [] q] [] pos) (tSortSet X.K ta) := by
  refine ⟨fun pins s σ H Q I h => Call_ (ld_blt I hg hm bt_sorted (PyProof.Rows.callWith_builtin1 (PyProof.Rows.args_cons (Call_ (ld_blt I hg2 hm2 bt_set (PyProof.Rows.callWith_type1 (PyProof.Rows.args_cons (thn (ha.run pins s σ H _ I h) fun v s1 got => PyProof.Rows.args_nil ?_) na) na rfl))) rfl) rfl rfl))⟩
  obtain ⟨x, H1, I1, r1, l, ns, rfl, hq, hl, q1⟩ := got
  cases r1
  obtain ⟨its, rv, pl, hz⟩ := I1.list hq
  have hdd : X.A.handled = none := I1.ok.hd hc
  refine set_of_list ns hdd pl.isList (by simpa using ints_of_vals rv) (by unfold scanBound; omega) fun h' tk c hS hcn hk => PyProof.Rows.args_nil ?_
  refine sorted_set (s := { s1 with heap := h', toks := tk }) hS hdd (by omega) fun s2 p out cc ks k2 g2 o2 hp hget hi hs hmem hlen => ?_
  obtain ⟨h2, g2', d2, t2, o2'⟩ := s2
  have k : ∀ b o, s1.heap.get? b = some o → h2.get? b = some o := fun b o e => k2 b o (hk b o e)
  have ek : ks = Ff.sortU ns := Ff.asc_ext hs (Ff.asc_sortU ns) fun z => by
    rw [hmem z, Ff.mem_sortU, decide_eq_true_eq]
  have hp1 : s1.heap.objs.size ≤ p := Nat.le_of_lt (Nat.lt_of_lt_of_le (SetR.lt hS) hp)
  have hn : H1 p = none := I1.hok.fresh hp1
  have hlen2 : (ks.map V.int).length ≤ sizeLine := by
    rw [List.length_map, hlen, sizeLine_eq]
    omega
  have new : ObjOk X.prog X.w (upd H1 p (.lst (ks.map V.int))) h2 p (.lst (ks.map V.int)) := ⟨hlen2, out.toList, cc, vals_ints hi, hget⟩
  have J : Inv X pins σ (upd H1 p (.lst (ks.map V.int))) { s1 with heap := h2, gens := g2', drawn := d2, toks := t2 } :=
    I1.call (ch := []) (Un.laid k hp1 hn) (I1.hok.laid k hp1 new) (by rw [show g2' = s1.gens from g2]; exact I1.bare) (fun _ z => nomatch z)
  have eo : o2' = s1.os := o2
  subst eo
  refine ⟨.ref p, _, J, rfl, ?_⟩
  rw [ek]
  exact q1 p hn
end
end Fw
end

section
set_option linter.all false
set_option maxRecDepth 100000
/-! Short words for list methods; the lots of places. -/
namespace Fw
open PySem PySem.Spec PyProof.Rows L2
section
variable {X : Cx} {o e : Expr} {to te : TE} {apos cpos pos : Pos}
theorem ps_app (ho : PE X o to) (he : PE X e te) (hb : attributeBase o "append" X.env (eval o X.env) = eval o X.env := by rfl)
    (hf : ((backTo cpos (starEach [e] X.env)).all (fun x => !x.1) && (backToKw cpos (keywordEach [] X.env)).all (fun x => x.1.isSome) && decide (([e] : List Expr).length + ([] : List Keyword).length + (if ([] : List Keyword).isEmpty then 0 else 1) < 30)) = true := by rfl)
    (hl : (apos.endLine == cpos.line) = true := by rfl) (hs : starEach [e] X.env = (false, eval e X.env) :: starEach [] X.env := by rfl) (hp : (backTo cpos (starEach [] X.env)).any (fun z => z.1) = false := by rfl)
    (hw : swapsWith (.Call (.Attribute o "append" apos) [e] [] cpos) none pos.line X.env = pure false := by rfl) :
    PS X (.Expr (.Call (.Attribute o "append" apos) [e] [] cpos) pos) (tDrop (tBM X.K "list" rAppend to (tCons te tNil))) :=
  ps_expr (pe_bm PySem.F.plainAttrs_list PySem.F.slot_list_append PySem.F.type_list_append mt_append ho (pa_cons he pa_nil hs) hb hf hl hs hp) hw
theorem ps_ext (ho : PE X o to) (he : PE X e te) (hb : attributeBase o "extend" X.env (eval o X.env) = eval o X.env := by rfl)
    (hf : ((backTo cpos (starEach [e] X.env)).all (fun x => !x.1) && (backToKw cpos (keywordEach [] X.env)).all (fun x => x.1.isSome) && decide (([e] : List Expr).length + ([] : List Keyword).length + (if ([] : List Keyword).isEmpty then 0 else 1) < 30)) = true := by rfl)
    (hl : (apos.endLine == cpos.line) = true := by rfl) (hs : starEach [e] X.env = (false, eval e X.env) :: starEach [] X.env := by rfl) (hp : (backTo cpos (starEach [] X.env)).any (fun z => z.1) = false := by rfl)
    (hw : swapsWith (.Call (.Attribute o "extend" apos) [e] [] cpos) none pos.line X.env = pure false := by rfl) :
    PS X (.Expr (.Call (.Attribute o "extend" apos) [e] [] cpos) pos) (tDrop (tBM X.K "list" rExtend to (tCons te tNil))) :=
  ps_expr (pe_bm PySem.F.plainAttrs_list PySem.F.slot_list_extend PySem.F.type_list_extend mt_extend ho (pa_cons he pa_nil hs) hb hf hl hs hp) hw
theorem ps_extT (ho : PE X o to) (he : PE X e te) (hb : attributeBase o "extend" X.env (eval o X.env) = eval o X.env := by rfl)
    (hf : ((backTo cpos (starEach [e] X.env)).all (fun x => !x.1) && (backToKw cpos (keywordEach [] X.env)).all (fun x => x.1.isSome) && decide (([e] : List Expr).length + ([] : List Keyword).length + (if ([] : List Keyword).isEmpty then 0 else 1) < 30)) = true := by rfl)
    (hl : (apos.endLine == cpos.line) = true := by rfl) (hs : starEach [e] X.env = (false, eval e X.env) :: starEach [] X.env := by rfl) (hp : (backTo cpos (starEach [] X.env)).any (fun z => z.1) = false := by rfl)
    (hw : swapsWith (.Call (.Attribute o "extend" apos) [e] [] cpos) none pos.line X.env = pure false := by rfl) :
    PS X (.Expr (.Call (.Attribute o "extend" apos) [e] [] cpos) pos) (tDrop (tBM X.K "list" (rExtT X.K) to (tCons te tNil))) :=
  ps_expr (pe_bm PySem.F.plainAttrs_list PySem.F.slot_list_extend PySem.F.type_list_extend mt_extT ho (pa_cons he pa_nil hs) hb hf hl hs hp) hw
end
theorem tyL {K : PySem.W.Frag} {H : Hp} {a : Addr} {xs : List V} (h : H a = some (.lst xs)) : tyV K "list" (.ref a) H := .inl ⟨rfl, xs, SqL.of h⟩
/-! ### the lots -/
def ixRun (n : Nat) : Nat → List Nat → List (List Nat)
  | 0, l => [l]
  | k + 1, l => match nextIx n l with
    | none => [l]
    | some l' => l :: ixRun n k l'
def ixs (n r : Nat) : List (List Nat) := ixRun n 30 (List.range r)
def okIx (n r : Nat) : Bool := chainB n (ixs n r) && decide ((ixs n r).head? = some (List.range r)) && (ixs n r).all (fun ix => decide (ix.length ≤ 6) && ix.all (fun i => decide (i < n)) && decide (ix.Pairwise (· < ·)) && decide (ix ≠ [])) && decide ((ixs n r).length ≤ 30)
def rowI (ix : List Nat) : List Int := ix.map fun (i : Nat) => (i : Int)
def lotsOf (n k : Nat) : List (List Int) := (List.range k).flatMap fun j => (ixs n (j + 1)).map rowI
def lots (n : Nat) : List (List Int) := lotsOf n n
theorem lotsOf_succ (n k : Nat) : lotsOf n (k + 1) = lotsOf n k ++ (ixs n (k + 1)).map rowI := by
  unfold lotsOf
  rw [List.range_succ, List.flatMap_append]
  simp
theorem okIx_all : (List.range 5).all (fun a => (List.range (a + 2)).all fun b => okIx (a + 2) (b + 1)) = true := by decide +kernel
theorem okIx_at {n r : Nat} (h2 : 2 ≤ n) (h6 : n ≤ 6) (r1 : 1 ≤ r) (rn : r ≤ n) : okIx n r = true := by
  have h := List.all_eq_true.mp okIx_all (n - 2) (List.mem_range.mpr (by omega))
  have h' := List.all_eq_true.mp h (r - 1) (List.mem_range.mpr (by omega))
  rw [show n - 2 + 2 = n by omega, show r - 1 + 1 = r by omega] at h'
  exact h'
structure IxOk (n r : Nat) : Prop where
  chain : chainB n (ixs n r) = true
  head : (ixs n r).head? = some (List.range r)
  row : ∀ ix, ix ∈ ixs n r → ix.length ≤ 6 ∧ (∀ i, i ∈ ix → i < n) ∧ ix.Pairwise (· < ·) ∧ ix ≠ []
  few : (ixs n r).length ≤ 30
theorem ixOk {n r : Nat} (h2 : 2 ≤ n) (h6 : n ≤ 6) (r1 : 1 ≤ r) (rn : r ≤ n) : IxOk n r := by
  have h := okIx_at h2 h6 r1 rn
  unfold okIx at h
  simp only [Bool.and_eq_true, decide_eq_true_eq, List.all_eq_true] at h
  obtain ⟨⟨⟨h1, h3⟩, h4⟩, h5⟩ := h
  exact ⟨h1, h3, fun ix hx => ⟨(h4 ix hx).1.1.1, (h4 ix hx).1.1.2, (h4 ix hx).1.2, (h4 ix hx).2⟩, h5⟩
def sidesOfN (n : Nat) : List (List Int) := Ff.sidesOf ((List.range n).map fun (i : Nat) => (i : Int))
theorem lots_every : (List.range 5).all (fun a => (sidesOfN (a + 2)).all fun S => decide (S = []) || (lots (a + 2)).contains S) = true := by decide +kernel
theorem sidesOf_all {ps : List Int} (h : Ff.Asc ps) : ∀ i, i ≤ ps.length → ∀ S, Ff.Asc S → (∀ q, q ∈ S → q ∈ ps.take i) → S ∈ Ff.sidesOf (ps.take i)
  | 0, _, S, _, hm => by
    have e : S = [] := List.eq_nil_iff_forall_not_mem.mpr fun q hq => by simpa using hm q hq
    subst e
    exact List.mem_singleton.mpr rfl
  | i + 1, hi, S, hS, hm => by
    have hlt : i < ps.length := hi
    have e : ps[i]? = some ps[i] := List.getElem?_eq_getElem hlt
    have et : ps.take (i + 1) = ps.take i ++ [ps[i]] := by rw [List.take_add_one, e, Option.toList_some]
    have hd := Ff.asc_take_lt h hlt
    have hdone : Ff.Asc (ps.take i) := h.sublist (List.take_sublist _ _)
    rw [Ff.sidesOf_take e]
    have ih := sidesOf_all h i (Nat.le_of_lt hlt) (Ff.cut (ps.take i) S) (hS.filter _) fun q hq => of_decide_eq_true (List.mem_filter.mp hq).2
    by_cases hp : ps[i] ∈ S
    · have q := Ff.cut_in hS hd hdone hp
      have e2 : Ff.cut (ps.take i ++ [ps[i]]) S = S := List.filter_eq_self.mpr fun q hq => decide_eq_true (by rw [← et]; exact hm q hq)
      rw [e2] at q
      rw [q]
      exact List.mem_append_right _ (List.mem_map.mpr ⟨_, ih, rfl⟩)
    · have e2 : Ff.cut (ps.take i) S = S := List.filter_eq_self.mpr fun q hq => by
        have := hm q hq
        rw [et] at this
        rcases List.mem_append.mp this with z | z
        · exact decide_eq_true z
        · rw [List.mem_singleton.mp z] at hq
          exact absurd hq hp
      rw [e2] at ih
      exact List.mem_append_left _ ih
/-- the sides, in the program's order -/
def sides (n : Nat) (r : Int) : List (List Int) := (lots n).filter fun S => !decide (r ∈ S)
theorem mem_lots {n : Nat} {S : List Int} (h : S ∈ lots n) : ∃ k ix, k < n ∧ ix ∈ ixs n (k + 1) ∧ S = rowI ix := by
  obtain ⟨k, hk, h⟩ := List.mem_flatMap.mp h
  obtain ⟨ix, hx, e⟩ := List.mem_map.mp h
  exact ⟨k, ix, List.mem_range.mp hk, hx, e.symm⟩
theorem mem_sides {n : Nat} {r : Int} (h2 : 2 ≤ n) (h6 : n ≤ 6) (S : List Int) : S ∈ sides n r ↔ Ff.Side n r S := by
  constructor
  · intro h
    obtain ⟨h1, hr⟩ := List.mem_filter.mp h
    obtain ⟨k, ix, hk, hx, rfl⟩ := mem_lots h1
    obtain ⟨_, lt, asc, ne⟩ := (ixOk (r := k + 1) h2 h6 (by omega) (by omega)).row ix hx
    refine ⟨List.pairwise_map.mpr (asc.imp fun h => by omega), by unfold rowI; simpa using ne, fun q hq => ?_⟩
    have hqr : q ≠ r := fun e => by
      subst e
      simp [hq] at hr
    obtain ⟨i, hi, rfl⟩ := List.mem_map.mp hq
    have := lt i hi
    exact Ff.mem_pls.mpr ⟨by omega, by omega, hqr⟩
  · intro h
    have hm : S ∈ sidesOfN n := by
      have l := sidesOf_all (Ff.asc_range n) _ (Nat.le_refl _) S h.asc fun q hq => by
        obtain ⟨a, b, _⟩ := Ff.mem_pls.mp (h.sub q hq)
        rw [List.take_length]
        exact List.mem_map.mpr ⟨q.toNat, List.mem_range.mpr (by omega), by omega⟩
      rw [List.take_length] at l
      exact l
    have q := List.all_eq_true.mp (List.all_eq_true.mp lots_every (n - 2) (List.mem_range.mpr (by omega))) S (by rw [show n - 2 + 2 = n by omega]; exact hm)
    rw [show n - 2 + 2 = n by omega, Bool.or_eq_true, decide_eq_true_eq] at q
    rcases q with q | q
    · exact absurd q h.ne
    · exact List.mem_filter.mpr ⟨by simpa using q, by simpa using Ff.side_root h⟩
end Fw
end

section
set_option linter.all false
set_option maxRecDepth 100000
/-! The walk, first part: checks of ints, pairs, lots, links, sides. -/
namespace Fw
open PySem PySem.Spec PyProof.Rows L2
/-- isinstance(x, T), T built in -/
def rIs (K : PySem.W.Frag) : List V → Hp → VK → Prop := fun xs H Q => ∃ (x : V) (n m : String) (b : Bool), xs = [x, .ty n] ∧ TyX K H x (.type m) ∧ kitB m n = some b ∧ Q (.bl b) H
theorem call_is {X : Cx} : CallR X (.builtin "isinstance") (rIs X.K) := by
  intro pins s σ H xs us Q I r h
  obtain ⟨x, n, m, b, e, t, k, q⟩ := h
  exact call_isi pins s σ H xs us Q I r ⟨x, .ty n, .type m, .type n, b, e, .ty n, t, kit_ty k, q⟩
section
variable {P : Program} {w : World} {K : PySem.W.Frag} {mg : Str → Option Value} {base : Heap}
/-! ### is_integer, is_within, is_pair -/
def spIsInteger : Sp := fun vs H Q _ => ∃ i : Int, vs = [.int i] ∧ Q (.bl true) H
theorem ok_is_integer (B : Bt mg) (F : FunAt K mg "is_integer" s_is_integer ["thing"]) : Fn P w K mg base 1 "is_integer" ["thing"] spIsInteger := F.fn fun f fd F => by
  refine F.ok sc_is_integer (fun vs H Q E h => ?_) (fun cdv A outer s H vs Q E hr h => ?_)
  · obtain ⟨i, rfl, _⟩ := h
    rfl
  · obtain ⟨i, rfl, q⟩ := h
    refine ⟨_, pss_one (ps_ret (pe_and (pe_callB call_is (by rfl) B.isinstance bt_isinstance (pa_cons (pv 0) (pa_cons (pe_bltn (v := .ty "int") (by rfl) B.int bt_int rfl) pa_nil)))
      (pe_one (pe_not (pe_callB call_is (by rfl) B.isinstance bt_isinstance (pa_cons (pv 0) (pa_cons (pe_bltn (v := .ty "bool") (by rfl) B.bool bt_bool rfl) pa_nil))))))), ?_⟩
    refine ⟨_, rfl, _, "int", "int", true, rfl, .base (.int _), (by decide +kernel), _, rfl, iteT ?_⟩
    exact ⟨_, rfl, _, "bool", "int", false, rfl, .base (.int _), (by decide +kernel), _, rfl, q⟩
def spIsWithin : Sp := fun vs H Q _ => ∃ i lo hi : Int, vs = [.int i, .int lo, .int hi] ∧ Q (.bl (decide (lo ≤ i) && decide (i ≤ hi))) H
theorem ok_is_within (F : FunAt K mg "is_within" s_is_within ["thing", "least", "most"]) (G : Fn P w K mg base 1 "is_integer" ["thing"] spIsInteger) : Fn P w K mg base 2 "is_within" ["thing", "least", "most"] spIsWithin := F.fn fun f fd F => by
  refine F.ok sc_is_within (fun vs H Q E h => ?_) (fun cdv A outer s H vs Q E hr h => ?_)
  · obtain ⟨i, lo, hi, rfl, _⟩ := h
    rfl
  · obtain ⟨i, lo, hi, rfl, q⟩ := h
    refine ⟨_, pss_one (ps_ret (pe_and (pe_fn G hr (pa_cons (pv 0) pa_nil)) (pe_one (pe_chain op_le op_le (pv 1) (pv 0) (pv 2))))), ?_⟩
    refine ⟨_, rfl, i, rfl, _, rfl, iteT ?_⟩
    refine ⟨_, rfl, _, rfl, lo, i, rfl, rfl, _, rfl, ite2 (fun c => ?_) (fun c => ?_)⟩
    · refine ⟨_, rfl, i, hi, rfl, rfl, ?_⟩
      rw [c, Bool.true_and] at q
      exact q
    · rw [Bool.eq_false_iff.mpr c, Bool.false_and] at q
      exact q
def spIsPair : Sp := fun vs H Q _ => ∃ (v : V) (e : Int × Int), vs = [v] ∧ IP H v e ∧ Q (.bl true) H
theorem ok_is_pair (B : Bt mg) (F : FunAt K mg "is_pair" s_is_pair ["thing"]) : Fn P w K mg base 1 "is_pair" ["thing"] spIsPair := F.fn fun f fd F => by
  refine F.ok sc_is_pair (fun vs H Q E h => ?_) (fun cdv A outer s H vs Q E hr h => ?_)
  · obtain ⟨v, e, rfl, _⟩ := h
    rfl
  · obtain ⟨v, e, rfl, ⟨a, rfl, ha⟩, q⟩ := h
    refine ⟨_, pss_one (ps_ret (pe_and (pe_callB call_is (by rfl) B.isinstance bt_isinstance (pa_cons (pv 0) (pa_cons (pe_bltn (v := .ty "tuple") (by rfl) B.tuple bt_tuple rfl) pa_nil)))
      (pe_one (pe_cmpR op_eq (pe_callB call_len_seq (by rfl) B.len bt_len (pa_cons (pv 0) pa_nil)) pe_int (nomark _))))), ?_⟩
    refine ⟨_, rfl, _, "tuple", "tuple", true, rfl, .base (.tup ha), (by decide +kernel), _, rfl, iteT ?_⟩
    exact ⟨_, rfl, a, _, rfl, .inr (SqT.of ha), rfl, q⟩
/-! ### check_number -/
def spCheckNumber : Sp := fun vs H Q _ => ∃ i lo hi : Int, vs = [.int i, .int lo, .int hi] ∧ lo ≤ i ∧ i ≤ hi ∧ Q .non H
theorem ok_check_number (F : FunAt K mg "check_number" s_check_number ["thing", "least", "most"]) (G : Fn P w K mg base 2 "is_within" ["thing", "least", "most"] spIsWithin) : Fn P w K mg base 3 "check_number" ["thing", "least", "most"] spCheckNumber := F.fn fun f fd F => by
  refine F.ok sc_check_number (fun vs H Q E h => ?_) (fun cdv A outer s H vs Q E hr h => ?_)
  · obtain ⟨i, lo, hi, rfl, _⟩ := h
    rfl
  · obtain ⟨i, lo, hi, rfl, h1, h2, q⟩ := h
    refine ⟨_, pss_one (ps_if (pt_not (pt_val (pe_fn G hr (pa_cons (pv 0) (pa_cons (pv 1) (pa_cons (pv 2) pa_nil)))))) (pss_one ps_never) pss_nil), ?_⟩
    refine ⟨_, rfl, _, rfl, _, rfl, i, lo, hi, rfl, _, rfl, ?_⟩
    rw [decide_eq_true h1, decide_eq_true h2]
    exact iteF q
/-! ### is_lot, is_link -/
def spIsLot : Sp := fun vs H Q _ => ∃ (t : Addr) (m : Int) (ns : List Int), vs = [.ref t, .int m] ∧ H t = some (.tup (ns.map V.int)) ∧ Ff.Asc ns ∧ (∀ x, x ∈ ns → 0 ≤ x ∧ x < m) ∧ Q (.bl true) H
theorem ok_is_lot (B : Bt mg) (F : FunAt K mg "is_lot" s_is_lot ["thing", "many"]) (G : Fn P w K mg base 2 "is_within" ["thing", "least", "most"] spIsWithin) : Fn P w K mg base 3 "is_lot" ["thing", "many"] spIsLot := F.fn fun f fd F => by
  refine F.ok sc_is_lot (fun vs H Q E h => ?_) (fun cdv A outer s H vs Q E hr h => ?_)
  · obtain ⟨t, m, ns, rfl, _⟩ := h
    rfl
  · obtain ⟨t, m, ns, rfl, ht, hA, hb, q⟩ := h
    refine ⟨_, pss_cons (ps_if (pt_not (pt_val (pe_callB call_is (by rfl) B.isinstance bt_isinstance (pa_cons (pv 0) (pa_cons (pe_bltn (v := .ty "tuple") (by rfl) B.tuple bt_tuple rfl) pa_nil))))) (pss_one (ps_ret pe_bl)) pss_nil)
      (pss_cons (ps_set (i := 2) sc_is_lot.nd rfl (.inl rfl) (pe_un un_neg pe_int))
      (pss_cons (ps_for PassesOwn.never rfl (pi_tup (pv 0)) (pg_name (i := 3) sc_is_lot.nd rfl (.inl rfl))
        (pss_cons (ps_if (pt_not (pt_val (pe_fn G hr (pa_cons (pv 3) (pa_cons (pe_op op_add (pv 2) pe_int) (pa_cons (pe_op op_sub (pv 1) pe_int) pa_nil)))))) (pss_one (ps_ret pe_bl)) pss_nil)
        (pss_one (ps_set (i := 2) sc_is_lot.nd rfl (.inl rfl) (pv 3)))))
      (pss_one (ps_ret pe_bl)))), ?_⟩
    refine ⟨_, rfl, _, "tuple", "tuple", true, rfl, .base (.tup ht), (by decide +kernel), _, rfl, iteN rfl ?_⟩
    refine ⟨1, rfl, _, rfl, t, rfl, ⟨_, SqT.of ht⟩, for_tup (xs := ns.map V.int) (fun i σ H' => ∃ (z : Int) (y : Option V), σ = [some (.ref t), some (.int m), some (.int z), y] ∧ H' = H ∧ -1 ≤ z ∧ ∀ x, x ∈ ns.drop i → z < x)
      ⟨-1, none, rfl, rfl, by omega, fun x hx => by have := (hb x (by simpa using hx)).1; omega⟩ (fun i σ H' _ ⟨z, y, _, e, _⟩ => by rw [e]; exact SqT.of ht) ?_ ?_⟩
    · rintro i x σ H' hx ⟨z, y, rfl, rfl, hz, hd⟩
      rw [List.getElem?_map] at hx
      obtain ⟨v, hv, rfl⟩ := Option.map_eq_some_iff.mp hx
      obtain ⟨hi, ev⟩ := List.getElem?_eq_some_iff.mp hv
      have ed : ns.drop i = v :: ns.drop (i + 1) := by rw [← ev]; exact List.drop_eq_getElem_cons hi
      have h1 := hd v (by rw [ed]; exact List.mem_cons_self)
      have h2 := (hb v (ev ▸ List.getElem_mem hi)).2
      refine ⟨_, rfl, _, rfl, z, 1, rfl, rfl, _, rfl, m, 1, rfl, rfl, v, _, _, rfl, _, rfl, iteN ?_ ?_⟩
      · rw [Bool.and_eq_true, decide_eq_true_eq, decide_eq_true_eq]
        omega
      · refine ⟨_, rfl, v, _, rfl, rfl, by omega, ?_⟩
        have hA2 : Ff.Asc (ns.drop i) := hA.sublist (List.drop_sublist _ _)
        rw [ed] at hA2
        exact (List.pairwise_cons.mp hA2).1
    · rintro σ H' ⟨z, y, rfl, rfl, _⟩
      exact q
def spIsLink : Sp := fun vs H Q _ => ∃ (m : Int) (v : V) (e : Int × Int), vs = [.int m, v] ∧ IP H v e ∧ (0 ≤ e.1 ∧ e.1 < m) ∧ (0 ≤ e.2 ∧ e.2 < m) ∧ e.1 ≠ e.2 ∧ ∀ H', Same H H' → Q (.bl true) H'
theorem ok_is_link (B : Bt mg) (F : FunAt K mg "is_link" s_is_link ["many", "thing"]) (G : Fn P w K mg base 2 "is_within" ["thing", "least", "most"] spIsWithin) (G2 : Fn P w K mg base 1 "is_pair" ["thing"] spIsPair) :
    Fn P w K mg base 3 "is_link" ["many", "thing"] spIsLink := F.fn fun f fd F => by
  refine F.ok sc_is_link (fun vs H Q E h => ?_) (fun cdv A outer s H vs Q E hr h => ?_)
  · obtain ⟨m, v, e, rfl, _⟩ := h
    rfl
  · obtain ⟨m, v, e, rfl, hv, h1, h2, hne, q⟩ := h
    obtain ⟨t, rfl, ht⟩ := id hv
    refine ⟨_, pss_cons (ps_if (PW.pt (pw_or (pt_not (pt_val (pe_fn G2 (hr.mono (by decide)) (pa_cons (pv 1) pa_nil))))
        (pw_or1 (pt_not (pt_val (pe_callB (cr_all rfl) (by rfl) B.all bt_all (pa_cons (pe_lc (own := [("place", 2)]) (g := gName 2) (tt := tYes) rfl sc_is_link.nd (pi_tup (pv 1)) (blkOk_by (N := N_is_link) (sc := defScope s_is_link) (by decide +kernel))
          (fun _ _ _ _ _ => pg_name (i := 2) sc_is_link.nd rfl (Or.inl rfl)) (fun _ _ _ _ _ => pts_nil) (fun _ _ _ _ _ => pe_fn G hr (pa_cons (pv 2) (pa_cons pe_int (pa_cons (pe_op op_sub (pv 0) pe_int) pa_nil))))) pa_nil))))))) (pss_one (ps_ret pe_bl)) pss_nil)
      (pss_one (ps_ret (pe_cmpR op_ne (pe_ix ix_tup (pv 1) pe_int (fun _ _ => rfl)) (pe_ix ix_tup (pv 1) pe_int (fun _ _ => rfl)) (nomark _)))), ?_⟩
    refine ⟨_, rfl, _, e, rfl, hv, _, rfl, iteN rfl ?_⟩
    refine ⟨_, rfl, t, rfl, ⟨_, SqT.of ht⟩, fun D nD => ?_⟩
    refine lc_tup (xs := [V.int e.1, V.int e.2]) (fun i H' => Same H H' ∧ H' D = some (.lst ((List.replicate i true).map V.bl))) ⟨new_same nD _, upd_same⟩ (fun i H' _ p => SqT.of (p.1 _ _ ht)) ?_ ?_
    · rintro i x H' hx ⟨sm, hD⟩
      have hx2 : ∃ z, x = .int z ∧ 0 ≤ z ∧ z < m := by
        match i, hx with
        | 0, hx => exact ⟨e.1, (Option.some.inj hx).symm, h1⟩
        | 1, hx => exact ⟨e.2, (Option.some.inj hx).symm, h2⟩
      obtain ⟨z, rfl, z1, z2⟩ := hx2
      refine ⟨rfl, ?_⟩
      refine ⟨_, rfl, _, rfl, m, 1, rfl, rfl, z, 0, m - 1, rfl, _, hD, ?_, upd_sameN nD sm _, ?_⟩
      · have : i < 2 := (List.getElem?_eq_some_iff.mp hx).1
        rw [List.length_map, List.length_replicate]
        exact small1000 (by omega)
      · rw [upd_same, decide_eq_true z1, decide_eq_true (show z ≤ m - 1 by omega), List.replicate_succ', List.map_append]
        rfl
    · rintro H' ⟨sm, hD⟩
      refine ⟨D, _, rfl, SqL.of hD, _, rfl, iteN rfl ?_⟩
      refine ⟨_, rfl, t, _, 0, _, rfl, rfl, SqT.of (sm _ _ ht), atI_nat (j := 0) rfl, ?_⟩
      refine ⟨_, rfl, t, _, 1, _, rfl, rfl, SqT.of (sm _ _ ht), atI_nat (j := 1) rfl, rfl, ?_⟩
      rw [decide_eq_false (fun z => hne (V.int.inj z))]
      exact q H' sm
end
end Fw
end

section
set_option linter.all false
set_option maxRecDepth 100000
/-! The walk: nets. -/
namespace Fw
open PySem PySem.Spec PyProof.Rows L2
/-! ### nets as objects -/
theorem k_mr : ¬ (("many" : Str) = "root") := by decide +kernel
theorem k_ml : ¬ (("many" : Str) = "links") := by decide +kernel
theorem k_rl : ¬ (("root" : Str) = "links") := by decide +kernel
def netF (n : Nat) (r : Int) (t : Addr) : List (Str × V) := putF "links" (.ref t) (putF "root" (.int r) (putF "many" (.int (n : Int)) []))
theorem netF_many (n : Nat) (r : Int) (t : Addr) : (netF n r t).lookup ("many" : Str) = some (.int (n : Int)) := by
  unfold netF
  rw [lookup_putF, if_neg k_ml, lookup_putF, if_neg k_mr, lookup_putF, if_pos rfl]
theorem netF_root (n : Nat) (r : Int) (t : Addr) : (netF n r t).lookup ("root" : Str) = some (.int r) := by
  unfold netF
  rw [lookup_putF, if_neg k_rl, lookup_putF, if_pos rfl]
theorem netF_links (n : Nat) (r : Int) (t : Addr) : (netF n r t).lookup ("links" : Str) = some (.ref t) := by
  unfold netF
  rw [lookup_putF, if_pos rfl]
/-- the class Net, as the top has made it -/
structure NetC (K : PySem.W.Frag) (mg : Str → Option Value) (C : Addr) : Prop where
  cl : Cls K C
  nM : NoAttr K C "many"
  nR : NoAttr K C "root"
  nL : NoAttr K C "links"
  mgC : mg "Net" = some (.ref C)
  ca : PySem.W.findIn K (.ref C) "__class__" = some (some (.builtin "object.__class__"))
  cs : PySem.W.specialIn K (.builtin "object.__class__") "__get__" = some (some (.builtin "getset_descriptor.__get__"))
  ct : PySem.W.takesIn K (.builtin "object.__class__") = some true
  cm : PySem.W.mroIn K C (.type "object") = some true
/-- links at an address -/
def LksAt (H : Hp) (t : Addr) (ls : Ff.Lks) : Prop := ∃ vs, H t = some (.tup vs) ∧ IPs H vs ls
theorem LksAt.same {H H' : Hp} {t : Addr} {ls : Ff.Lks} (h : LksAt H t ls) (s : Same H H') : LksAt H' t ls := by
  obtain ⟨vs, a, b⟩ := h
  exact ⟨vs, s _ _ a, IPs.same b s⟩
/-- a net at an address -/
def NetAt (C : Addr) (H : Hp) (p : Addr) (n : Nat) (r : Int) (ls : Ff.Lks) : Prop := ∃ dx t, H p = some (.ins C dx (netF n r t)) ∧ LksAt H t ls
theorem NetAt.same {C : Addr} {H H' : Hp} {p : Addr} {n : Nat} {r : Int} {ls : Ff.Lks} (h : NetAt C H p n r ls) (s : Same H H') : NetAt C H' p n r ls := by
  obtain ⟨dx, t, a, b⟩ := h
  exact ⟨dx, t, s _ _ a, b.same s⟩
/-- a net that is one -/
structure NetOk (n : Nat) (r : Int) (ls : Ff.Lks) : Prop where
  lo : 2 ≤ n
  hi : n ≤ 6
  r0 : 0 ≤ r
  r1 : r < n
  few : ls.length ≤ 40
  ok : ∀ e, e ∈ ls → (0 ≤ e.1 ∧ e.1 < n) ∧ (0 ≤ e.2 ∧ e.2 < n) ∧ e.1 ≠ e.2
section
variable {P : Program} {w : World} {K : PySem.W.Frag} {mg : Str → Option Value} {base : Heap} {C : Addr}
/-! ### Net.__init__ -/
def spNetInit (C : Addr) : Sp := fun vs H Q _ => ∃ (p dx t : Addr) (n : Nat) (r : Int) (ls : Ff.Lks), vs = [.ref p, .int (n : Int), .int r, .ref t] ∧ H p = some (.ins C dx []) ∧ LksAt H t ls ∧ NetOk n r ls ∧
  ∀ H', NetAt C H' p n r ls → (∀ b o, H b = some o → b ≠ p → H' b = some o) → Q .non H'
theorem ok_Net_init {f : Addr} {fd : FuncData} (T : NetC K mg C) (B : Bt mg) (F : Fun K "__init__" "Net.__init__" s_Net_init f fd) (hL : ∃ t, mg "LEAST_PLACES" = some (.int 2 t)) (hM : ∃ t, mg "MOST_PLACES" = some (.int 10 t)) (hK : ∃ t, mg "MOST_LINKS" = some (.int 60 t))
    (G : Fn P w K mg base 2 "is_within" ["thing", "least", "most"] spIsWithin) (G2 : Fn P w K mg base 3 "is_link" ["many", "thing"] spIsLink) : FnOk P w K mg base CX0 4 f fd ["self", "many", "root", "links"] (spNetInit C) := by
  obtain ⟨t1, hL⟩ := hL
  obtain ⟨t2, hM⟩ := hM
  obtain ⟨t3, hK⟩ := hK
  refine F.ok sc_Net_init (fun vs H Q E h => ?_) (fun cdv A outer s H vs Q E hr h => ?_)
  · obtain ⟨p, dx, t, n, r, ls, rfl, _⟩ := h
    rfl
  · obtain ⟨p, dx, t, n, r, ls, rfl, hp, ⟨vs, ht, hvs⟩, ok, q⟩ := h
    have hr2 : Room 2 _ := hr.mono (by decide)
    refine ⟨_, pss_cons (ps_if (pt_not (pt_val (pe_fn G hr2 (pa_cons (pv 1) (pa_cons (pe_glob (v := .int 2) (by rfl) hL ⟨_, rfl⟩) (pa_cons (pe_glob (v := .int 10) (by rfl) hM ⟨_, rfl⟩) pa_nil)))))) (pss_one ps_never) pss_nil)
      (pss_cons (ps_if (pt_not (pt_val (pe_fn G hr2 (pa_cons (pv 2) (pa_cons pe_int (pa_cons (pe_op op_sub (pv 1) pe_int) pa_nil)))))) (pss_one ps_never) pss_nil)
      (pss_cons (ps_if (PW.pt (pw_or (pt_not (pt_val (pe_callB call_is (by rfl) B.isinstance bt_isinstance (pa_cons (pv 3) (pa_cons (pe_bltn (v := .ty "tuple") (by rfl) B.tuple bt_tuple rfl) pa_nil)))))
        (pw_or1 (pt_cmpR op_gt (pe_callB call_len_seq (by rfl) B.len bt_len (pa_cons (pv 3) pa_nil)) (pe_glob (v := .int 60) (by rfl) hK ⟨_, rfl⟩) (nomark _))))) (pss_one ps_never) pss_nil)
      (pss_cons (ps_for PassesOwn.never rfl (pi_enumT (by rfl) B.enumerate (pa_cons (pv 3) pa_nil)) (pg_tup rfl (pgs_cons (pg_name (i := 4) sc_Net_init.nd rfl (.inl rfl)) (pgs_cons (pg_name (i := 5) sc_Net_init.nd rfl (.inl rfl)) pgs_nil)))
        (pss_one (ps_if (pt_not (pt_val (pe_fn G2 hr (pa_cons (pv 1) (pa_cons (pv 5) pa_nil))))) (pss_one ps_never) pss_nil)))
      (pss_cons (ps_fld (pv 0) (pv 1) rfl) (pss_cons (ps_fld (pv 0) (pv 2) rfl) (pss_one (ps_fld (pv 0) (pv 3) rfl))))))), ?_⟩
    refine ⟨_, rfl, n, 2, 10, rfl, _, rfl, iteN ?_ ?_⟩
    · have := ok.lo
      have := ok.hi
      rw [Bool.and_eq_true, decide_eq_true_eq, decide_eq_true_eq]
      omega
    refine ⟨_, rfl, _, rfl, n, 1, rfl, rfl, r, 0, n - 1, rfl, _, rfl, iteN ?_ ?_⟩
    · have := ok.r0
      have := ok.r1
      rw [Bool.and_eq_true, decide_eq_true_eq, decide_eq_true_eq]
      omega
    refine ⟨_, rfl, _, "tuple", "tuple", true, rfl, .base (.tup ht), (by decide +kernel), _, rfl, ?_⟩
    refine ⟨_, rfl, t, vs, rfl, .inr (SqT.of ht), _, 60, rfl, rfl, _, rfl, ?_⟩
    have hlen : vs.length = ls.length := Paired.length hvs
    refine iteO (decide_eq_false ?_) ?_
    · have := ok.few
      omega
    refine ⟨_, rfl, t, vs, rfl, SqT.of ht, for_enumT (xs := vs) (fun i σ H' => ∃ y4 y5, σ = [some (.ref p), some (.int n), some (.int r), some (.ref t), y4, y5] ∧ Same H H') ⟨none, none, rfl, Same.refl H⟩ (fun i σ H' _ ⟨_, _, _, sm⟩ => SqT.of (sm _ _ ht)) ?_ ?_⟩
    · rintro i x σ H' T0 hx ⟨y4, y5, rfl, sm⟩ nT
      obtain ⟨e, he, hxe⟩ := Paired.at hvs hx
      obtain ⟨o1, o2, o3⟩ := ok.ok e (List.mem_of_getElem? he)
      have sm2 : Same H (upd H' T0 (.tup [.int (i : Nat), x])) := sm.trans (new_same nT _)
      refine ⟨T0, _, rfl, SqT.of upd_same, rfl, _, _, rfl, _, _, rfl, rfl, ?_⟩
      refine ⟨_, rfl, _, rfl, n, x, e, rfl, IT.same hxe sm2, o1, o2, o3, fun H2 s2 => ⟨_, rfl, iteN rfl ?_⟩⟩
      exact ⟨_, _, rfl, sm2.trans s2⟩
    · rintro σ H' ⟨y4, y5, rfl, sm⟩
      have hp2 := sm _ _ hp
      refine ⟨_, rfl, _, rfl, p, C, dx, _, rfl, hp2, T.cl, T.nM, (by show 0 < 1000; decide), ?_⟩
      refine ⟨_, rfl, _, rfl, p, C, dx, _, rfl, upd_same, T.cl, T.nR, (by show 1 < 1000; decide), ?_⟩
      refine ⟨_, rfl, _, rfl, p, C, dx, _, rfl, upd_same, T.cl, T.nL, ?_, ?_⟩
      · exact Nat.lt_of_le_of_lt (length_putF _ _ _) (by show 1 + 1 < 1000; decide)
      · have kp : ∀ b o, H b = some o → b ≠ p → (upd (upd (upd H' p (.ins C dx (putF "many" (.int n) []))) p (.ins C dx (putF "root" (.int r) (putF "many" (.int n) [])))) p (.ins C dx (netF n r t))) b = some o := fun b o e hb => by
          rw [upd_ne hb, upd_ne hb, upd_ne hb]
          exact sm _ _ e
        refine q _ ⟨dx, t, upd_same, vs, kp t _ ht (ne_of ht hp (by intro z; cases z)), ?_⟩ kp
        refine Paired.mapP hvs fun v e ⟨a, e1, e2⟩ => ⟨a, e1, kp a _ e2 (ne_of e2 hp (by intro z; cases z))⟩
/-! ### check_net, is_side -/
def spCheckNet (C : Addr) : Sp := fun vs H Q _ => ∃ (p : Addr) (n : Nat) (r : Int) (ls : Ff.Lks), vs = [.ref p] ∧ NetAt C H p n r ls ∧ Q .non H
theorem ok_check_net (T : NetC K mg C) (B : Bt mg) (F : FunAt K mg "check_net" s_check_net ["net"]) : Fn P w K mg base 1 "check_net" ["net"] (spCheckNet C) := F.fn fun f fd F => by
  refine F.ok sc_check_net (fun vs H Q E h => ?_) (fun cdv A outer s H vs Q E hr h => ?_)
  · obtain ⟨p, n, r, ls, rfl, _⟩ := h
    rfl
  · obtain ⟨p, n, r, ls, rfl, ⟨dx, t, hp, _⟩, q⟩ := h
    refine ⟨_, pss_one (ps_if (pt_not (pt_val (pe_callB call_isi (by rfl) B.isinstance bt_isinstance (pa_cons (pv 0) (pa_cons (pe_glob (v := .ref C) (by rfl) T.mgC rfl) pa_nil))))) (pss_one ps_never) pss_nil), ?_⟩
    exact ⟨_, rfl, .ref p, .ref C, .ref C, .ref C, true, rfl, .own C, .base (.ins hp T.cl T.ca T.cs T.ct T.cm), if_pos (beq_self_eq_true _), _, rfl, iteN rfl q⟩
def spIsSide (C : Addr) : Sp := fun vs H Q _ => ∃ (p t : Addr) (n : Nat) (r : Int) (ls : Ff.Lks) (S : List Int), vs = [.ref p, .ref t] ∧ NetAt C H p n r ls ∧ H t = some (.tup (S.map V.int)) ∧ Ff.Side n r S ∧ Q (.bl true) H
theorem ok_is_side (T : NetC K mg C) (B : Bt mg) (F : FunAt K mg "is_side" s_is_side ["net", "thing"]) (G : Fn P w K mg base 3 "is_lot" ["thing", "many"] spIsLot) : Fn P w K mg base 4 "is_side" ["net", "thing"] (spIsSide C) := F.fn fun f fd F => by
  refine F.ok sc_is_side (fun vs H Q E h => ?_) (fun cdv A outer s H vs Q E hr h => ?_)
  · obtain ⟨p, t, n, r, ls, S, rfl, _⟩ := h
    rfl
  · obtain ⟨p, t, n, r, ls, S, rfl, ⟨dx, tl, hp, _⟩, ht, hS, q⟩ := h
    refine ⟨_, pss_one (ps_ret (pe_and (pe_fn G hr (pa_cons (pv 1) (pa_cons (pe_fld (pv 0) rfl) pa_nil))) (pe_and (pe_cmpR op_gt (pe_callB call_len_seq (by rfl) B.len bt_len (pa_cons (pv 1) pa_nil)) pe_int (nomark _))
      (pe_one (pe_cmpR op_notIn_seq (pe_fld (pv 0) rfl) (pv 1) rfl))))), ?_⟩
    refine ⟨_, rfl, _, rfl, p, C, dx, _, _, rfl, hp, T.cl, T.nM, netF_many _ _ _, t, n, S, rfl, ht, hS.asc, fun x hx => ?_, _, rfl, iteT ?_⟩
    · have := Ff.mem_pls.mp (hS.sub x hx)
      omega
    have hlen : 0 < (S.map V.int).length := by
      rw [List.length_map]
      exact List.length_pos_iff.mpr hS.ne
    refine ⟨_, rfl, t, _, rfl, .inr (SqT.of ht), _, 0, rfl, rfl, _, rfl, iteY (decide_eq_true (by omega)) ?_⟩
    refine ⟨_, rfl, p, C, dx, _, _, rfl, hp, T.cl, T.nR, netF_root _ _ _, _, rfl, t, _, rfl, .inr (SqT.of ht), rfl, flat_ints S, ?_⟩
    rw [inV_int, decide_eq_false (Ff.side_root hS)]
    exact q
end
end Fw
end

section
set_option linter.all false
set_option maxRecDepth 100000
/-! The walk: lots, sides, entering links. -/
namespace Fw
open PySem PySem.Spec PyProof.Rows L2
section
variable {P : Program} {w : World} {K : PySem.W.Frag} {mg : Str → Option Value} {base : Heap} {C : Addr}
theorem combV_row {n : Nat} {ix : List Nat} (h : ∀ i, i ∈ ix → i < n) : combV (rgV 0 (n : Int)) ix = (rowI ix).map V.int := by
  unfold combV rowI
  rw [List.map_map]
  refine List.map_congr_left fun i hi => ?_
  have hlt : i < (rgV 0 (n : Int)).length := by
    rw [rgV_length]
    have := h i hi
    omega
  rw [List.getD_eq_getElem?_getD, List.getElem?_eq_getElem hlt]
  unfold rgV
  simp
theorem rows_its {n : Nat} {H : Hp} : ∀ {vs : List V} {L : List (List Nat)}, Paired (fun v ix => ∃ a, v = V.ref a ∧ H a = some (.tup (combV (rgV 0 (n : Int)) ix))) vs L → (∀ ix, ix ∈ L → ∀ i, i ∈ ix → i < n) → ITs H vs (L.map rowI)
  | _, _, .nil, _ => .nil
  | _, _, .cons r t, h => by
    refine .cons ?_ (rows_its t fun ix hx => h ix (List.mem_cons_of_mem _ hx))
    obtain ⟨a, e, q⟩ := r
    refine ⟨a, e, ?_⟩
    rw [← combV_row (h _ List.mem_cons_self)]
    exact q
theorem lots_len {n k : Nat} (h2 : 2 ≤ n) (h6 : n ≤ 6) (hk : k ≤ n) : (lotsOf n k).length ≤ 30 * k := by
  induction k with
  | zero => exact Nat.le_refl _
  | succ k ih =>
    rw [lotsOf_succ, List.length_append, List.length_map]
    have := ih (by omega)
    have := (ixOk (r := k + 1) h2 h6 (by omega) hk).few
    omega
/-! ### all_lots, all_sides -/
def spAllLots : Sp := fun vs H Q _ => ∃ n : Nat, vs = [.int (n : Int)] ∧ 2 ≤ n ∧ n ≤ 6 ∧ ∀ H' p us, Same H H' → H p = none → H' p = some (.lst us) → ITs H' us (lots n) → Q (.ref p) H'
theorem ok_all_lots (B : Bt mg) (hC : mg "combinations" = some (.type "itertools.combinations")) (F : FunAt K mg "all_lots" s_all_lots ["many"]) : Fn P w K mg base 1 "all_lots" ["many"] spAllLots := F.fn fun f fd F => by
  refine F.ok sc_all_lots (fun vs H Q E h => ?_) (fun cdv A outer s H vs Q E hr h => ?_)
  · obtain ⟨n, rfl, _⟩ := h
    rfl
  · obtain ⟨n, rfl, h2, h6, q⟩ := h
    refine ⟨_, pss_cons (ps_set (i := 1) sc_all_lots.nd rfl (.inl rfl) (pe_lst pa_nil))
      (pss_cons (ps_for PassesOwn.never rfl (pi_range2 (by rfl) B.range (pa_cons pe_int (pa_cons (pe_op op_add (pv 0) pe_int) pa_nil))) (pg_name (i := 2) sc_all_lots.nd rfl (.inl rfl))
        (pss_one (ps_ext (pv 1) (pe_combs rfl (by rfl) B.list bt_list (by rfl) hC (pa_cons (pe_listRg rfl (by rfl) B.list (prg_1 (by rfl) B.range (pv 0))) (pa_cons (pv 2) pa_nil))))))
      (pss_one (ps_ret (pv 1)))), ?_⟩
    refine ⟨Nat.zero_le _, fun o no => ?_⟩
    refine ⟨_, rfl, n, 1, rfl, rfl, 1, n + 1, rfl, ⟨by omega, by omega, by omega, by omega⟩, ?_⟩
    rw [show ((n : Int) + 1 - 1).toNat = n by omega]
    refine for_range (fun i σ H' => ∃ y, σ = [some (.int n), some (.ref o), y] ∧ Same H H' ∧ ∃ us, H' o = some (.lst us) ∧ ITs H' us (lotsOf n i)) ⟨none, rfl, new_same no _, [], upd_same, .nil⟩ ?_ ?_
    · rintro i σ H1 hi ⟨y, rfl, sm, us, ho, hus⟩
      have ok := ixOk (r := i + 1) h2 h6 (by omega) (by omega)
      refine ⟨_, rfl, tyL ho, _, rfl, n, rfl, .of_le (by omega) (by omega) (by omega) (by omega), fun l nl => ?_⟩
      have s1 : Same H1 (upd H1 l (.lst (rgV 0 n))) := new_same nl _
      have hlen : (rgV 0 (n : Int)).length = n := by
        rw [rgV_length]
        omega
      refine ⟨.int (1 + i), rfl, l, rgV 0 n, i + 1, ixs n (i + 1), ?_, SqL.of upd_same, by omega, by omega, by rw [hlen]; exact ok.chain, ok.head, fun ix hx => ?_, ?_, fun H2 p vs s2 hp h2p hv => ?_⟩
      · rw [show (1 : Int) + (i : Int) = ((i + 1 : Nat) : Int) by omega]
      · obtain ⟨a, b, _⟩ := ok.row ix hx
        exact ⟨by omega, by rw [hlen]; exact b⟩
      · have := ok.few
        omega
      · have s3 : Same H1 H2 := s1.trans s2
        have hl2 := lots_len (k := i) h2 h6 (by omega)
        have e1 := Paired.length hus
        have e2 := Paired.length hv
        have := ok.few
        have npo : o ≠ p := fun e => by
          rw [← e, s1 _ _ ho] at hp
          cases hp
        refine ⟨o, p, us, vs, rfl, rfl, s3 _ _ ho, h2p, s1000 (by omega), _, rfl, upd_sameN no (sm.trans s3) _, us ++ vs, upd_same, ?_⟩
        have up : ∀ {v : V} {ns : List Int}, IT H2 v ns → IT (upd H2 o (.lst (us ++ vs))) v ns := fun {v ns} ⟨a, x1, x2⟩ => ⟨a, x1, by
          rw [upd_ne (ne_of x2 (s3 _ _ ho) (by intro z; cases z))]
          exact x2⟩
        rw [lotsOf_succ]
        refine Paired.app (Paired.mapP hus fun v ns z => up (z.same s3)) (Paired.mapP (rows_its hv fun ix hx => (ok.row ix hx).2.1) fun v ns z => up z)
    · rintro σ H1 ⟨y, rfl, sm, us, ho, hus⟩
      exact ⟨_, rfl, q H1 o us sm no ho hus⟩
def spAllSides (C : Addr) : Sp := fun vs H Q _ => ∃ (p : Addr) (n : Nat) (r : Int) (ls : Ff.Lks), vs = [.ref p] ∧ NetAt C H p n r ls ∧ 2 ≤ n ∧ n ≤ 6 ∧ ∀ H' p us, Same H H' → H p = none → H' p = some (.lst us) → ITs H' us (sides n r) → Q (.ref p) H'
theorem ok_all_sides (T : NetC K mg C) (F : FunAt K mg "all_sides" s_all_sides ["net"]) (G : Fn P w K mg base 1 "all_lots" ["many"] spAllLots) : Fn P w K mg base 2 "all_sides" ["net"] (spAllSides C) := F.fn fun f fd F => by
  refine F.ok sc_all_sides (fun vs H Q E h => ?_) (fun cdv A outer s H vs Q E hr h => ?_)
  · obtain ⟨p, n, r, ls, rfl, _⟩ := h
    rfl
  · obtain ⟨p, n, r, ls, rfl, hN, h2, h6, q⟩ := h
    obtain ⟨dx, tl, hp, _⟩ := id hN
    refine ⟨_, pss_one (ps_ret (pe_lc (own := [("lot", 1)]) (g := gName 1) (tt := tTest (tOp (rIn K true) (tFld K (tVar 0) "root") (tVar 1))) rfl sc_all_sides.nd (pi_list (pe_fn G hr (pa_cons (pe_fld (pv 0) rfl) pa_nil))) (blkOk_by (N := N_all_sides) (sc := defScope s_all_sides) (by decide +kernel))
      (fun _ _ _ _ _ => pg_name (i := 1) sc_all_sides.nd rfl (Or.inl rfl)) (fun _ _ _ _ _ => pts_one (pt_cmpR op_notIn_seq (pe_fld (pv 0) (by rfl)) (pv 1) (by rfl))) (fun _ _ _ _ _ => pv 1))), ?_⟩
    refine ⟨_, rfl, p, C, dx, _, _, rfl, hp, T.cl, T.nM, netF_many _ _ _, n, rfl, h2, h6, fun H1 l us s1 nl hl hus => ?_⟩
    refine ⟨l, rfl, ⟨_, SqL.of hl⟩, fun D nD => ?_⟩
    refine lc_list (xs := us) (fun i H' => Same H1 H' ∧ ∃ acc, H' D = some (.lst acc) ∧ acc.length ≤ i ∧ ITs H' acc (((lots n).take i).filter fun S => !decide (r ∈ S))) ⟨new_same nD _, [], upd_same, Nat.le_refl _, .nil⟩ (fun i H' _ p => SqL.of (p.1 _ _ hl)) ?_ ?_
    · rintro i x H2 hx ⟨s2, acc, hD, hlen, hacc⟩
      obtain ⟨S, hS, hxS⟩ := Paired.at hus hx
      obtain ⟨a, rfl, ha⟩ := hxS.same s2
      have hi : i < us.length := (List.getElem?_eq_some_iff.mp hx).1
      have et : (lots n).take (i + 1) = (lots n).take i ++ [S] := by rw [List.take_add_one, hS, Option.toList_some]
      refine ⟨rfl, ?_⟩
      refine ⟨_, rfl, p, C, dx, _, _, rfl, s2 _ _ (s1 _ _ hp), T.cl, T.nR, netF_root _ _ _, _, rfl, a, _, rfl, .inr (SqT.of ha), rfl, flat_ints S, _, rfl, ?_⟩
      rw [inV_int]
      refine ite2 (fun c => ?_) (fun c => ?_)
      · have up : ∀ {v : V} {ns : List Int}, IT H2 v ns → IT (upd H2 D (.lst (acc ++ [V.ref a]))) v ns := fun {v ns} ⟨b, x1, x2⟩ => ⟨b, x1, by
          rw [upd_ne (ne_of x2 hD (by intro z; cases z))]
          exact x2⟩
        refine ⟨_, rfl, acc, hD, ?_, upd_sameN nD s2 _, _, upd_same, by rw [List.length_append, List.length_singleton]; omega, ?_⟩
        · have := lots_len (k := n) h2 h6 (Nat.le_refl _)
          have e1 := Paired.length hus
          unfold lots at e1
          exact small1000 (by omega)
        · rw [et, List.filter_append]
          have c2 : (!decide (r ∈ S)) = true := c
          have e3 : [S].filter (fun S => !decide (r ∈ S)) = [S] := List.filter_eq_self.mpr fun x hx => by rw [List.mem_singleton.mp hx]; exact c2
          rw [e3]
          exact Paired.app (Paired.mapP hacc fun v ns z => up z) (Paired.one (up ⟨a, rfl, ha⟩))
      · refine ⟨s2, acc, hD, by omega, ?_⟩
        rw [et, List.filter_append]
        have e3 : [S].filter (fun S => !decide (r ∈ S)) = [] := List.filter_eq_nil_iff.mpr fun x hx => by rw [List.mem_singleton.mp hx]; exact c
        rw [e3, List.append_nil]
        exact hacc
    · rintro H2 ⟨s2, acc, hD, _, hacc⟩
      rw [Paired.length hus, List.take_length] at hacc
      exact q H2 D acc (s1.trans s2) (s1.free nD) hD hacc
/-! ### entering links -/
def spDoesEnter (C : Addr) : Sp := fun vs H Q _ => ∃ (p t : Addr) (i : Nat) (n : Nat) (r : Int) (ls : Ff.Lks) (S : List Int) (e : Int × Int), vs = [.ref p, .int (i : Int), .ref t] ∧ NetAt C H p n r ls ∧ H t = some (.tup (S.map V.int)) ∧ ls[i]? = some e ∧
  Q (.bl (!decide (e.1 ∈ S) && decide (e.2 ∈ S))) H
theorem ok_does_enter (T : NetC K mg C) (F : FunAt K mg "does_enter" s_does_enter ["net", "link", "places"]) : Fn P w K mg base 1 "does_enter" ["net", "link", "places"] (spDoesEnter C) := F.fn fun f fd F => by
  refine F.ok sc_does_enter (fun vs H Q E h => ?_) (fun cdv A outer s H vs Q E hr h => ?_)
  · obtain ⟨p, t, i, n, r, ls, S, e, rfl, _⟩ := h
    rfl
  · obtain ⟨p, t, i, n, r, ls, S, e, rfl, ⟨dx, tl, hp, us, hl, hus⟩, ht, he, q⟩ := h
    obtain ⟨x, hx, a, rfl, ha⟩ := Paired.at2 hus he
    refine ⟨_, pss_one (ps_ret (pe_and (pe_cmpR op_notIn_seq (pe_ix ix_tup (pe_ix ix_tup (pe_fld (pv 0) rfl) (pv 1) (fun _ _ => rfl)) pe_int (fun _ _ => rfl)) (pv 2) rfl)
      (pe_one (pe_cmpR op_in_seq (pe_ix ix_tup (pe_ix ix_tup (pe_fld (pv 0) rfl) (pv 1) (fun _ _ => rfl)) pe_int (fun _ _ => rfl)) (pv 2) rfl)))), ?_⟩
    refine ⟨_, rfl, p, C, dx, _, _, rfl, hp, T.cl, T.nL, netF_links _ _ _, _, rfl, tl, _, _, _, rfl, rfl, SqT.of hl, atI_nat hx, a, _, 0, _, rfl, rfl, SqT.of ha, atI_nat (j := 0) rfl, ?_⟩
    refine ⟨_, rfl, t, _, rfl, .inr (SqT.of ht), rfl, flat_ints S, _, rfl, ?_⟩
    rw [inV_int]
    refine ite2 (fun c => ?_) (fun c => ?_)
    · refine ⟨_, rfl, p, C, dx, _, _, rfl, hp, T.cl, T.nL, netF_links _ _ _, _, rfl, tl, _, _, _, rfl, rfl, SqT.of hl, atI_nat hx, a, _, 1, _, rfl, rfl, SqT.of ha, atI_nat (j := 1) rfl, ?_⟩
      refine ⟨_, rfl, t, _, rfl, .inr (SqT.of ht), rfl, flat_ints S, ?_⟩
      have c2 : (!decide (e.1 ∈ S)) = true := c
      rw [c2, Bool.true_and] at q
      rw [inV_int]
      exact q
    · have c2 : (!decide (e.1 ∈ S)) = false := Bool.eq_false_iff.mpr c
      rw [c2, Bool.false_and] at q
      exact q
end
end Fw
end

section
set_option linter.all false
set_option maxRecDepth 100000
/-! The walk: lacks of sides, whether the numbers hold. -/
namespace Fw
open PySem PySem.Spec PyProof.Rows L2
theorem rgV_get {a b : Int} {i : Nat} {x : V} (h : (rgV a b)[i]? = some x) : x = .int (a + (i : Nat)) ∧ i < (b - a).toNat := by
  unfold rgV at h
  rw [List.getElem?_map] at h
  obtain ⟨j, hj, e⟩ := Option.map_eq_some_iff.mp h
  obtain ⟨h1, h2⟩ := List.getElem?_eq_some_iff.mp hj
  rw [List.length_range] at h1
  rw [List.getElem_range] at h2
  subst h2
  exact ⟨e.symm, h1⟩
theorem ent_take {ls : Ff.Lks} {i : Nat} {e : Int × Int} (S : List Int) (h : ls[i]? = some e) : Ff.ent (ls.take (i + 1)) S = Ff.ent (ls.take i) S + if (!decide (e.1 ∈ S) && decide (e.2 ∈ S)) = true then 1 else 0 := by
  rw [List.take_add_one, h, Option.toList_some, Ff.ent_app]
  unfold Ff.ent
  rw [Ff.entP_cons]
  rfl
theorem ent_le (ls : Ff.Lks) (S : List Int) : Ff.ent ls S ≤ ls.length := by
  unfold Ff.ent Ff.entP
  exact List.length_filter_le _ _
/-- ints under ints -/
def dkOf (f : Int → Int) (ps : List Int) : List (Key × V) := ps.map fun p => (Sum.inl p, V.int (f p))
theorem dkOf_val {f : Int → Int} {p : Int} : ∀ {ps : List Int}, p ∈ ps → valV (dkOf f ps) (Sum.inl p) = some (.int (f p))
  | q :: ps, h => by
    unfold dkOf
    rw [List.map_cons]
    by_cases e : q = p
    · subst e
      exact valV_pos rfl
    · rw [valV_neg (fun z => e (Sum.inl.inj z))]
      exact dkOf_val ((List.mem_cons.mp h).resolve_left fun z => e z.symm)
section
variable {P : Program} {w : World} {K : PySem.W.Frag} {mg : Str → Option Value} {base : Heap} {C : Addr}
def spEntering (C : Addr) : Sp := fun vs H Q _ => ∃ (p t t2 : Addr) (n : Nat) (r : Int) (ls : Ff.Lks) (S : List Int), vs = [.ref p, .ref t, .ref t2] ∧ NetAt C H p n r ls ∧ ls.length ≤ 500 ∧ H t = some (.tup (rgV 0 (ls.length : Nat))) ∧ H t2 = some (.tup (S.map V.int)) ∧
  ∀ H' l us, Same H H' → H l = none → H' l = some (.lst us) → us.length = Ff.ent ls S → Q (.ref l) H'
theorem ok_entering_of (F : FunAt K mg "entering_of" s_entering_of ["net", "lot", "places"]) (G : Fn P w K mg base 1 "does_enter" ["net", "link", "places"] (spDoesEnter C)) : Fn P w K mg base 2 "entering_of" ["net", "lot", "places"] (spEntering C) := F.fn fun f fd F => by
  refine F.ok sc_entering_of (fun vs H Q E h => ?_) (fun cdv A outer s H vs Q E hr h => ?_)
  · obtain ⟨p, t, t2, n, r, ls, S, rfl, _⟩ := h
    rfl
  · obtain ⟨p, t, t2, n, r, ls, S, rfl, hN, hz, ht, ht2, q⟩ := h
    refine ⟨_, pss_one (ps_ret (pe_lc (own := [("link", 3)]) (g := gName 3) (tt := tB (tFn (spDoesEnter C) (tCons (tVar 0) (tCons (tVar 3) (tCons (tVar 2) tNil))))) rfl sc_entering_of.nd (pi_tup (pv 1)) (blkOk_by (N := N_entering_of) (sc := defScope s_entering_of) (by decide +kernel))
      (fun _ _ _ _ _ => pg_name (i := 3) sc_entering_of.nd rfl (Or.inl rfl)) (fun _ _ _ _ _ => pts_one (pt_val (pe_fn G hr (pa_cons (pv 0) (pa_cons (pv 3) (pa_cons (pv 2) pa_nil)))))) (fun _ _ _ _ _ => pv 3))), ?_⟩
    refine ⟨_, rfl, t, rfl, ⟨_, SqT.of ht⟩, fun D nD => ?_⟩
    refine lc_tup (xs := rgV 0 (ls.length : Nat)) (fun i H' => Same H H' ∧ ∃ acc, H' D = some (.lst acc) ∧ acc.length = Ff.ent (ls.take i) S) ⟨new_same nD _, [], upd_same, rfl⟩ (fun i H' _ p => SqT.of (p.1 _ _ ht)) ?_ ?_
    · rintro i x H2 hx ⟨s2, acc, hD, hlen⟩
      obtain ⟨rfl, hi⟩ := rgV_get hx
      have hi2 : i < ls.length := by omega
      have he : ls[i]? = some ls[i] := List.getElem?_eq_getElem hi2
      have et := ent_take S he
      have el := ent_le (ls.take i) S
      rw [List.length_take] at el
      refine ⟨rfl, ?_⟩
      refine ⟨_, rfl, _, rfl, _, rfl, p, t2, i, n, r, ls, S, ls[i], by rw [Int.zero_add], hN.same s2, s2 _ _ ht2, he, _, rfl, ?_⟩
      refine ite2 (fun c => ?_) (fun c => ?_)
      · refine ⟨_, rfl, acc, hD, small1000 (by omega), upd_sameN nD s2 _, _, upd_same, ?_⟩
        rw [List.length_append, List.length_singleton, et, if_pos c, hlen]
      · refine ⟨s2, acc, hD, ?_⟩
        rw [et, if_neg c, hlen]
        rfl
    · rintro H2 ⟨s2, acc, hD, hlen⟩
      rw [rgV_length, show ((ls.length : Nat) - 0 : Int).toNat = ls.length by omega, List.take_length] at hlen
      exact q H2 D acc s2 nD hD hlen
def spEveryLink (C : Addr) : Sp := fun vs H Q _ => ∃ (p : Addr) (n : Nat) (r : Int) (ls : Ff.Lks), vs = [.ref p] ∧ NetAt C H p n r ls ∧ ls.length ≤ 500 ∧ ∀ t, H t = none → Q (.ref t) (upd H t (.tup (rgV 0 (ls.length : Nat))))
theorem ok_every_link (T : NetC K mg C) (B : Bt mg) (F : FunAt K mg "every_link" s_every_link ["net"]) (G : Fn P w K mg base 1 "check_net" ["net"] (spCheckNet C)) : Fn P w K mg base 2 "every_link" ["net"] (spEveryLink C) := F.fn fun f fd F => by
  refine F.ok sc_every_link (fun vs H Q E h => ?_) (fun cdv A outer s H vs Q E hr h => ?_)
  · obtain ⟨p, n, r, ls, rfl, _⟩ := h
    rfl
  · obtain ⟨p, n, r, ls, rfl, hN, hz, q⟩ := h
    obtain ⟨dx, tl, hp, us, hl, hus⟩ := id hN
    refine ⟨_, pss_cons (ps_expr (pe_fn G hr (pa_cons (pv 0) pa_nil)) rfl)
      (pss_one (ps_ret (pe_tupRg rfl (by rfl) B.tuple (prg_1 (by rfl) B.range (pe_callB call_len_seq (by rfl) B.len bt_len (pa_cons (pe_fld (pv 0) rfl) pa_nil)))))), ?_⟩
    refine ⟨_, rfl, p, n, r, ls, rfl, hN, ?_⟩
    refine ⟨_, rfl, p, C, dx, _, _, rfl, hp, T.cl, T.nL, netF_links _ _ _, tl, _, rfl, .inr (SqT.of hl), _, rfl, ?_⟩
    have e := Paired.length hus
    rw [e]
    exact ⟨.of_le (by omega) (by omega) (by omega) (by omega), fun t nt => q t nt⟩
def spLackOf (C : Addr) : Sp := fun vs H Q _ => ∃ (p t : Addr) (n : Nat) (r : Int) (ls : Ff.Lks) (m : Int) (S : List Int), vs = [.ref p, .int m, .ref t] ∧ NetAt C H p n r ls ∧ ls.length ≤ 500 ∧ H t = some (.tup (S.map V.int)) ∧
  ∀ H', Same H H' → Q (.int (Ff.lackI m ls S)) H'
theorem ok_lack_of (B : Bt mg) (F : FunAt K mg "lack_of" s_lack_of ["net", "many", "side"]) (G : Fn P w K mg base 2 "entering_of" ["net", "lot", "places"] (spEntering C)) (G2 : Fn P w K mg base 2 "every_link" ["net"] (spEveryLink C)) :
    Fn P w K mg base 3 "lack_of" ["net", "many", "side"] (spLackOf C) := F.fn fun f fd F => by
  refine F.ok sc_lack_of (fun vs H Q E h => ?_) (fun cdv A outer s H vs Q E hr h => ?_)
  · obtain ⟨p, t, n, r, ls, m, S, rfl, _⟩ := h
    rfl
  · obtain ⟨p, t, n, r, ls, m, S, rfl, hN, hz, ht, q⟩ := h
    refine ⟨_, pss_one (ps_ret (pe_op op_sub (pv 1) (pe_callB call_len_seq (by rfl) B.len bt_len (pa_cons (pe_fn G hr (pa_cons (pv 0) (pa_cons (pe_fn G2 hr (pa_cons (pv 0) pa_nil)) (pa_cons (pv 2) pa_nil)))) pa_nil)))), ?_⟩
    refine ⟨_, rfl, _, rfl, _, rfl, p, n, r, ls, rfl, hN, hz, fun t1 n1 => ?_⟩
    have s1 : Same H (upd H t1 (.tup (rgV 0 (ls.length : Nat)))) := new_same n1 _
    refine ⟨_, rfl, p, t1, t, n, r, ls, S, rfl, hN.same s1, hz, upd_same, s1 _ _ ht, fun H2 l us s2 nl hl hlen => ?_⟩
    refine ⟨l, us, rfl, .inl (SqL.of hl), m, _, rfl, rfl, ?_⟩
    rw [hlen]
    exact q H2 (s1.trans s2)
def spCheckWanted (C : Addr) : Sp := fun vs H Q _ => ∃ (p : Addr) (n : Nat) (r : Int) (ls : Ff.Lks) (m : Int), vs = [.ref p, .int m] ∧ NetAt C H p n r ls ∧ 0 ≤ m ∧ m ≤ 20 ∧ Q .non H
theorem ok_check_wanted (hM : ∃ t, mg "MOST_WANTED" = some (.int 20 t)) (F : FunAt K mg "check_wanted" s_check_wanted ["net", "many"]) (G : Fn P w K mg base 1 "check_net" ["net"] (spCheckNet C)) (G2 : Fn P w K mg base 3 "check_number" ["thing", "least", "most"] spCheckNumber) :
    Fn P w K mg base 4 "check_wanted" ["net", "many"] (spCheckWanted C) := F.fn fun f fd F => by
  obtain ⟨tm, hM⟩ := hM
  refine F.ok sc_check_wanted (fun vs H Q E h => ?_) (fun cdv A outer s H vs Q E hr h => ?_)
  · obtain ⟨p, n, r, ls, m, rfl, _⟩ := h
    rfl
  · obtain ⟨p, n, r, ls, m, rfl, hN, h0, h1, q⟩ := h
    refine ⟨_, pss_cons (ps_expr (pe_fn G (hr.mono (by decide)) (pa_cons (pv 0) pa_nil)) rfl)
      (pss_one (ps_expr (pe_fn G2 hr (pa_cons (pv 1) (pa_cons pe_int (pa_cons (pe_glob (v := .int 20) (by rfl) hM ⟨_, rfl⟩) pa_nil)))) rfl)), ?_⟩
    exact ⟨_, rfl, p, n, r, ls, rfl, hN, _, rfl, m, 0, 20, rfl, h0, h1, q⟩
end
end Fw
end

section
set_option linter.all false
set_option maxRecDepth 100000
/-! The walk: whether the numbers hold. -/
namespace Fw
open PySem PySem.Spec PyProof.Rows L2
theorem room_u1 {k : Nat} {A : Around} (r : Room k A) : A.units + 1 < cLine := by
  have := r.units
  omega
theorem ints_take {f : Int → Int} {S : List Int} {i : Nat} {p : Int} (h : S[i]? = some p) : ((S.take (i + 1)).map f).map V.int = ((S.take i).map f).map V.int ++ [V.int (f p)] := by
  rw [List.take_add_one, h, Option.toList_some, List.map_append, List.map_append]
  rfl
theorem side_len {n : Nat} {r : Int} {S : List Int} (h : Ff.Side n r S) : S.length ≤ n := by
  rw [h.eq]
  refine Nat.le_trans (List.length_filter_le _ _) ?_
  unfold Ff.pls
  refine Nat.le_trans (List.length_filter_le _ _) ?_
  rw [List.length_map, List.length_range]
  exact Nat.le_refl _
section
variable {P : Program} {w : World} {K : PySem.W.Frag} {mg : Str → Option Value} {base : Heap} {C : Addr}
def spHolds (C : Addr) : Sp := fun vs H Q _ => ∃ (p d : Addr) (n : Nat) (r : Int) (ls : Ff.Lks) (m : Int) (f : Int → Int), vs = [.ref p, .int m, .ref d] ∧ NetAt C H p n r ls ∧ NetOk n r ls ∧ H d = some (.dK (dkOf f (Ff.pls n r))) ∧
  ∀ H', Same H H' → Q (.bl (Ff.holdB (sides n r) ls m f)) H'
theorem ok_holds (B : Bt mg) (F : FunAt K mg "holds" s_holds ["net", "many", "added"]) (G : Fn P w K mg base 2 "all_sides" ["net"] (spAllSides C)) (G2 : Fn P w K mg base 3 "lack_of" ["net", "many", "side"] (spLackOf C)) :
    Fn P w K mg base 4 "holds" ["net", "many", "added"] (spHolds C) := F.fn fun f fd F => by
  refine F.ok sc_holds (fun vs H Q E h => ?_) (fun cdv A outer s H vs Q E hr h => ?_)
  · obtain ⟨p, d, n, r, ls, m, g, rfl, _⟩ := h
    rfl
  · obtain ⟨p, d, n, r, ls, m, g, rfl, hN, ok, hd, q⟩ := h
    refine ⟨_, pss_cons (ps_for PassesOwn.never rfl (pi_list (pe_fn G (hr.mono (by decide)) (pa_cons (pv 0) pa_nil))) (pg_name (i := 3) sc_holds.nd rfl (.inl rfl))
      (pss_one (ps_if (pt_cmpR op_lt (pe_callB (cr_sum rfl) (by rfl) B.sum bt_sum (pa_cons (pe_lc (own := [("place", 4)]) (g := gName 4) (tt := tYes) (te := tDGet (tVar 2) (tVar 4)) rfl sc_holds.nd (pi_tup (pv 3)) (blkOk_by (N := N_holds) (sc := defScope s_holds) (by decide +kernel))
          (fun _ _ _ _ _ => pg_name (i := 4) sc_holds.nd rfl (Or.inl rfl)) (fun _ _ _ _ _ => pts_nil) (fun _ _ _ _ _ => pe_dget (room_u1 hr) (pv 2) (pv 4) (fun _ _ => rfl))) pa_nil))
        (pe_fn G2 hr (pa_cons (pv 0) (pa_cons (pv 1) (pa_cons (pv 3) pa_nil)))) (nomark _)) (pss_one (ps_ret pe_bl)) pss_nil)))
      (pss_one (ps_ret pe_bl)), ?_⟩
    refine ⟨_, rfl, p, n, r, ls, rfl, hN, ok.lo, ok.hi, fun H1 l us s1 nl hl hus => ?_⟩
    refine ⟨l, rfl, ⟨_, SqL.of hl⟩, for_list (xs := us) (fun i σ H' => ∃ y z, σ = [some (.ref p), some (.int m), some (.ref d), y, z] ∧ Same H1 H' ∧ ((sides n r).take i).all (fun S => !decide (Ff.sm g S < Ff.lackI m ls S)) = true)
      ⟨none, none, rfl, Same.refl _, rfl⟩ (fun i σ H' _ ⟨_, _, _, sm, _⟩ => SqL.of (sm _ _ hl)) ?_ ?_⟩
    · rintro i x σ H2 hx ⟨y, z, rfl, s2, hall⟩
      obtain ⟨S, hS, hxS⟩ := Paired.at hus hx
      obtain ⟨a, rfl, ha⟩ := hxS.same s2
      have hSide := (mem_sides ok.lo ok.hi S).mp (List.mem_of_getElem? hS)
      have hSl := side_len hSide
      have hi6 := ok.hi
      refine ⟨_, rfl, a, rfl, ⟨_, SqT.of ha⟩, fun D nD => ?_⟩
      refine lc_tup (xs := S.map V.int) (fun i H' => Same H2 H' ∧ H' D = some (.lst (((S.take i).map g).map V.int))) ⟨new_same nD _, upd_same⟩ (fun i H' _ p => SqT.of (p.1 _ _ ha)) ?_ ?_
      · rintro j x H3 hx ⟨s3, hD⟩
        rw [List.getElem?_map] at hx
        obtain ⟨v, hv, rfl⟩ := Option.map_eq_some_iff.mp hx
        have hj : j < S.length := (List.getElem?_eq_some_iff.mp hv).1
        refine ⟨rfl, ?_⟩
        refine ⟨_, rfl, _, rfl, d, .int (g v), rfl, ?_, _, hD, ?_, upd_sameN nD s3 _, ?_⟩
        · have e := DGet.k (k := Sum.inl v) (s3 _ _ (s2 _ _ (s1 _ _ hd)))
          rw [dkOf_val (hSide.sub v (List.mem_of_getElem? hv))] at e
          exact e
        · rw [List.length_map, List.length_map, List.length_take]
          exact small1000 (by omega)
        · rw [upd_same, ints_take hv]
      · rintro H3 ⟨s3, hD⟩
        rw [List.length_map, List.take_length] at hD
        refine ⟨D, _, rfl, SqL.of hD, ?_⟩
        have few := ok.few
        refine ⟨_, rfl, _, rfl, _, rfl, p, a, n, r, ls, m, S, rfl, hN.same (s1.trans (s2.trans s3)), by omega, s3 _ _ ha, fun H4 s4 => ?_⟩
        refine ⟨_, _, rfl, rfl, _, rfl, ?_⟩
        have et : (sides n r).take (i + 1) = (sides n r).take i ++ [S] := by rw [List.take_add_one, hS, Option.toList_some]
        refine ite2 (fun c => ?_) (fun c => ?_)
        · have c2 : Ff.sm g S < Ff.lackI m ls S := of_decide_eq_true c
          have e : Ff.holdB (sides n r) ls m g = false := by
            refine Bool.eq_false_iff.mpr fun hh => ?_
            have := Ff.holdB_iff.mp hh S (List.mem_of_getElem? hS)
            omega
          rw [e] at q
          exact q H4 (s1.trans (s2.trans (s3.trans s4)))
        · refine ⟨_, _, rfl, s2.trans (s3.trans s4), ?_⟩
          rw [et, List.all_append, hall, Bool.true_and]
          have c2 : decide (Ff.sm g S < Ff.lackI m ls S) = false := Bool.eq_false_iff.mpr c
          rw [List.all_cons, c2]
          rfl
    · rintro σ H2 ⟨y, z, rfl, s2, hall⟩
      rw [Paired.length hus, List.take_length] at hall
      have e : Ff.holdB (sides n r) ls m g = true := hall
      rw [e] at q
      exact q H2 (s1.trans s2)
end
end Fw
end

section
set_option linter.all false
set_option maxRecDepth 100000
/-! Dicts of ints under ints; the walk of the least numbers. -/
namespace Fw
open PySem PySem.Spec PyProof.Rows L2
/-- {k: v for x in range(n) if ..} -/
theorem dc_rg {lo : Int} {n : Nat} {g : TG} {tt : TT} {tk tv : TE} {own : List Nat} {σ : L2.St} {H1 : Hp} {D : Addr} {Z : Hp → Prop} (I : Nat → Hp → Prop)
    (start : I 0 (upd H1 D (.dK [])))
    (turn : ∀ i H, i < n → I i H → g (.int (lo + i)) (wipe σ own) H fun σ2 H2 => wipe σ2 own = wipe σ own ∧ tt σ2 H2 fun b H3 =>
      if b = true then
        tk σ2 H3 fun y H4 => tv σ2 H4 fun z H5 => ∃ kvs k, y = kV k ∧ H5 D = some (.dK kvs) ∧ kvs.length < sizeLine ∧ I (i + 1) (upd H5 D (.dK (putK kvs k z)))
      else I (i + 1) H3)
    (fin : ∀ H, I n H → Z H) :
    ∃ W : Nat → Nat → Hp → Prop, (∃ m, W 0 m (upd H1 D (.dK []))) ∧ ∀ i m H, W i m H →
      ((Itr lo n).stop i H ∧ Z H) ∨ ((Itr lo n).go i H ∧ ∃ N : Hp → Prop, (∀ H', N H' → ∃ m', m' < m ∧ W (i + 1) m' H') ∧
        ∀ x H', (Itr lo n).yld i H x H' → g x (wipe σ own) H' fun σ2 H2 => wipe σ2 own = wipe σ own ∧ tt σ2 H2 fun b H3 =>
          if b = true then tk σ2 H3 fun y H4 => tv σ2 H4 fun z H5 => ∃ kvs k, y = kV k ∧ H5 D = some (.dK kvs) ∧ kvs.length < sizeLine ∧ N (upd H5 D (.dK (putK kvs k z)))
          else N H3) := by
  refine ⟨fun i m H => m + i = n ∧ I i H, ⟨n, Nat.add_zero n, start⟩, fun i m H w => ?_⟩
  obtain ⟨e, inv⟩ := w
  cases m with
  | zero =>
    have ei : i = n := by omega
    subst ei
    exact Or.inl ⟨Nat.le_refl _, fin H inv⟩
  | succ m =>
    refine Or.inr ⟨show i < n by omega, I (i + 1), fun H' p => ⟨m, Nat.lt_succ_self m, by omega, p⟩, fun x H' y => ?_⟩
    obtain ⟨rfl, rfl⟩ := y
    exact turn i _ (by omega) inv
theorem dkOf_not {f : Int → Int} {p : Int} : ∀ {ps : List Int}, p ∉ ps → valV (dkOf f ps) (Sum.inl p) = none
  | [], _ => rfl
  | q :: ps, h => by
    unfold dkOf
    rw [List.map_cons, valV_neg (fun z => h (by rw [Sum.inl.inj z]; exact List.mem_cons_self))]
    exact dkOf_not fun z => h (List.mem_cons_of_mem _ z)
theorem dkOf_app (f : Int → Int) (a b : List Int) : dkOf f (a ++ b) = dkOf f a ++ dkOf f b := List.map_append
theorem dkOf_put {f : Int → Int} {p v : Int} {ps : List Int} (h : p ∈ ps) : putK (dkOf f ps) (Sum.inl p) (.int v) = dkOf (Ff.upf f p v) ps := by
  unfold putK
  rw [valV_any, dkOf_val h, Option.isSome_some, if_pos rfl]
  unfold dkOf
  rw [List.map_map]
  refine List.map_congr_left fun q _ => ?_
  show (if (Sum.inl q : Key) = Sum.inl p then ((Sum.inl q : Key), V.int v) else (Sum.inl q, V.int (f q))) = (Sum.inl q, V.int (Ff.upf f p v q))
  by_cases e : q = p
  · subst e
    rw [if_pos rfl, Ff.upf_same]
  · rw [if_neg (fun z => e (Sum.inl.inj z)), Ff.upf_ne e]
theorem dkOf_new {f : Int → Int} {p : Int} {ps : List Int} (h : p ∉ ps) : putK (dkOf f ps) (Sum.inl p) (.int (f p)) = dkOf f (ps ++ [p]) := by
  rw [putK_new _ (dkOf_not h), dkOf_app]
  rfl
theorem dkOf_merge {f : Int → Int} : ∀ {b a : List Int}, (a ++ b).Nodup → mergeK (dkOf f a) (dkOf f b) = dkOf f (a ++ b)
  | [], a, _ => by rw [List.append_nil]; rfl
  | p :: b, a, h => by
    have h1 : p ∉ a := fun z => (List.nodup_append.mp h).2.2 p z p List.mem_cons_self rfl
    show mergeK (putK (dkOf f a) (Sum.inl p) (.int (f p))) (dkOf f b) = _
    rw [dkOf_new h1, dkOf_merge (by rw [List.append_assoc]; exact h), List.append_assoc]
    rfl
theorem dkOf_turn {f : Int → Int} {p v : Int} {ps : List Int} (hn : ps.Nodup) (h : p ∈ ps) : mergeK [] (dkOf f ps ++ [(Sum.inl p, .int v)]) = dkOf (Ff.upf f p v) ps := by
  have e : mergeK [] (dkOf f ps ++ [(Sum.inl p, V.int v)]) = putK (mergeK [] (dkOf f ps)) (Sum.inl p) (.int v) := by
    unfold mergeK
    rw [List.foldl_append]
    rfl
  rw [e, show ([] : List (Key × V)) = dkOf f [] from rfl, dkOf_merge (by simpa using hn), List.nil_append, dkOf_put h]
theorem dkOf_len (f : Int → Int) (ps : List Int) : (dkOf f ps).length = ps.length := List.length_map ..
theorem dkOf_keys (f : Int → Int) (ps : List Int) : (dkOf f ps).map (·.1) = ps.map Sum.inl := by
  unfold dkOf
  rw [List.map_map]
  rfl
theorem pls_succ (i : Nat) (r : Int) : Ff.pls (i + 1) r = Ff.pls i r ++ if (i : Int) = r then [] else [(i : Int)] := by
  unfold Ff.pls
  rw [List.range_succ, List.map_append, List.filter_append]
  congr 1
  show List.filter _ [(i : Int)] = _
  by_cases h : (i : Int) = r
  · rw [if_pos h]
    simp [h]
  · rw [if_neg h]
    simp [h]
theorem pls_len (n : Nat) (r : Int) : (Ff.pls n r).length ≤ n := by
  unfold Ff.pls
  refine Nat.le_trans (List.length_filter_le _ _) ?_
  rw [List.length_map, List.length_range]
  exact Nat.le_refl _
theorem perm_asc {ys ks : List Int} (h : ys.Perm ks) (hs : ys.Pairwise (· ≤ ·)) (hk : Ff.Asc ks) : ys = ks := by
  have hn : ys.Nodup := h.nodup_iff.mpr (Ff.asc_nodup hk)
  refine Ff.asc_ext ?_ hk fun x => h.mem_iff
  exact hs.imp₂ (fun a b h1 h2 => by omega) hn
theorem lower_pos {hb : (Int → Int) → Bool} {p : Int} {g : Int → Int} {k : Nat} (hk : (g p).toNat = k + 1) (h : hb (Ff.upf g p (g p - 1)) = true) : Ff.lower hb p (k + 1) g = Ff.lower hb p k (Ff.upf g p (g p - 1)) := by
  show (if _ then _ else _) = _
  rw [if_pos ⟨by omega, h⟩]
theorem lower_stop {hb : (Int → Int) → Bool} {p : Int} {g : Int → Int} : ∀ {k : Nat}, ¬ (0 < g p ∧ hb (Ff.upf g p (g p - 1)) = true) → Ff.lower hb p k g = g
  | 0, _ => rfl
  | k + 1, h => by
    show (if _ then _ else _) = _
    rw [if_neg h]
end Fw
end

section
set_option linter.all false
set_option maxRecDepth 100000
/-! A rule of our own: name = {k: v for ..} on one line. -/
namespace Fw
open PySem PySem.Spec PyProof.Rows L2
section
variable {X : Cx}
theorem sw_trueD {kx vx : Expr} {gens : List Comprehension} {sc : Scope} {p1 p2 : Pos} {y : Str} {line : Nat} {env : Env} (kind : env.scope.kind = .function) (isLoc : env.scope.names.lookup y = some .local) (same : (p2.line == p1.line) = true)
    (apart : (sc.names.any fun (n, k) => n == y && (k == .local || k == .cell)) = false) : swapsWith (.DictComp kx vx gens sc p1) (some (.Name y p2)) line env = pure true := by
  have e1 : env.kindOf y = some .local := isLoc
  have e2 : env.blockKind = .function := by
    unfold Env.blockKind
    rw [kind]
    rfl
  unfold swapsWith
  simp only [e2, e1, apart, Expr.pos, same]
  rfl
theorem ps_setDc {j : Nat} {y : Str} {py : Pos} {kx vx tg iter : Expr} {ifs : List Expr} {sc : Scope} {own : List (Str × Nat)} {pos spos : Pos} {wi : TI} {g : TG} {tt : TT} {tk tv : TE}
    (calm : X.calm = true) (nd : X.N.Nodup) (at_ : X.N[j]? = some y) (isLoc : X.env.scope.names.lookup y = some .local)
    (sw : swapsWith (.DictComp kx vx [⟨tg, iter, ifs, 0⟩] sc pos) (some (.Name y py)) spos.line X.env = pure true) (it : PI X tg iter wi) (ok : BlkOk X.N X.env.scope sc own)
    (pg : ∀ s H C cl fp, PG (X.blk s H sc (compEnvC sc cl C X.env) fp) tg g) (pt : ∀ s H C cl fp, PTs (X.blk s H sc (compEnvC sc cl C X.env) fp) ifs tt)
    (pk : ∀ s H C cl fp, PE (X.blk s H sc (compEnvC sc cl C X.env) fp) kx tk) (pv : ∀ s H C cl fp, PE (X.blk s H sc (compEnvC sc cl C X.env) fp) vx tv)
    (fold : ∀ x, foldedSetIterable iter X.env x = pure x := by intro _; rfl) :
    PS X (.Assign [.Name y py] (.DictComp kx vx [⟨tg, iter, ifs, 0⟩] sc pos) spos) (tAsg (tDc wi g tt tk tv (own.map (·.2))) (gName j)) := by
  constructor
  intro pins s σ H D I h
  rw [exec_Assign_Name_used _ _ _ _ sw]
  refine wpAny_bind (wpAny_standAt (wpAny_bind ?_))
  show wpAny _ X.A (do
    let _ ← comprehension (.DictComp kx vx [⟨tg, iter, ifs, 0⟩] sc pos) sc X.env (firstIterPos [⟨tg, iter, ifs, 0⟩] pos) newDict false (eval iter X.env) (some (assign (.Name y py) X.env))) _ _ s
  have core := dc_core (pos := pos) (Q := fun x H1 => gName j x σ H1 D.nx) (use := some (assign (.Name y py) X.env)) (Qf := fun _ s' => SP X pins D .next s') (pos' := firstIterPos [⟨tg, iter, ifs, 0⟩] pos) calm nd I it ok pg pt pk pv fold h (fun L C s' m H' I' q hn fp => by
    show wpAny _ _ (assign (.Name y py) X.env (.ref L)) _ _ _
    refine wpAny_assign_Name (store_ok2 (v := V.ref L) I' nd at_ (.inl isLoc) rfl (fun s2 I2 sb => ?_) (.inr isLoc))
    obtain ⟨a, sb, ha⟩ := sb
    obtain ⟨f0, f1, f2, f3, f4, f5⟩ := fp
    have apart : C ≠ a := fun e => by
      rcases ha with z | z
      · exact f1 (e.trans z)
      · exact f4 y a z e.symm
    exact ⟨m, hn.sameBut sb apart, fun h3 sb3 => ⟨_, H', I2.turned (t' := s2.toks) (fun b o hb e => (sb3.2 b hb).trans e) f0 f1 f3 f4 f5, q⟩⟩)
  exact wpAny_bind (thn core fun _ s' hq => wpAny_pure (wpAny_pure hq))
end
end Fw
end

section
set_option linter.all false
set_option maxRecDepth 100000
/-! The walk: the least numbers. -/
namespace Fw
open PySem PySem.Spec PyProof.Rows L2
/-- the least numbers of a net -/
def leastN (n : Nat) (r : Int) (ls : Ff.Lks) (m : Int) : Int → Int := Ff.least (Ff.holdB (sides n r) ls m) m (Ff.pls n r)
theorem pls_mid {a b : List Int} {q : Int} {ts : List Addr} {H : Hp} {kvs : List (Key × V)} {t : Addr} {kv : Key × V} (h : Paired (fun (t : Addr) (x : Key × V) => H t = some (.tup [kV x.1, x.2])) ts kvs) (ht : H t = some (.tup [kV kv.1, kv.2])) :
    Paired (fun (t : Addr) (x : Key × V) => H t = some (.tup [kV x.1, x.2])) (ts ++ [t]) (kvs ++ [kv]) := Paired.app h (Paired.one ht)
section
variable {P : Program} {w : World} {K : PySem.W.Frag} {mg : Str → Option Value} {base : Heap} {C : Addr}
def spLeast (C : Addr) : Sp := fun vs H Q _ => ∃ (p : Addr) (n : Nat) (r : Int) (ls : Ff.Lks) (m : Int), vs = [.ref p, .int m] ∧ NetAt C H p n r ls ∧ NetOk n r ls ∧ 0 ≤ m ∧
  ∀ H' d, Same H H' → H d = none → H' d = some (.dK (dkOf (leastN n r ls m) (Ff.pls n r))) → Q (.ref d) H'
theorem ok_least_added (T : NetC K mg C) (B : Bt mg) (F : FunAt K mg "least_added" s_least_added ["net", "many"]) (G : Fn P w K mg base 4 "holds" ["net", "many", "added"] (spHolds C)) :
    Fn P w K mg base 5 "least_added" ["net", "many"] (spLeast C) := F.fn fun f fd F => by
  refine F.ok sc_least_added (fun vs H Q E h => ?_) (fun cdv A outer s H vs Q E hr h => ?_)
  · obtain ⟨p, n, r, ls, m, rfl, _⟩ := h
    rfl
  · obtain ⟨p, n, r, ls, m, rfl, hN, ok, h0, q⟩ := h
    obtain ⟨dx, tl, hp, _⟩ := id hN
    refine ⟨_, pss_cons (ps_setDc (j := 2) (own := [("place", 3)]) (g := gName 3) (tt := tTest (tOp rNe (tVar 3) (tFld K (tVar 0) "root"))) (tk := tVar 3) (tv := tVar 1) rfl sc_least_added.nd rfl rfl (sw_trueD rfl rfl rfl (by decide +kernel)) (pi_range1 (by rfl) B.range (pa_cons (pe_fld (pv 0) rfl) pa_nil))
        (blkOk_by (N := N_least_added) (sc := defScope s_least_added) (by decide +kernel)) (fun _ _ _ _ _ => pg_name (i := 3) sc_least_added.nd rfl (Or.inl rfl)) (fun _ _ _ _ _ => pts_one (pt_cmpR op_ne (pv 3) (pe_fld (pv 0) (by rfl)) (nomark _))) (fun _ _ _ _ _ => pv 3) (fun _ _ _ _ _ => pv 1))
      (pss_cons (ps_for PassesOwn.never rfl (pi_list (pe_callB (call_sortedDI rfl) (by rfl) B.sorted bt_sorted (pa_cons (pv 2) pa_nil))) (pg_name (i := 3) sc_least_added.nd rfl (.inl rfl))
        (pss_one (ps_while PassesOwn.never (PW.pt (pw_and (pt_cmpR op_gt (pe_dget (room_u1 hr) (pv 2) (pv 3) (fun _ _ => rfl)) pe_int (nomark _))
          (pw_and1 (pt_val (pe_fn G hr (pa_cons (pv 0) (pa_cons (pv 1) (pa_cons (pe_callTy (call_dictP rfl) (by rfl) B.dict bt_dict (pa_cons (pe_op op_cat (LiI.pe_listItems rfl (pv 2) (by rfl) B.list bt_list)
            (pe_lst (pa_cons (pe_tup (pa_cons (pv 3) (pa_cons (pe_op op_sub (pe_dget (room_u1 hr) (pv 2) (pv 3) (fun _ _ => rfl)) pe_int) pa_nil))) pa_nil))) pa_nil)) pa_nil))))))))
          (pss_one (ps_daug (room_u1 hr) (pv 2) (pv 3) pe_int in_sub (fun _ _ _ => rfl))))))
      (pss_one (ps_ret (pv 2)))), ?_⟩
    have lo := ok.lo
    have hi := ok.hi
    have hpl := pls_len n r
    refine ⟨_, rfl, p, C, dx, _, _, rfl, hp, T.cl, T.nM, netF_many _ _ _, n, rfl, by omega, by omega, fun d nd => ?_⟩
    refine dc_rg (fun i H' => Same H H' ∧ H' d = some (.dK (dkOf (fun _ => m) (Ff.pls i r)))) ⟨new_same nd _, upd_same⟩ ?_ ?_
    · rintro i H2 hi2 ⟨s2, hd⟩
      refine ⟨rfl, ?_⟩
      refine ⟨_, rfl, _, rfl, p, C, dx, _, _, rfl, s2 _ _ hp, T.cl, T.nR, netF_root _ _ _, rfl, _, rfl, ?_⟩
      rw [Int.zero_add]
      have hpi := pls_len i r
      refine ite2 (fun c => ?_) (fun c => ?_)
      · have hir : ¬ (i : Int) = r := fun e => by
          subst e
          simp at c
        refine ⟨_, rfl, _, rfl, _, Sum.inl (i : Int), rfl, hd, ?_, upd_sameN nd s2 _, ?_⟩
        · rw [dkOf_len]
          exact small1000 (by omega)
        · rw [upd_same, pls_succ, if_neg hir]
          have hnew : (i : Int) ∉ Ff.pls i r := fun z => by
            have := (Ff.mem_pls.mp z).2.1
            omega
          rw [← dkOf_new (f := fun _ => m) hnew]
      · have hir : (i : Int) = r := Classical.not_not.mp fun e => c (by
          show (!decide (V.int (i : Int) = V.int r)) = true
          rw [decide_eq_false fun z => e (V.int.inj z)]
          rfl)
        rw [pls_succ, if_pos hir, List.append_nil]
        exact ⟨s2, hd⟩
    · rintro H1 ⟨s1, hd⟩
      rw [Int.toNat_natCast] at hd
      refine ⟨_, rfl, d, _, Ff.pls n r, rfl, .inl hd, dkOf_keys _ _, by omega, fun ys l hpm hs nl => ?_⟩
      have eys := perm_asc hpm hs (Ff.asc_pls n r)
      subst eys
      have hn := Ff.asc_nodup (Ff.asc_pls n r)
      generalize eps : Ff.pls n r = ps at *
      have nld : l ≠ d := fun e => by
        rw [e, hd] at nl
        cases nl
      refine ⟨l, rfl, ⟨_, SqL.of upd_same⟩, for_list (xs := ps.map V.int) (fun i σ H' => ∃ y, σ = [some (.ref p), some (.int m), some (.ref d), y] ∧ Same H H' ∧ H' l = some (.lst (ps.map V.int)) ∧
        H' d = some (.dK (dkOf (Ff.least (Ff.holdB (sides n r) ls m) m (ps.take i)) ps))) ⟨none, rfl, s1.trans (new_same nl _), upd_same, ?_⟩ (fun i σ H' _ ⟨_, _, _, hl, _⟩ => SqL.of hl) ?_ ?_⟩
      · rw [upd_ne (Ne.symm nld)]
        exact hd
      · rintro i x σ H2 hx ⟨y, rfl, s2, hl, hd2⟩
        rw [List.getElem?_map] at hx
        obtain ⟨v, hv, rfl⟩ := Option.map_eq_some_iff.mp hx
        have hvm := List.mem_of_getElem? hv
        rw [Ff.least_take hv]
        generalize Ff.least (Ff.holdB (sides n r) ls m) m (ps.take i) = g0 at *
        refine ⟨fun k σ H' => ∃ g, σ = [some (.ref p), some (.int m), some (.ref d), some (.int v)] ∧ Same H H' ∧ H' l = some (.lst (ps.map V.int)) ∧ H' d = some (.dK (dkOf g ps)) ∧ (g v).toNat = k ∧
          Ff.lower (Ff.holdB (sides n r) ls m) v k g = Ff.lower (Ff.holdB (sides n r) ls m) v (g0 v).toNat g0, ⟨_, g0, rfl, s2, hl, hd2, rfl, rfl⟩, ?_⟩
        rintro k σ H3 ⟨g, rfl, s3, hl3, hd3, hk, hlow⟩
        have gv : DGet H3 d (.int v) (some (.int (g v))) := by
          have e := DGet.k (k := Sum.inl v) hd3
          rw [dkOf_val hvm] at e
          exact e
        refine ⟨_, rfl, _, rfl, d, _, rfl, gv, _, _, rfl, rfl, _, rfl, ?_⟩
        refine ite2 (fun c => ?_) (fun c => ?_)
        · have c2 : 0 < g v := of_decide_eq_true c
          obtain ⟨k, rfl⟩ : ∃ j, k = j + 1 := ⟨k - 1, by omega⟩
          refine ⟨_, rfl, _, rfl, _, rfl, d, _, rfl, hd3, fun H4 l4 ts s4 nl4 nts hl4 hl4v hts => ?_⟩
          have gv4 : DGet H4 d (.int v) (some (.int (g v))) := by
            have e := DGet.k (k := Sum.inl v) (s4 _ _ hd3)
            rw [dkOf_val hvm] at e
            exact e
          refine ⟨_, rfl, _, rfl, _, rfl, d, _, rfl, gv4, _, _, rfl, rfl, s1000 (by show 2 ≤ 1000; decide), fun t5 n5 => ?_⟩
          refine ⟨s1000 (by show 1 ≤ 1000; decide), fun l6 n6 => ?_⟩
          have s4 : Same H3 H4 := s4
          have s5 : Same H4 (upd H4 t5 (.tup [.int v, .int (g v - 1)])) := new_same n5 _
          have s6 := s5.trans (new_same n6 (.lst [.ref t5]))
          have hlen : ts.length = ps.length := by
            have := Paired.length hts
            rw [dkOf_len] at this
            exact this
          refine ⟨l4, l6, ts.map V.ref, [.ref t5], rfl, rfl, s6 _ _ hl4v, upd_same, ?_, fun l7 n7 => ?_⟩
          · rw [List.length_map, List.length_singleton]
            exact s1000 (by omega)
          have s7 := s6.trans (new_same n7 (.lst (ts.map V.ref ++ [.ref t5])))
          refine ⟨l7, ts ++ [t5], dkOf g ps ++ [(Sum.inl v, .int (g v - 1))], rfl, ?_, ?_, fun d8 n8 => ?_⟩
          · rw [List.map_append]
            exact SqL.of upd_same
          · refine Paired.app (Paired.mapP hts fun t x e => SqT.of (s7 _ _ e)) (Paired.one ?_)
            exact SqT.of (((new_same n6 (.lst [.ref t5])).trans (new_same n7 (.lst (ts.map V.ref ++ [.ref t5])))) _ _ upd_same)
          have s8 := s3.trans (s4.trans (s7.trans (new_same n8 (.dK (mergeK [] (dkOf g ps ++ [(Sum.inl v, .int (g v - 1))]))))))
          refine ⟨p, d8, n, r, ls, m, Ff.upf g v (g v - 1), rfl, hN.same s8, ok, ?_, fun H9 s9 => ?_⟩
          · rw [upd_same, dkOf_turn hn hvm, eps]
          have sz : Same H3 H9 := (s4.trans (s7.trans (new_same n8 _))).trans s9
          refine ⟨_, rfl, ?_⟩
          refine ite2 (fun c3 => ?_) (fun c3 => ?_)
          · refine ⟨_, fun σ' H' z => ⟨k, Nat.lt_succ_self k, z⟩, ?_⟩
            have gv9 : DGet H9 d (.int v) (some (.int (g v))) := by
              have e := DGet.k (k := Sum.inl v) (sz _ _ hd3)
              rw [dkOf_val hvm] at e
              exact e
            refine ⟨_, rfl, _, rfl, d, _, rfl, gv9, _, _, rfl, rfl, _, DPut.k (k := Sum.inl v) (sz _ _ hd3) ?_, ?_⟩
            · rw [dkOf_len]
              exact small1000 (by omega)
            · refine ⟨Ff.upf g v (g v - 1), rfl, ?_, ?_, ?_, ?_, ?_⟩
              · intro b o e
                rw [upd_ne (ne_of_none e nd)]
                exact sz _ _ (s3 _ _ e)
              · rw [upd_ne nld]
                exact sz _ _ hl3
              · rw [upd_same, dkOf_put hvm]
              · rw [Ff.upf_same]
                omega
              · rw [← hlow, lower_pos hk c3]
          · refine ⟨_, rfl, s3.trans sz, sz _ _ hl3, ?_⟩
            rw [← hlow, lower_stop fun z => c3 z.2]
            exact sz _ _ hd3
        · refine ⟨_, rfl, s3, hl3, ?_⟩
          rw [← hlow, lower_stop fun z => c (decide_eq_true z.1)]
          exact hd3
      · rintro σ H2 ⟨y, rfl, s2, hl, hd2⟩
        rw [List.length_map, List.take_length] at hd2
        refine ⟨_, rfl, q H2 d s2 nd ?_⟩
        unfold leastN
        rw [eps]
        exact hd2
end
end Fw
end

section
set_option linter.all false
set_option maxRecDepth 100000
/-! The walk: lacking, to_add, is_enough. -/
namespace Fw
open PySem PySem.Spec PyProof.Rows L2
theorem fit_leastN {n : Nat} {r : Int} {ls : Ff.Lks} {m : Int} (ok : NetOk n r ls) (h0 : 0 ≤ m) : Ff.Fit n r ls m (leastN n r ls m) := Ff.fit_least h0 (mem_sides ok.lo ok.hi)
theorem rep_flat {α : Type} (v : α) : ∀ k : Nat, (List.replicate k [v]).flatten = List.replicate k v
  | 0 => rfl
  | k + 1 => by
    rw [List.replicate_succ, List.flatten_cons, rep_flat v k, List.replicate_succ]
    rfl
theorem paired_rep {α β : Type} {R : α → β → Prop} {a : α} {b : β} (h : R a b) : ∀ k : Nat, Paired R (List.replicate k a) (List.replicate k b)
  | 0 => .nil
  | k + 1 => by
    rw [List.replicate_succ, List.replicate_succ]
    exact .cons h (paired_rep h k)
theorem pairs_len {r : Int} {x : Int → Int} (h1 : ∀ q, x q ≤ 20) : ∀ ps : List Int, (Ff.pairsOf r x ps).length ≤ 20 * ps.length
  | [] => Nat.le_refl _
  | p :: ps => by
    have ih := pairs_len (r := r) h1 ps
    have := h1 p
    rw [Ff.pairsOf_cons, List.length_append, List.length_replicate, List.length_cons]
    omega
theorem IT.put {H : Hp} {o : Addr} {us ws : List V} {v : V} {ns : List Int} (h : IT H v ns) (ho : H o = some (.lst us)) : IT (upd H o (.lst ws)) v ns := by
  obtain ⟨a, e, q⟩ := h
  refine ⟨a, e, ?_⟩
  rw [upd_ne (ne_of q ho (by intro z; cases z))]
  exact q
theorem ITs.put {H : Hp} {o : Addr} {us ws vs : List V} {nss : List (List Int)} (h : ITs H vs nss) (ho : H o = some (.lst us)) : ITs (upd H o (.lst ws)) vs nss := Paired.mapP h fun _ _ z => z.put ho
theorem IPs.put {H : Hp} {o : Addr} {us ws vs : List V} {ls : Ff.Lks} (h : IPs H vs ls) (ho : H o = some (.lst us)) : IPs (upd H o (.lst ws)) vs ls := Paired.mapP h fun _ _ z => IT.put z ho
section
variable {P : Program} {w : World} {K : PySem.W.Frag} {mg : Str → Option Value} {base : Heap} {C : Addr}
def spLacking (C : Addr) : Sp := fun vs H Q _ => ∃ (p : Addr) (n : Nat) (r : Int) (ls : Ff.Lks) (m : Int), vs = [.ref p, .int m] ∧ NetAt C H p n r ls ∧ NetOk n r ls ∧ 0 ≤ m ∧ m ≤ 20 ∧
  ∀ H', Same H H' → Q (.int (Ff.sm (leastN n r ls m) (Ff.pls n r))) H'
theorem ok_lacking (B : Bt mg) (F : FunAt K mg "lacking" s_lacking ["net", "many"]) (G : Fn P w K mg base 4 "check_wanted" ["net", "many"] (spCheckWanted C)) (G2 : Fn P w K mg base 5 "least_added" ["net", "many"] (spLeast C)) :
    Fn P w K mg base 6 "lacking" ["net", "many"] (spLacking C) := F.fn fun f fd F => by
  refine F.ok sc_lacking (fun vs H Q E h => ?_) (fun cdv A outer s H vs Q E hr h => ?_)
  · obtain ⟨p, n, r, ls, m, rfl, _⟩ := h
    rfl
  · obtain ⟨p, n, r, ls, m, rfl, hN, ok, h0, h1, q⟩ := h
    refine ⟨_, pss_cons (ps_expr (pe_fn G (hr.mono (by decide)) (pa_cons (pv 0) (pa_cons (pv 1) pa_nil))) rfl)
      (pss_one (ps_ret (pe_sumVals rfl (by rfl) B.sum (pe_fn G2 hr (pa_cons (pv 0) (pa_cons (pv 1) pa_nil)))))), ?_⟩
    refine ⟨_, rfl, _, rfl, p, n, r, ls, m, rfl, hN, h0, h1, ?_⟩
    refine ⟨_, rfl, _, rfl, p, n, r, ls, m, rfl, hN, ok, h0, fun H1 d s1 nd hd => ?_⟩
    refine ⟨d, _, (Ff.pls n r).map (leastN n r ls m), rfl, hd, ?_, q H1 s1⟩
    unfold dkOf
    rw [List.map_map, List.map_map]
    rfl
def spToAdd (C : Addr) : Sp := fun vs H Q _ => ∃ (p : Addr) (n : Nat) (r : Int) (ls : Ff.Lks) (m : Int), vs = [.ref p, .int m] ∧ NetAt C H p n r ls ∧ NetOk n r ls ∧ 0 ≤ m ∧ m ≤ 20 ∧
  ∀ H' t us, Same H H' → H t = none → H' t = some (.tup us) → IPs H' us (Ff.pairsOf r (leastN n r ls m) (Ff.pls n r)) → Q (.ref t) H'
theorem ok_to_add (T : NetC K mg C) (B : Bt mg) (F : FunAt K mg "to_add" s_to_add ["net", "many"]) (G : Fn P w K mg base 4 "check_wanted" ["net", "many"] (spCheckWanted C)) (G2 : Fn P w K mg base 5 "least_added" ["net", "many"] (spLeast C)) :
    Fn P w K mg base 6 "to_add" ["net", "many"] (spToAdd C) := F.fn fun f fd F => by
  refine F.ok sc_to_add (fun vs H Q E h => ?_) (fun cdv A outer s H vs Q E hr h => ?_)
  · obtain ⟨p, n, r, ls, m, rfl, _⟩ := h
    rfl
  · obtain ⟨p, n, r, ls, m, rfl, hN, ok, h0, h1, q⟩ := h
    obtain ⟨dx, tl, hp, _⟩ := id hN
    refine ⟨_, pss_cons (ps_expr (pe_fn G (hr.mono (by decide)) (pa_cons (pv 0) (pa_cons (pv 1) pa_nil))) rfl)
      (pss_cons (ps_set (i := 2) sc_to_add.nd rfl (.inl rfl) (pe_fn G2 hr (pa_cons (pv 0) (pa_cons (pv 1) pa_nil))))
      (pss_cons (ps_set (i := 3) sc_to_add.nd rfl (.inl rfl) (pe_lst pa_nil))
      (pss_cons (ps_for PassesOwn.never rfl (pi_list (pe_callB (call_sortedDI rfl) (by rfl) B.sorted bt_sorted (pa_cons (pv 2) pa_nil))) (pg_name (i := 4) sc_to_add.nd rfl (.inl rfl))
        (pss_one (ps_ext (pv 3) (pe_op op_rep (pe_lst (pa_cons (pe_tup (pa_cons (pe_fld (pv 0) rfl) (pa_cons (pv 4) pa_nil))) pa_nil)) (pe_dget (room_u1 hr) (pv 2) (pv 4) (fun _ _ => rfl))))))
      (pss_one (ps_ret (pe_callTy call_tuple_of (by rfl) B.tuple bt_tuple (pa_cons (pv 3) pa_nil))))))), ?_⟩
    have fit := fit_leastN ok h0
    have hpl := pls_len n r
    have hi := ok.hi
    refine ⟨_, rfl, _, rfl, p, n, r, ls, m, rfl, hN, h0, h1, ?_⟩
    refine ⟨_, rfl, _, rfl, p, n, r, ls, m, rfl, hN, ok, h0, fun H1 d s1 nd hd => ?_⟩
    generalize hx : leastN n r ls m = x at *
    refine ⟨Nat.zero_le _, fun o no => ?_⟩
    have ndo : d ≠ o := fun e => by
      rw [e, no] at hd
      cases hd
    refine ⟨_, rfl, d, _, Ff.pls n r, rfl, .inl ((new_same no _) _ _ hd), dkOf_keys _ _, by omega, fun ys l hpm hs nl => ?_⟩
    have eys := perm_asc hpm hs (Ff.asc_pls n r)
    subst eys
    generalize eps : Ff.pls n r = ps at *
    have sO := new_same no (.lst [])
    have nlo : l ≠ o := fun e => by
      rw [e, upd_same] at nl
      cases nl
    have noH : H o = none := Classical.byContradiction fun z => by
      cases e : H o with
      | none => exact z e
      | some u =>
        rw [s1 _ _ e] at no
        cases no
    refine ⟨l, rfl, ⟨_, SqL.of upd_same⟩, for_list (xs := ps.map V.int) (fun i σ H' => ∃ y, σ = [some (.ref p), some (.int m), some (.ref d), some (.ref o), y] ∧ Same H1 H' ∧ H' l = some (.lst (ps.map V.int)) ∧
      ∃ us, H' o = some (.lst us) ∧ IPs H' us (Ff.pairsOf r x (ps.take i))) ⟨none, rfl, sO.trans (new_same nl _), upd_same, [], ?_, .nil⟩ (fun i σ H' _ ⟨_, _, _, hl, _⟩ => SqL.of hl) ?_ ?_⟩
    · rw [upd_ne (Ne.symm nlo)]
      exact upd_same
    · rintro i z σ H2 hz ⟨y, rfl, s2, hl, us, ho, hus⟩
      rw [List.getElem?_map] at hz
      obtain ⟨v, hv, rfl⟩ := Option.map_eq_some_iff.mp hz
      have hvm := List.mem_of_getElem? hv
      refine ⟨_, rfl, tyL ho, _, rfl, p, C, dx, _, _, rfl, s2 _ _ (s1 _ _ hp), T.cl, T.nR, netF_root _ _ _, _, rfl, s1000 (by show 2 ≤ 1000; decide), fun t nt => ⟨s1000 (by show 1 ≤ 1000; decide), fun l2 nl2 => ?_⟩⟩
      have sT : Same H2 (upd H2 t (.tup [.int r, .int v])) := new_same nt _
      have sL := sT.trans (new_same nl2 (.lst [.ref t]))
      have hx1 := fit.le v
      have hx0 := fit.nn v
      refine ⟨_, rfl, _, rfl, d, .int (x v), rfl, ?_, l2, x v, [.ref t], rfl, rfl, upd_same, by omega, by omega, ?_, fun l3 nl3 => ?_⟩
      · have e := DGet.k (k := Sum.inl v) (sL _ _ (s2 _ _ hd))
        rw [dkOf_val hvm] at e
        exact e
      · exact s1000 (by show 1 * (x v).toNat ≤ 1000; omega)
      · have sR := sL.trans (new_same nl3 (.lst (List.replicate (x v).toNat [V.ref t]).flatten))
        have hl1 := Paired.length hus
        have hl2 := pairs_len (r := r) (x := x) (fun q => Int.le_trans (fit.le q) h1) (ps.take i)
        have hl3 : (ps.take i).length ≤ ps.length := by rw [List.length_take]; omega
        refine ⟨o, l3, us, _, rfl, rfl, sR _ _ ho, upd_same, ?_, ?_⟩
        · rw [rep_flat, List.length_replicate]
          exact s1000 (by omega)
        · refine ⟨_, rfl, ?_, ?_, _, upd_same, ?_⟩
          · intro b u e
            rw [upd_ne (ne_of_none e no)]
            exact sR _ _ (s2 _ _ e)
          · rw [upd_ne nlo]
            exact sR _ _ hl
          · rw [Ff.pairsOf_take hv]
            refine IPs.put (Paired.app (hus.same sR) ?_) (sR _ _ ho)
            rw [rep_flat]
            exact paired_rep ⟨t, rfl, ((new_same nl2 _).trans (new_same nl3 _)) _ _ upd_same⟩ _
    · rintro σ H2 ⟨y, rfl, s2, hl, us, ho, hus⟩
      rw [List.length_map, List.take_length] at hus
      refine ⟨_, rfl, o, us, rfl, .inl ⟨SqL.of ho, fun t nt => ?_⟩⟩
      have sT : Same H2 (upd H2 t (.tup us)) := new_same nt _
      exact q _ t us (s1.trans (s2.trans sT)) (s1.free (s2.free nt)) upd_same (hus.same sT)
end
end Fw
end

section
set_option linter.all false
set_option maxRecDepth 100000
/-! The walk: is_enough. -/
namespace Fw
open PySem PySem.Spec PyProof.Rows L2
theorem all_rep : ∀ k : Nat, (List.replicate k true).all id = true
  | 0 => rfl
  | k + 1 => by
    rw [List.replicate_succ, List.all_cons, all_rep k]
    rfl
theorem rep_snoc (k : Nat) : (List.replicate k true).map V.bl ++ [V.bl true] = (List.replicate (k + 1) true).map V.bl := by
  rw [List.replicate_succ', List.map_append]
  rfl
/-- links put in that are links -/
def LinksOk (n : Nat) (es : Ff.Lks) : Prop := ∀ e, e ∈ es → (0 ≤ e.1 ∧ e.1 < n) ∧ (0 ≤ e.2 ∧ e.2 < n) ∧ e.1 ≠ e.2
/-- whether the links put in are enough -/
def enoughB (n : Nat) (r : Int) (ls : Ff.Lks) (m : Int) (es : Ff.Lks) : Bool := (sides n r).all fun S => !decide (((Ff.ent es S : Nat) : Int) < Ff.lackI m ls S)
section
variable {P : Program} {w : World} {K : PySem.W.Frag} {mg : Str → Option Value} {base : Heap} {C : Addr}
def spIsEnough (C : Addr) : Sp := fun vs H Q _ => ∃ (p t : Addr) (n : Nat) (r : Int) (ls es : Ff.Lks) (m : Int) (us : List V), vs = [.ref p, .int m, .ref t] ∧ NetAt C H p n r ls ∧ NetOk n r ls ∧ 0 ≤ m ∧ m ≤ 20 ∧ H t = some (.tup us) ∧ IPs H us es ∧ es.length ≤ 200 ∧ LinksOk n es ∧
  ∀ H', Same H H' → Q (.bl (enoughB n r ls m es)) H'
theorem ok_is_enough (T : NetC K mg C) (B : Bt mg) (hA : ∃ t, mg "MOST_ADDED" = some (.int 200 t)) (F : FunAt K mg "is_enough" s_is_enough ["net", "many", "thing"]) (G : Fn P w K mg base 4 "check_wanted" ["net", "many"] (spCheckWanted C)) (G2 : Fn P w K mg base 3 "is_link" ["many", "thing"] spIsLink)
    (G3 : Fn P w K mg base 2 "all_sides" ["net"] (spAllSides C)) (G4 : Fn P w K mg base 3 "lack_of" ["net", "many", "side"] (spLackOf C)) : Fn P w K mg base 5 "is_enough" ["net", "many", "thing"] (spIsEnough C) := F.fn fun f fd F => by
  obtain ⟨tA, hA⟩ := hA
  refine F.ok sc_is_enough (fun vs H Q E h => ?_) (fun cdv A outer s H vs Q E hr h => ?_)
  · obtain ⟨p, t, n, r, ls, es, m, us, rfl, _⟩ := h
    rfl
  · obtain ⟨p, t, n, r, ls, es, m, us, rfl, hN, ok, h0, h1, ht, hus, hfew, hok, q⟩ := h
    obtain ⟨dx, tl, hp, _⟩ := id hN
    have hr3 : Room 3 _ := hr.mono (by decide)
    refine ⟨_, pss_cons (ps_expr (pe_fn G hr (pa_cons (pv 0) (pa_cons (pv 1) pa_nil))) rfl)
      (pss_cons (ps_if (PW.pt (pw_or (pt_not (pt_val (pe_callB call_is (by rfl) B.isinstance bt_isinstance (pa_cons (pv 2) (pa_cons (pe_bltn (v := .ty "tuple") (by rfl) B.tuple bt_tuple rfl) pa_nil)))))
        (pw_or1 (pt_cmpR op_gt (pe_callB call_len_seq (by rfl) B.len bt_len (pa_cons (pv 2) pa_nil)) (pe_glob (v := .int 200) (by rfl) hA ⟨_, rfl⟩) (nomark _))))) (pss_one (ps_ret pe_bl)) pss_nil)
      (pss_cons (ps_if (pt_not (pt_val (pe_callB (cr_all rfl) (by rfl) B.all bt_all (pa_cons (pe_lc (own := [("pair", 5)]) (g := gName 5) (tt := tYes) (te := tFn spIsLink (tCons (tFld K (tVar 0) "many") (tCons (tVar 5) tNil))) rfl sc_is_enough.nd (pi_tup (pv 2)) (blkOk_by (N := N_is_enough) (sc := defScope s_is_enough) (by decide +kernel))
          (fun _ _ _ _ _ => pg_name (i := 5) sc_is_enough.nd rfl (Or.inl rfl)) (fun _ _ _ _ _ => pts_nil) (fun _ _ _ _ _ => pe_fn G2 hr3 (pa_cons (pe_fld (pv 0) (by rfl)) (pa_cons (pv 5) pa_nil)))) pa_nil)))) (pss_one (ps_ret pe_bl)) pss_nil)
      (pss_cons (ps_for PassesOwn.never rfl (pi_list (pe_fn G3 (hr.mono (by decide)) (pa_cons (pv 0) pa_nil))) (pg_name (i := 3) sc_is_enough.nd rfl (.inr rfl))
        (pss_cons (ps_setLc (i := 4) (own := [("pair", 5)]) (g := gName 5) (tt := tAnd (tTest (tOp (rIn K true) (tOp (rIxT K) (tVar 5) (tC (.int 0))) (tVar 3))) (tTest (tOp (rIn K false) (tOp (rIxT K) (tVar 5) (tC (.int 1))) (tVar 3)))) (by rfl) sc_is_enough.nd rfl rfl (sw_true rfl rfl rfl (by decide +kernel))
            (pi_tup (pv 2)) (blkOk_by (N := N_is_enough) (sc := defScope s_is_enough) (by decide +kernel)) (fun _ _ _ _ _ => pg_name (i := 5) sc_is_enough.nd rfl (Or.inl rfl))
            (fun _ _ _ _ _ => pts_one (PW.pt (pw_and (pt_cmpR op_notIn_seq (pe_ix ix_tup (pv 5) pe_int (fun _ _ => rfl)) (pv 3) rfl) (pw_and1 (pt_cmpR op_in_seq (pe_ix ix_tup (pv 5) pe_int (fun _ _ => rfl)) (pv 3) rfl))))) (fun _ _ _ _ _ => pv 5))
        (pss_one (ps_if (pt_cmpR op_lt (pe_callB call_len_seq (by rfl) B.len bt_len (pa_cons (pv 4) pa_nil)) (pe_fn G4 hr3 (pa_cons (pv 0) (pa_cons (pv 1) (pa_cons (pv 3) pa_nil)))) (nomark _)) (pss_one (ps_ret pe_bl)) pss_nil))))
      (pss_one (ps_ret pe_bl))))), ?_⟩
    have few := ok.few
    have hlen : us.length = es.length := Paired.length hus
    refine ⟨_, rfl, _, rfl, p, n, r, ls, m, rfl, hN, h0, h1, ?_⟩
    refine ⟨_, rfl, _, "tuple", "tuple", true, rfl, .base (.tup ht), (by decide +kernel), _, rfl, ?_⟩
    refine ⟨_, rfl, t, us, rfl, .inr (SqT.of ht), _, 200, rfl, rfl, _, rfl, ?_⟩
    refine iteO (decide_eq_false (by omega)) ?_
    refine ⟨_, rfl, t, rfl, ⟨_, SqT.of ht⟩, fun D nD => ?_⟩
    refine lc_tup (xs := us) (fun i H' => Same H H' ∧ H' D = some (.lst ((List.replicate i true).map V.bl))) ⟨new_same nD _, upd_same⟩ (fun i H' _ p => SqT.of (p.1 _ _ ht)) ?_ ?_
    · rintro i x H2 hx ⟨s2, hD⟩
      obtain ⟨e, he, hxe⟩ := Paired.at hus hx
      obtain ⟨o1, o2, o3⟩ := hok e (List.mem_of_getElem? he)
      have hi : i < us.length := (List.getElem?_eq_some_iff.mp hx).1
      refine ⟨rfl, ?_⟩
      refine ⟨_, rfl, p, C, dx, _, _, rfl, s2 _ _ hp, T.cl, T.nM, netF_many _ _ _, _, rfl, n, x, e, rfl, IT.same hxe s2, o1, o2, o3, fun H3 s3 => ⟨_, s3 _ _ hD, ?_, upd_sameN nD (s2.trans s3) _, ?_⟩⟩
      · rw [List.length_map, List.length_replicate]
        exact small1000 (by omega)
      · rw [upd_same, rep_snoc]
    rintro H1 ⟨s1, hD⟩
    refine ⟨D, _, rfl, SqL.of hD, _, rfl, iteN (all_rep _) ?_⟩
    refine ⟨_, rfl, p, n, r, ls, rfl, hN.same s1, ok.lo, ok.hi, fun H2 l ss s2 nl hl hss => ?_⟩
    have s12 : Same H H2 := s1.trans s2
    refine ⟨l, rfl, ⟨_, SqL.of hl⟩, for_list (xs := ss) (fun i σ H' => ∃ y z, σ = [some (.ref p), some (.int m), some (.ref t), y, z, none] ∧ Same H2 H' ∧ ((sides n r).take i).all (fun S => !decide (((Ff.ent es S : Nat) : Int) < Ff.lackI m ls S)) = true)
      ⟨none, none, rfl, Same.refl _, rfl⟩ (fun i σ H' _ ⟨_, _, _, sm, _⟩ => SqL.of (sm _ _ hl)) ?_ ?_⟩
    · rintro i x σ H3 hx ⟨y, z, rfl, s3, hall⟩
      obtain ⟨S, hS, hxS⟩ := Paired.at hss hx
      obtain ⟨a, rfl, ha⟩ := hxS.same s3
      have s13 := s12.trans s3
      refine ⟨_, rfl, t, rfl, ⟨_, SqT.of (s13 _ _ ht)⟩, fun D2 nD2 => ?_⟩
      refine lc_tup (xs := us) (fun i H' => Same H3 H' ∧ ∃ acc, H' D2 = some (.lst acc) ∧ acc.length = Ff.ent (es.take i) S) ⟨new_same nD2 _, [], upd_same, rfl⟩ (fun i H' _ p => SqT.of (p.1 _ _ (s13 _ _ ht))) ?_ ?_
      · rintro j x H4 hx ⟨s4, acc, hD2, hal⟩
        obtain ⟨e, he, hxe⟩ := Paired.at hus hx
        obtain ⟨b, rfl, hb⟩ := IT.same hxe (s13.trans s4)
        have et := ent_take S he
        have el := ent_le (es.take j) S
        rw [List.length_take] at el
        have ha4 := s4 _ _ ha
        refine ⟨rfl, ?_⟩
        refine ⟨_, rfl, b, _, 0, _, rfl, rfl, SqT.of hb, atI_nat (j := 0) rfl, _, rfl, a, _, rfl, .inr (SqT.of ha4), rfl, flat_ints S, _, rfl, ?_⟩
        rw [inV_int]
        refine ite2 (fun c => ?_) (fun c => ?_)
        · refine ⟨_, rfl, b, _, 1, _, rfl, rfl, SqT.of hb, atI_nat (j := 1) rfl, _, rfl, a, _, rfl, .inr (SqT.of ha4), rfl, flat_ints S, _, rfl, ?_⟩
          rw [inV_int]
          have c1 : (!decide (e.1 ∈ S)) = true := c
          refine ite2 (fun c2 => ?_) (fun c2 => ?_)
          · refine ⟨_, rfl, acc, hD2, small1000 (by omega), upd_sameN nD2 s4 _, _, upd_same, ?_⟩
            have c3 : decide (e.2 ∈ S) = true := c2
            rw [List.length_append, List.length_singleton, et, c1, c3, hal]
            rfl
          · have c3 : decide (e.2 ∈ S) = false := Bool.eq_false_iff.mpr c2
            refine ⟨s4, acc, hD2, ?_⟩
            rw [et, c1, c3, hal]
            rfl
        · have c1 : (!decide (e.1 ∈ S)) = false := Bool.eq_false_iff.mpr c
          refine ⟨s4, acc, hD2, ?_⟩
          rw [et, c1, hal]
          rfl
      · rintro H4 ⟨s4, acc, hD2, hal⟩
        rw [hlen, List.take_length] at hal
        refine ⟨_, rfl, D2, acc, rfl, .inl (SqL.of hD2), ?_⟩
        refine ⟨_, rfl, _, rfl, _, rfl, p, a, n, r, ls, m, S, rfl, hN.same (s13.trans s4), by omega, s4 _ _ ha, fun H5 s5 => ?_⟩
        refine ⟨_, _, rfl, rfl, _, rfl, ?_⟩
        have et : (sides n r).take (i + 1) = (sides n r).take i ++ [S] := by rw [List.take_add_one, hS, Option.toList_some]
        rw [hal]
        refine ite2 (fun c => ?_) (fun c => ?_)
        · have e : enoughB n r ls m es = false := by
            refine Bool.eq_false_iff.mpr fun hh => ?_
            have hh2 := List.all_eq_true.mp hh S (List.mem_of_getElem? hS)
            have c2 : decide (((Ff.ent es S : Nat) : Int) < Ff.lackI m ls S) = true := c
            rw [c2] at hh2
            cases hh2
          rw [e] at q
          exact q H5 (s13.trans (s4.trans s5))
        · refine ⟨_, _, rfl, s3.trans (s4.trans s5), ?_⟩
          rw [et, List.all_append, hall, Bool.true_and]
          have c2 : decide (((Ff.ent es S : Nat) : Int) < Ff.lackI m ls S) = false := Bool.eq_false_iff.mpr c
          rw [List.all_cons, c2]
          rfl
    · rintro σ H3 ⟨y, z, rfl, s3, hall⟩
      rw [Paired.length hss, List.take_length] at hall
      have e : enoughB n r ls m es = true := hall
      rw [e] at q
      exact q H3 (s12.trans s3)
end
end Fw
end

section
set_option linter.all false
set_option maxRecDepth 100000
/-! Int tuples and rows of them as data: compared, looked up; lots put together: sizes. -/
namespace Fw
open PySem PySem.Spec PyProof.Rows L2
def pdI (ns : List Int) : PyData := .tuple (ns.map PyData.int)
theorem dpAll_ints {K : PySem.W.Frag} {H : Hp} : ∀ ns : List Int, DpAll K H (ns.map V.int) (ns.map PyData.int)
  | [] => .nil
  | n :: ns => .cons (.int n) (dpAll_ints ns)
theorem dp_it {K : PySem.W.Frag} {H : Hp} {v : V} {ns : List Int} (h : IT H v ns) : Dp K H v (pdI ns) := by
  obtain ⟨a, rfl, q⟩ := h
  exact .tup (SqT.of q) (dpAll_ints ns)
theorem dpAll_its {K : PySem.W.Frag} {H : Hp} : ∀ {vs : List V} {L : List (List Int)}, ITs H vs L → DpAll K H vs (L.map pdI)
  | _, _, .nil => .nil
  | _, _, .cons h t => .cons (dp_it h) (dpAll_its t)
theorem dp_list {K : PySem.W.Frag} {H : Hp} {a : Addr} {vs : List V} {L : List (List Int)} (ha : H a = some (.lst vs)) (h : ITs H vs L) : Dp K H (.ref a) (.list (L.map pdI)) := .lst (SqL.of ha) (dpAll_its h)
theorem dp_tuple {K : PySem.W.Frag} {H : Hp} {a : Addr} {vs : List V} {L : List (List Int)} (ha : H a = some (.tup vs)) (h : ITs H vs L) : Dp K H (.ref a) (.tuple (L.map pdI)) := .tup (SqT.of ha) (dpAll_its h)
theorem can_ints : ∀ ns : List Int, PyData.canLayAll0 (ns.map PyData.int) = true
  | [] => by simp only [List.map_nil, PyData.canLayAll0]
  | n :: ns => by simp only [List.map_cons, PyData.canLayAll0, PyData.canLay0, can_ints ns, Bool.and_self]
theorem depth_ints : ∀ ns : List Int, PyData.depthAll (ns.map PyData.int) = 0
  | [] => by simp only [List.map_nil, PyData.depthAll]
  | n :: ns => by simp only [List.map_cons, PyData.depthAll, PyData.depth, depth_ints ns, Nat.max_self]
theorem can_its : ∀ L : List (List Int), PyData.canLayAll0 (L.map pdI) = true
  | [] => by simp only [List.map_nil, PyData.canLayAll0]
  | n :: L => by simp only [List.map_cons, PyData.canLayAll0, pdI, PyData.canLay0, can_ints n, can_its L, Bool.and_self]
theorem depth_its : ∀ L : List (List Int), PyData.depthAll (L.map pdI) ≤ 1
  | [] => by simp only [List.map_nil, PyData.depthAll, Nat.zero_le]
  | n :: L => by
    have := depth_its L
    simp only [List.map_cons, PyData.depthAll, pdI, PyData.depth, depth_ints n]
    omega
theorem shaped_it (ns : List Int) : SeqAt.shaped (pdI ns) = true := by
  unfold SeqAt.shaped pdI
  simp only [PyData.canLay0, PyData.depth, can_ints, depth_ints, Bool.true_and]
  decide
theorem shaped_list (L : List (List Int)) : SeqAt.shaped (.list (L.map pdI)) = true := by
  unfold SeqAt.shaped
  have := depth_its L
  simp only [PyData.canLay0, PyData.depth, can_its, Bool.true_and]
  exact decide_eq_true (by omega)
theorem shaped_tuple (L : List (List Int)) : SeqAt.shaped (.tuple (L.map pdI)) = true := by
  unfold SeqAt.shaped
  have := depth_its L
  simp only [PyData.canLay0, PyData.depth, can_its, Bool.true_and]
  exact decide_eq_true (by omega)
theorem eqv_ints : ∀ a b : List Int, PyData.eqvAll (a.map PyData.int) (b.map PyData.int) = decide (a = b)
  | [], [] => by simp [PyData.eqvAll]
  | [], _ :: _ => by simp [PyData.eqvAll]
  | _ :: _, [] => by simp [PyData.eqvAll]
  | x :: a, y :: b => by
    simp only [List.map_cons, PyData.eqvAll, PyData.eqv, eqv_ints a b]
    by_cases h : x = y
    · subst h; simp
    · simp [h]
theorem eqv_it (a b : List Int) : PyData.eqv (pdI a) (pdI b) = decide (a = b) := by
  unfold pdI
  simp only [PyData.eqv, eqv_ints]
theorem eqv_its : ∀ A B : List (List Int), PyData.eqvAll (A.map pdI) (B.map pdI) = decide (A = B)
  | [], [] => by simp [PyData.eqvAll]
  | [], _ :: _ => by simp [PyData.eqvAll]
  | _ :: _, [] => by simp [PyData.eqvAll]
  | x :: a, y :: b => by
    simp only [List.map_cons, PyData.eqvAll, eqv_it, eqv_its a b]
    by_cases h : x = y
    · subst h; simp
    · simp [h]
theorem eqv_lists (A B : List (List Int)) : PyData.eqv (.list (A.map pdI)) (.list (B.map pdI)) = decide (A = B) := by simp only [PyData.eqv, eqv_its]
theorem eqv_tuples (A B : List (List Int)) : PyData.eqv (.tuple (A.map pdI)) (.tuple (B.map pdI)) = decide (A = B) := by simp only [PyData.eqv, eqv_its]
theorem any_its (L : List (List Int)) (S : List Int) : ((L.map pdI).any fun z => PyData.eqv z (pdI S)) = decide (S ∈ L) := by
  rw [List.any_map]
  induction L with
  | nil => rfl
  | cons T L ih =>
    rw [List.any_cons, ih]
    show (PyData.eqv (pdI T) (pdI S) || _) = _
    rw [eqv_it]
    by_cases h : T = S
    · subst h; simp
    · have h' : ¬ S = T := fun e => h e.symm
      simp [h, h']
/-! ### sizes -/
theorem flat_few {n : Nat} {r : Int} {L : List (List Int)} (hs : ∀ S, S ∈ L → Ff.Side n r S) (ha : Ff.Apart L) : L.flatten.length ≤ n := by
  refine Nat.le_trans (List.Nodup.length_le_of_subset (l₂ := Ff.pls n r) ?_ ?_) (pls_len n r)
  · refine List.pairwise_flatten.mpr ⟨fun S hS => Ff.asc_nodup (hs S hS).asc, ha.imp fun h a ha b hb e => ?_⟩
    subst e
    exact h a ha hb
  · intro p hp
    obtain ⟨S, hS, hp⟩ := List.mem_flatten.mp hp
    exact (hs S hS).sub p hp
theorem apart_few {n : Nat} {r : Int} : ∀ {L : List (List Int)}, (∀ S, S ∈ L → Ff.Side n r S) → L.length ≤ L.flatten.length
  | [], _ => Nat.zero_le _
  | S :: L, h => by
    have ih := apart_few (L := L) fun T hT => h T (List.mem_cons_of_mem _ hT)
    have := List.length_pos_iff.mpr (h S List.mem_cons_self).ne
    rw [List.flatten_cons, List.length_cons, List.length_append]
    omega
theorem side_union {n : Nat} {r : Int} (A B C : List Int) (a : Ff.Side n r A) (b : Ff.Side n r B) (_ : ∃ p, p ∈ A ∧ p ∈ B) (hc : Ff.Asc C) (hm : ∀ q, q ∈ C ↔ q ∈ A ∨ q ∈ B) : Ff.Side n r C := by
  obtain ⟨p, hp⟩ := List.exists_mem_of_ne_nil A a.ne
  exact ⟨hc, List.ne_nil_of_mem ((hm p).mpr (.inl hp)), fun q hq => ((hm q).mp hq).elim (a.sub q) (b.sub q)⟩
theorem joined_sides {n : Nat} {r : Int} {L : List (List Int)} (h : ∀ S, S ∈ L → Ff.Side n r S) {i : Nat} (hi : i ≤ L.length) : (∀ S, S ∈ Ff.joined (L.take i) → Ff.Side n r S) ∧ Ff.Apart (Ff.joined (L.take i)) := by
  have J := Ff.joins_joined (G := Ff.Side n r) side_union (lots := L) (fun S hS => ⟨h S hS, (h S hS).asc⟩) i hi
  exact ⟨J.good, J.apart⟩
end Fw
end

section
set_option linter.all false
set_option maxRecDepth 100000
/-! The walk: lots joined. -/
namespace Fw
open PySem PySem.Spec PyProof.Rows L2
/-- the names of the block of `apart` -/
def scApart : Scope := { kind := .function, names := ([(".0" : Str), "one", "any", "lot"]).zip [NameKind.local, NameKind.cell, NameKind.globalImplicit, NameKind.free], isGenerator := false, isCoroutine := false, more := [] }
theorem joinStep_len (F : List (List Int)) (S : List Int) : (Ff.joinStep F S).length ≤ F.length + 1 := by
  unfold Ff.joinStep
  rw [List.length_append, List.length_singleton]
  have := List.length_filter_le (fun one => !Ff.touches S one) F
  omega
theorem room_u65 {k : Nat} {A : Around} (r : Room k A) : A.units + 65 < cLine := by
  have := r.un
  omega
theorem filt1 {α : Type} {p : α → Bool} {a : α} (h : p a = true) : [a].filter p = [a] := by
  rw [List.filter_cons, if_pos h]
  rfl
theorem filt0 {α : Type} {p : α → Bool} {a : α} (h : ¬ p a = true) : [a].filter p = [] := by
  rw [List.filter_cons, if_neg h]
  rfl
section
variable {P : Program} {w : World} {K : PySem.W.Frag} {mg : Str → Option Value} {base : Heap}
def spJoined : Sp := fun vs H Q _ => ∃ (l : Addr) (n : Nat) (r : Int) (L : List (List Int)) (us : List V), vs = [.ref l] ∧ H l = some (.lst us) ∧ ITs H us L ∧ (∀ S, S ∈ L → Ff.Side n r S) ∧ n ≤ 6 ∧ L.length ≤ 500 ∧
  ∀ H' p ws, Same H H' → H p = none → H' p = some (.lst ws) → ITs H' ws (Ff.joined L) → Q (.ref p) H'
theorem ok_joined (B : Bt mg) (F : FunAt K mg "joined" s_joined ["lots"]) : Fn P w K mg base 1 "joined" ["lots"] spJoined := F.fn fun f fd F => by
  refine F.ok sc_joined (fun vs H Q E h => ?_) (fun cdv A outer s H vs Q E hr h => ?_)
  · obtain ⟨l, n, r, L, us, rfl, _⟩ := h
    rfl
  · obtain ⟨l, n, r, L, us, rfl, hl, hus, hS, hn, hL, q⟩ := h
    refine ⟨_, pss_cons (ps_set (i := 1) sc_joined.nd rfl (.inl rfl) (pe_lst pa_nil))
      (pss_cons (ps_for PassesOwn.never rfl (pi_list (pv 0)) (pg_name (i := 2) sc_joined.nd rfl (.inr rfl))
        (pss_cons (ps_setLc (i := 3) (own := [("one", 5)]) (g := gName 5) (tt := tNot (tB (tCB (rAny K) (tCons (tLc (iTup K (tVar 2)) (gName 6) tYes (tOp (rIn K false) (tVar 6) (tVar 5)) [6]) tNil)))) (by rfl) sc_joined.nd rfl rfl (sw_true rfl rfl rfl (by decide +kernel))
            (pi_list (pv 1)) (blkOk_by (N := N_joined) (sc := defScope s_joined) (by decide +kernel)) (fun _ _ _ _ _ => pg_name (i := 5) sc_joined.nd rfl (Or.inr rfl))
            (fun _ _ _ _ _ => pts_one (pt_not (pt_val (pe_callB (cr_any rfl) (by rfl) B.any bt_any (pa_cons (pe_lc (own := [("place", 6)]) (g := gName 6) (tt := tYes) (te := tOp (rIn K false) (tVar 6) (tVar 5)) rfl sc_joined.nd (pi_tup (pv 2))
              (blkOk_by (N := N_joined) (sc := relS scApart (defScope s_joined)) (by decide +kernel)) (fun _ _ _ _ _ => pg_name (i := 6) sc_joined.nd rfl (Or.inl rfl)) (fun _ _ _ _ _ => pts_nil) (fun _ _ _ _ _ => pe_cmpR op_in_seq (pv 6) (pv 5) (by rfl))) pa_nil)))))
            (fun _ _ _ _ _ => pv 5))
        (pss_cons (ps_set (i := 4) sc_joined.nd rfl (.inl rfl) (pe_callTy call_list_of (by rfl) B.list bt_list (pa_cons (pv 2) pa_nil)))
        (pss_cons (ps_for PassesOwn.never rfl (pi_list (pv 1)) (pg_name (i := 5) sc_joined.nd rfl (.inl rfl))
          (pss_one (ps_if (pt_cmpR (op_notInD (room_u65 hr)) (pv 5) (pv 3) rfl) (pss_one (ps_extT (pv 4) (pv 5))) pss_nil)))
        (pss_one (ps_set (i := 1) sc_joined.nd rfl (.inl rfl) (pe_op op_cat (pv 3) (pe_lst (pa_cons (pe_callTy call_tuple_of (by rfl) B.tuple bt_tuple (pa_cons (pe_sortSet (by rfl) B.sorted (by rfl) B.set (pv 4)) pa_nil)) pa_nil)))))))))
      (pss_one (ps_ret (pv 1)))), ?_⟩
    refine ⟨Nat.zero_le _, fun o no => ?_⟩
    have sO : Same H (upd H o (.lst [])) := new_same no _
    refine ⟨_, rfl, l, rfl, ⟨_, SqL.of (sO _ _ hl)⟩, for_list (xs := us) (fun i σ H' => ∃ o y2 y3 y4 y5, σ = [some (.ref l), some (.ref o), y2, y3, y4, y5, none] ∧ Same H H' ∧ H o = none ∧ ∃ fs, H' o = some (.lst fs) ∧ ITs H' fs (Ff.joined (L.take i)))
      ⟨o, none, none, none, none, rfl, sO, no, [], upd_same, .nil⟩ (fun i σ H' _ ⟨_, _, _, _, _, _, sm, _⟩ => SqL.of (sm _ _ hl)) ?_ ?_⟩
    · rintro i x σ H1 hx ⟨o, y2, y3, y4, y5, rfl, s1, no, fs, ho, hfs⟩
      obtain ⟨S, hSi, hxS⟩ := Paired.at hus hx
      obtain ⟨a, rfl, ha⟩ := hxS.same s1
      have hi : i < L.length := (List.getElem?_eq_some_iff.mp hSi).1
      obtain ⟨hsd, hap⟩ := joined_sides hS (i := i) (Nat.le_of_lt hi)
      have hSs := hS S (List.mem_of_getElem? hSi)
      have hSl := side_len hSs
      have hflat := flat_few hsd hap
      have hfl := apart_few hsd
      rw [Ff.joined_take hSi]
      generalize Ff.joined (L.take i) = JF at *
      have hfs_len : fs.length = JF.length := Paired.length hfs
      have hi2 : i ≤ 500 := by omega
      refine ⟨_, rfl, o, rfl, ⟨_, SqL.of ho⟩, fun D nD => ?_⟩
      refine lc_list (xs := fs) (fun j H' => Same H1 H' ∧ ∃ acc, H' D = some (.lst acc) ∧ acc.length ≤ j ∧ ITs H' acc ((JF.take j).filter fun one => !Ff.touches S one)) ⟨new_same nD _, [], upd_same, Nat.le_refl _, .nil⟩ (fun j H' _ p => SqL.of (p.1 _ _ ho)) ?_ ?_
      · rintro j x H2 hx ⟨s2, acc, hD, hal, hacc⟩
        obtain ⟨one, hone, hxo⟩ := Paired.at hfs hx
        obtain ⟨b, rfl, hb⟩ := hxo.same s2
        have hj : j < fs.length := (List.getElem?_eq_some_iff.mp hx).1
        refine ⟨rfl, ?_⟩
        refine ⟨_, rfl, a, rfl, ⟨_, SqT.of (s2 _ _ ha)⟩, fun D3 nD3 => ?_⟩
        refine lc_tup (xs := S.map V.int) (fun k H' => Same H2 H' ∧ H' D3 = some (.lst (((S.take k).map fun p => decide (p ∈ one)).map V.bl))) ⟨new_same nD3 _, upd_same⟩ (fun k H' _ p => SqT.of (p.1 _ _ (s2 _ _ ha))) ?_ ?_
        · rintro k y H3 hy ⟨s3, hD3⟩
          rw [List.getElem?_map] at hy
          obtain ⟨v, hv, rfl⟩ := Option.map_eq_some_iff.mp hy
          refine ⟨rfl, ?_⟩
          refine ⟨_, rfl, _, rfl, b, _, rfl, .inr (SqT.of (s3 _ _ hb)), rfl, flat_ints one, _, hD3, ?_, upd_sameN nD3 s3 _, ?_⟩
          · rw [List.length_map, List.length_map, List.length_take]
            exact small1000 (by omega)
          · rw [upd_same]
            show some (HO.lst (_ ++ [V.bl (inV (.int v) (one.map V.int))])) = _
            rw [inV_int, List.take_add_one, hv, Option.toList_some, List.map_append, List.map_append]
            rfl
        · rintro H3 ⟨s3, hD3⟩
          rw [List.length_map, List.take_length] at hD3
          refine ⟨D3, _, rfl, SqL.of hD3, _, rfl, ?_⟩
          have et : (JF.take (j + 1)).filter (fun one => !Ff.touches S one) = (JF.take j).filter (fun one => !Ff.touches S one) ++ [one].filter fun one => !Ff.touches S one := by
            rw [List.take_add_one, hone, Option.toList_some, List.filter_append]
          have eb : (S.map fun p => decide (p ∈ one)).any id = Ff.touches S one := by
            rw [List.any_map]
            rfl
          rw [eb]
          refine ite2 (fun c => ?_) (fun c => ?_)
          · refine ⟨_, rfl, acc, s3 _ _ hD, small1000 (by omega), upd_sameN nD (s2.trans s3) _, _, upd_same, by rw [List.length_append, List.length_singleton]; omega, ?_⟩
            rw [et, filt1 (p := fun one => !Ff.touches S one) c]
            exact ITs.put (Paired.app (ITs.same hacc s3) (Paired.one ⟨b, rfl, s3 _ _ hb⟩)) (s3 _ _ hD)
          · refine ⟨s2.trans s3, acc, s3 _ _ hD, by omega, ?_⟩
            rw [et, filt0 (p := fun one => !Ff.touches S one) c, List.append_nil]
            exact ITs.same hacc s3
      rintro H2 ⟨s2, acc, hD, hal, hacc⟩
      rw [hfs_len, List.take_length] at hacc
      have s12 := s1.trans s2
      refine ⟨_, rfl, a, S.map V.int, rfl, .inr (SqT.of (s2 _ _ ha)), fun W nW => ?_⟩
      refine ⟨_, rfl, o, rfl, ⟨_, SqL.of ((new_same nW _) _ _ (s2 _ _ ho))⟩, for_list (xs := fs) (fun j σ H' => ∃ y, σ = [some (.ref l), some (.ref o), some (.ref a), some (.ref D), some (.ref W), y, none] ∧ Same H2 H' ∧
        H' W = some (.lst ((S ++ ((JF.take j).filter fun one => Ff.touches S one).flatten).map V.int))) ⟨y5, rfl, new_same nW _, ?_⟩ (fun j σ H' _ ⟨_, _, sm, _⟩ => SqL.of (sm _ _ (s2 _ _ ho))) ?_ ?_⟩
      · rw [upd_same, List.take_zero]
        show _ = some (HO.lst ((S ++ []).map V.int))
        rw [List.append_nil]
      · rintro j x σ H3 hx ⟨y, rfl, s3, hW⟩
        obtain ⟨one, hone, hxo⟩ := Paired.at hfs hx
        obtain ⟨b, rfl, hb⟩ := hxo.same (s2.trans s3)
        have hom := List.mem_of_getElem? hone
        refine ⟨_, rfl, _, rfl, pdI one, _, dp_it ⟨b, rfl, hb⟩, dp_list (s3 _ _ hD) (ITs.same hacc s3), shaped_it one, shaped_list _, _, rfl, ?_⟩
        rw [any_its]
        have et : (JF.take (j + 1)).filter (fun one => Ff.touches S one) = (JF.take j).filter (fun one => Ff.touches S one) ++ [one].filter fun one => Ff.touches S one := by
          rw [List.take_add_one, hone, Option.toList_some, List.filter_append]
        have em : decide (one ∈ JF.filter fun one => !Ff.touches S one) = !Ff.touches S one := by
          rw [Bool.eq_iff_iff, decide_eq_true_eq, List.mem_filter]
          exact ⟨fun z => z.2, fun z => ⟨hom, z⟩⟩
        rw [em, Bool.not_not]
        have hsub : ((JF.take j).filter fun one => Ff.touches S one).flatten.length ≤ n := flat_few (fun T hT => hsd T ((List.take_sublist _ _).mem ((List.mem_filter.mp hT).1))) ((hap.sublist (List.take_sublist _ _)).filter _)
        have h1s := side_len (hsd one hom)
        refine ite2 (fun c => ?_) (fun c => ?_)
        · refine ⟨_, rfl, tyL hW, _, rfl, W, b, _, _, rfl, rfl, hW, SqT.of hb, ?_, _, rfl, upd_sameN nW s3 _, ?_⟩
          · rw [List.length_map, List.length_map, List.length_append]
            omega
          · rw [upd_same, et, filt1 (p := fun one => Ff.touches S one) c, List.flatten_append, ← List.append_assoc, List.map_append]
            simp
        · refine ⟨_, rfl, s3, ?_⟩
          rw [et, filt0 (p := fun one => Ff.touches S one) c, List.append_nil]
          exact hW
      · rintro σ H3 ⟨y, rfl, s3, hW⟩
        rw [hfs_len, List.take_length] at hW
        have hsub : (JF.filter fun one => Ff.touches S one).flatten.length ≤ n := flat_few (fun T hT => hsd T ((List.mem_filter.mp hT).1)) (hap.filter _)
        refine ⟨_, rfl, _, rfl, W, _, rfl, SqL.of hW, ?_, fun l5 n5 => ?_⟩
        · rw [List.length_append]
          omega
        refine ⟨l5, _, rfl, .inl ⟨SqL.of upd_same, fun t6 n6 => ?_⟩⟩
        refine ⟨s1000 (by show 1 ≤ 1000; decide), fun l7 n7 => ?_⟩
        have s5 : Same H3 (upd H3 l5 (.lst ((Ff.sortU (S ++ (JF.filter fun one => Ff.touches S one).flatten)).map V.int))) := new_same n5 _
        have s6 := s5.trans (new_same n6 (.tup ((Ff.sortU (S ++ (JF.filter fun one => Ff.touches S one).flatten)).map V.int)))
        have s7 := s6.trans (new_same n7 (.lst [V.ref t6]))
        refine ⟨D, l7, acc, [V.ref t6], rfl, rfl, s7 _ _ (s3 _ _ hD), upd_same, ?_, fun o8 n8 => ?_⟩
        · rw [List.length_singleton]
          exact s1000 (by omega)
        have s8 := s7.trans (new_same n8 (.lst (acc ++ [V.ref t6])))
        refine ⟨o8, _, _, _, _, rfl, s12.trans (s3.trans s8), (s12.trans (s3.trans s7)).free n8, _, upd_same, ?_⟩
        unfold Ff.joinStep
        refine Paired.app (ITs.same hacc (s3.trans s8)) (Paired.one ⟨t6, rfl, ?_⟩)
        exact ((new_same n7 (.lst [V.ref t6])).trans (new_same n8 (.lst (acc ++ [V.ref t6])))) _ _ upd_same
    · rintro σ H1 ⟨o, y2, y3, y4, y5, rfl, s1, no, fs, ho, hfs⟩
      rw [Paired.length hus, List.take_length] at hfs
      exact ⟨_, rfl, q H1 o fs s1 no ho hfs⟩
end
end Fw
end

section
set_option linter.all false
set_option maxRecDepth 100000
/-! Rows of int tuples sorted; neighbours of a tuple taken by zip. -/
namespace Fw
open PySem PySem.Spec PyProof.Rows L2
def leS (a b : List Int) : Bool := !decide (b < a)
def srt (L : List (List Int)) : List (List Int) := L.mergeSort leS
theorem leS_iff {a b : List Int} : leS a b = true ↔ a ≤ b := by
  unfold leS
  rw [Bool.not_eq_true', decide_eq_false_iff_not]
  exact List.not_lt
theorem leS_trans (a b c : List Int) (h1 : leS a b = true) (h2 : leS b c = true) : leS a c = true := leS_iff.mpr (List.le_trans (leS_iff.mp h1) (leS_iff.mp h2))
theorem leS_total (a b : List Int) : (leS a b || leS b a) = true := by
  rw [Bool.or_eq_true, leS_iff, leS_iff]
  exact List.le_total a b
theorem srt_perm (L : List (List Int)) : (srt L).Perm L := List.mergeSort_perm L leS
theorem srt_sorted (L : List (List Int)) : (srt L).Pairwise fun a b => leS a b = true := List.pairwise_mergeSort leS_trans leS_total L
theorem srt_srt (L : List (List Int)) : srt (srt L) = srt L := List.mergeSort_of_pairwise (srt_sorted L)
theorem apart_nodup {J : List (List Int)} (ha : Ff.Apart J) (hn : ∀ S, S ∈ J → S ≠ []) : J.Nodup := by
  refine List.Pairwise.imp_of_mem ?_ ha
  intro A B hA hB h e
  subst e
  obtain ⟨p, hp⟩ := List.exists_mem_of_ne_nil A (hn A hA)
  exact h p hp hp
theorem apart_perm {A B : List (List Int)} (h : A.Perm B) (ha : Ff.Apart B) : Ff.Apart A := h.symm.pairwise ha fun h p q z => h p z q
theorem srt_lt {J : List (List Int)} (ha : Ff.Apart J) (hn : ∀ S, S ∈ J → S ≠ []) : (srt J).Pairwise fun a b => a < b := by
  have nd : (srt J).Nodup := (srt_perm J).nodup_iff.mpr (apart_nodup ha hn)
  refine (srt_sorted J).imp₂ (fun a b h1 h2 => ?_) nd
  have h3 := leS_iff.mp h1
  by_cases c : a < b
  · exact c
  · exact absurd (List.le_antisymm h3 (List.not_lt.mp c)) h2
theorem pair_next {J : List (List Int)} (h : J.Pairwise fun a b => a < b) {i : Nat} {a b : List Int} (h1 : J[i]? = some a) (h2 : J[i + 1]? = some b) : a < b := by
  obtain ⟨i1, e1⟩ := List.getElem?_eq_some_iff.mp h1
  obtain ⟨i2, e2⟩ := List.getElem?_eq_some_iff.mp h2
  rw [← e1, ← e2]
  exact List.pairwise_iff_getElem.mp h i (i + 1) i1 i2 (Nat.lt_succ_self i)
section
variable {X : Cx}
theorem zip_paired {α β : Type} {R : α → β → Prop} : ∀ {as : List α} {bs : List β}, Paired R as bs → (as.zip bs).map (fun p => p.1) = as ∧ (as.zip bs).map (fun p => p.2) = bs ∧ ∀ p, p ∈ as.zip bs → R p.1 p.2
  | _, _, .nil => ⟨rfl, rfl, fun _ h => nomatch h⟩
  | _, _, .cons r t => by
    obtain ⟨h1, h2, h3⟩ := zip_paired t
    refine ⟨?_, ?_, fun p hp => ?_⟩
    · rw [List.zip_cons_cons, List.map_cons, h1]
    · rw [List.zip_cons_cons, List.map_cons, h2]
    · rw [List.zip_cons_cons] at hp
      rcases List.mem_cons.mp hp with e | hp
      · rw [e]
        exact r
      · exact h3 p hp
theorem paired_maps {α β γ : Type} {R : α → β → Prop} (f : γ → α) (g : γ → β) : ∀ {l : List γ}, (∀ p, p ∈ l → R (f p) (g p)) → Paired R (l.map f) (l.map g)
  | [], _ => .nil
  | p :: l, h => .cons (h p List.mem_cons_self) (paired_maps f g fun q hq => h q (List.mem_cons_of_mem _ hq))
/-- sorted(xs), the items int tuples, none empty -/
def rSrt : List V → Hp → VK → Prop := fun vs H Q => ∃ (a : Addr) (us : List V) (L : List (List Int)), vs = [.ref a] ∧ (H a = some (.lst us) ∨ H a = some (.tup us)) ∧ ITs H us L ∧ (∀ S, S ∈ L → S ≠ []) ∧ L.length ≤ 1000 ∧
  ∀ p ws, H p = none → ITs H ws (srt L) → Q (.ref p) (upd H p (.lst ws))
theorem cr_srt (hu : X.A.units + 64 < cLine) : CallR X (.builtin "sorted") rSrt := by
  intro pins s σ H vs us Q I r h
  obtain ⟨a, xs, L, e, hq, hi, hne, hL, q⟩ := h
  obtain ⟨z1, z2, z3⟩ := zip_paired hi
  have hz : (xs.zip L).length = L.length := by rw [← List.length_map (f := fun p : V × List Int => p.2), z2]
  refine cr_sortTs hu pins s σ H vs us Q I r ⟨a, xs.zip L, e, ?_, fun p hp => ⟨z3 p hp, hne p.2 ?_⟩, by omega, fun p hp => q p _ hp ?_⟩
  · rw [z1]
    exact hq.elim (fun h => .inl (SqL.of h)) (fun h => .inr (SqT.of h))
  · rw [← z2]
    exact List.mem_map.mpr ⟨p, hp, rfl⟩
  · have e2 : srt L = ((xs.zip L).mergeSort leT).map fun p => p.2 := by
      have e3 := List.map_mergeSort (r := leT) (s := leS) (f := fun p : V × List Int => p.2) (l := xs.zip L) (fun a _ b _ => rfl)
      rw [e3, z2]
      rfl
    rw [e2]
    exact paired_maps _ _ fun p hp => z3 p ((List.mergeSort_perm _ _).mem_iff.mp hp)
/-- [.. for a, b in zip(t, u)], u no longer than t -/
theorem lc_zipNext {K : PySem.W.Frag} {a b : Addr} {xs ys : List V} {g : TG} {tt : TT} {te : TE} {own : List Nat} {σ : L2.St} {H1 : Hp} {D : Addr} {Z : Hp → Prop} (short : ys.length ≤ xs.length) (I : Nat → Hp → Prop)
    (start : I 0 (upd H1 D (.lst []))) (still : ∀ i H, I i H → SqT K H a xs ∧ SqT K H b ys)
    (turn : ∀ (i : Nat) (x y : V) (T : Addr) (H : Hp), xs[i]? = some x → ys[i]? = some y → I i H → H T = none → g (.ref T) (wipe σ own) (upd H T (.tup [x, y])) fun σ2 H2 => wipe σ2 own = wipe σ own ∧ tt σ2 H2 fun c H3 =>
      if c = true then te σ2 H3 fun y H4 => ∃ acc, H4 D = some (.lst acc) ∧ acc.length < sizeLine ∧ I (i + 1) (upd H4 D (.lst (acc ++ [y]))) else I (i + 1) H3)
    (fin : ∀ H, I ys.length H → Z H) :
    ∃ W : Nat → Nat → Hp → Prop, (∃ m, W 0 m (upd H1 D (.lst []))) ∧ ∀ i m H, W i m H →
      ((RZ.ItzT K a b).stop i H ∧ Z H) ∨ ((RZ.ItzT K a b).go i H ∧ ∃ N : Hp → Prop, (∀ H', N H' → ∃ m', m' < m ∧ W (i + 1) m' H') ∧
        ∀ v H', (RZ.ItzT K a b).yld i H v H' → g v (wipe σ own) H' fun σ2 H2 => wipe σ2 own = wipe σ own ∧ tt σ2 H2 fun c H3 =>
          if c = true then te σ2 H3 fun y H4 => ∃ acc, H4 D = some (.lst acc) ∧ acc.length < sizeLine ∧ N (upd H4 D (.lst (acc ++ [y]))) else N H3) := by
  refine ⟨fun i m H => m + i = ys.length ∧ I i H, ⟨ys.length, Nat.add_zero _, start⟩, fun i m H w => ?_⟩
  obtain ⟨e, inv⟩ := w
  obtain ⟨qx, qy⟩ := still i H inv
  cases m with
  | zero =>
    have ei : i = ys.length := by omega
    subst ei
    exact Or.inl ⟨⟨xs, ys, qx, qy, Or.inr (Nat.le_refl _)⟩, fin H inv⟩
  | succ m =>
    have l1 : i < ys.length := by omega
    have l2 : i < xs.length := by omega
    have g1 : xs[i]? = some xs[i] := List.getElem?_eq_getElem l2
    have g2 : ys[i]? = some ys[i] := List.getElem?_eq_getElem l1
    refine Or.inr ⟨⟨xs, ys, _, _, qx, qy, g1, g2⟩, I (i + 1), fun H' p => ⟨m, Nat.lt_succ_self m, by omega, p⟩, fun v H' y => ?_⟩
    obtain ⟨T, x', y', rfl, nT, rfl, f1, f2⟩ := y
    exact turn i x' y' T H (f1 xs qx) (f2 ys qy) inv nT
end
end Fw
end

section
set_option linter.all false
set_option maxRecDepth 100000
/-! The walk: lots apart, the greatest lack, lacks. -/
namespace Fw
open PySem PySem.Spec PyProof.Rows L2
theorem flat_take {L : List (List Int)} {i : Nat} {S : List Int} (h : L[i]? = some S) : (L.take (i + 1)).flatten = (L.take i).flatten ++ S := by
  rw [List.take_add_one, h, Option.toList_some, List.flatten_append]
  simp
theorem flat_take_le (L : List (List Int)) (i : Nat) : (L.take i).flatten.length ≤ L.flatten.length := by
  have h : (L.take i).flatten ++ (L.drop i).flatten = L.flatten := by rw [← List.flatten_append, List.take_append_drop]
  have := congrArg List.length h
  rw [List.length_append] at this
  omega
theorem sides_len {n : Nat} {r : Int} (h2 : 2 ≤ n) (h6 : n ≤ 6) : (sides n r).length ≤ 180 := by
  have h := lots_len (k := n) h2 h6 (Nat.le_refl _)
  have : (sides n r).length ≤ (lots n).length := List.length_filter_le _ _
  unfold lots at this
  omega
/-- the greatest lack of a net -/
def greatJ (n : Nat) (r : Int) (ls : Ff.Lks) (m : Int) : List (List Int) := srt (Ff.joined ((sides n r).filter (Ff.tightB ls m (leastN n r ls m))))
section
variable {P : Program} {w : World} {K : PySem.W.Frag} {mg : Str → Option Value} {base : Heap} {C : Addr}
def spAreApart : Sp := fun vs H Q _ => ∃ (t : Addr) (us : List V) (L : List (List Int)), vs = [.ref t] ∧ H t = some (.tup us) ∧ ITs H us L ∧ L.flatten.Nodup ∧ L.flatten.length ≤ 1000 ∧ ∀ H', Same H H' → Q (.bl true) H'
theorem ok_are_apart (B : Bt mg) (F : FunAt K mg "are_apart" s_are_apart ["lots"]) : Fn P w K mg base 1 "are_apart" ["lots"] spAreApart := F.fn fun f fd F => by
  refine F.ok sc_are_apart (fun vs H Q E h => ?_) (fun cdv A outer s H vs Q E hr h => ?_)
  · obtain ⟨t, us, L, rfl, _⟩ := h
    rfl
  · obtain ⟨t, us, L, rfl, ht, hus, hn, hl, q⟩ := h
    refine ⟨_, pss_cons (ps_set (i := 1) sc_are_apart.nd rfl (.inl rfl) (pe_lst pa_nil))
      (pss_cons (ps_for PassesOwn.never rfl (pi_tup (pv 0)) (pg_name (i := 2) sc_are_apart.nd rfl (.inl rfl)) (pss_one (ps_extT (pv 1) (pv 2))))
      (pss_one (ps_ret (pe_cmpR op_eq (RZ.pe_lenSetI (by rfl) B.len (by rfl) B.set (pv 1)) (pe_callB call_len_seq (by rfl) B.len bt_len (pa_cons (pv 1) pa_nil)) (nomark _))))), ?_⟩
    refine ⟨Nat.zero_le _, fun o no => ?_⟩
    have sO : Same H (upd H o (.lst [])) := new_same no _
    refine ⟨_, rfl, t, rfl, ⟨_, SqT.of (sO _ _ ht)⟩, for_tup (xs := us) (fun i σ H' => ∃ y, σ = [some (.ref t), some (.ref o), y] ∧ Same H H' ∧ H' o = some (.lst ((L.take i).flatten.map V.int))) ⟨none, rfl, sO, upd_same⟩ (fun i σ H' _ ⟨_, _, sm, _⟩ => SqT.of (sm _ _ ht)) ?_ ?_⟩
    · rintro i x σ H1 hx ⟨y, rfl, s1, ho⟩
      obtain ⟨S, hS, hxS⟩ := Paired.at hus hx
      obtain ⟨a, rfl, ha⟩ := hxS.same s1
      have e1 := flat_take hS
      have e2 := flat_take_le L (i + 1)
      rw [e1, List.length_append] at e2
      refine ⟨_, rfl, tyL ho, _, rfl, o, a, _, _, rfl, rfl, ho, SqT.of ha, ?_, _, rfl, upd_sameN no s1 _, ?_⟩
      · rw [List.length_map, List.length_map]
        omega
      · rw [upd_same, e1, List.map_append]
    · rintro σ H1 ⟨y, rfl, s1, ho⟩
      rw [Paired.length hus, List.take_length] at ho
      refine ⟨_, rfl, o, L.flatten, rfl, SqL.of ho, hn, by omega, ?_⟩
      refine ⟨_, rfl, o, _, rfl, .inl (SqL.of ho), rfl, ?_⟩
      rw [List.length_map, decide_eq_true rfl]
      exact q H1 s1
def spGreatest (C : Addr) : Sp := fun vs H Q _ => ∃ (p : Addr) (n : Nat) (r : Int) (ls : Ff.Lks) (m : Int), vs = [.ref p, .int m] ∧ NetAt C H p n r ls ∧ NetOk n r ls ∧ 0 ≤ m ∧ m ≤ 20 ∧
  ∀ H' t us, Same H H' → H t = none → H' t = some (.tup us) → ITs H' us (greatJ n r ls m) → Q (.ref t) H'
theorem ok_greatest_lack (B : Bt mg) (F : FunAt K mg "greatest_lack" s_greatest_lack ["net", "many"]) (G : Fn P w K mg base 4 "check_wanted" ["net", "many"] (spCheckWanted C)) (G2 : Fn P w K mg base 5 "least_added" ["net", "many"] (spLeast C))
    (G3 : Fn P w K mg base 2 "all_sides" ["net"] (spAllSides C)) (G4 : Fn P w K mg base 3 "lack_of" ["net", "many", "side"] (spLackOf C)) (G5 : Fn P w K mg base 1 "joined" ["lots"] spJoined) :
    Fn P w K mg base 6 "greatest_lack" ["net", "many"] (spGreatest C) := F.fn fun f fd F => by
  refine F.ok sc_greatest_lack (fun vs H Q E h => ?_) (fun cdv A outer s H vs Q E hr h => ?_)
  · obtain ⟨p, n, r, ls, m, rfl, _⟩ := h
    rfl
  · obtain ⟨p, n, r, ls, m, rfl, hN, ok, h0, h1, q⟩ := h
    refine ⟨_, pss_cons (ps_expr (pe_fn G (hr.mono (by decide)) (pa_cons (pv 0) (pa_cons (pv 1) pa_nil))) rfl)
      (pss_cons (ps_set (i := 2) sc_greatest_lack.nd rfl (.inr rfl) (pe_fn G2 hr (pa_cons (pv 0) (pa_cons (pv 1) pa_nil))))
      (pss_cons (ps_set (i := 3) sc_greatest_lack.nd rfl (.inl rfl) (pe_lst pa_nil))
      (pss_cons (ps_for PassesOwn.never rfl (pi_list (pe_fn G3 (hr.mono (by decide)) (pa_cons (pv 0) pa_nil))) (pg_name (i := 4) sc_greatest_lack.nd rfl (.inl rfl))
        (pss_cons (ps_set (i := 5) sc_greatest_lack.nd rfl (.inl rfl) (pe_callB (cr_sum rfl) (by rfl) B.sum bt_sum (pa_cons (pe_lc (own := [("place", 6)]) (g := gName 6) (tt := tYes) (te := tDGet (tVar 2) (tVar 6)) rfl sc_greatest_lack.nd (pi_tup (pv 4)) (blkOk_by (N := N_greatest_lack) (sc := defScope s_greatest_lack) (by decide +kernel))
          (fun _ _ _ _ _ => pg_name (i := 6) sc_greatest_lack.nd rfl (Or.inl rfl)) (fun _ _ _ _ _ => pts_nil) (fun _ _ _ _ _ => pe_dget (room_u1 hr) (pv 2) (pv 6) (fun _ _ => rfl))) pa_nil)))
        (pss_one (ps_if (PW.pt (pw_and (pt_cmpR op_gt (pv 5) pe_int (nomark _)) (pw_and1 (pt_cmpR op_eq (pv 5) (pe_fn G4 (hr.mono (by decide)) (pa_cons (pv 0) (pa_cons (pv 1) (pa_cons (pv 4) pa_nil)))) (nomark _))))) (pss_one (ps_app (pv 3) (pv 4))) pss_nil))))
      (pss_one (ps_ret (pe_callTy call_tuple_of (by rfl) B.tuple bt_tuple (pa_cons (pe_callB (cr_srt hr.units) (by rfl) B.sorted bt_sorted (pa_cons (pe_fn G5 (hr.mono (by decide)) (pa_cons (pv 3) pa_nil)) pa_nil)) pa_nil))))))), ?_⟩
    have hi6 := ok.hi
    have few := ok.few
    refine ⟨_, rfl, _, rfl, p, n, r, ls, m, rfl, hN, h0, h1, ?_⟩
    refine ⟨_, rfl, _, rfl, p, n, r, ls, m, rfl, hN, ok, h0, fun H1 d s1 nd hd => ?_⟩
    unfold greatJ at q
    generalize leastN n r ls m = x at *
    refine ⟨Nat.zero_le _, fun o no => ?_⟩
    have sO : Same H1 (upd H1 o (.lst [])) := new_same no _
    refine ⟨_, rfl, p, n, r, ls, rfl, hN.same (s1.trans sO), ok.lo, ok.hi, fun H2 l us s2 nl hl hus => ?_⟩
    have s02 : Same H1 H2 := sO.trans s2
    have ho2 := s2 _ _ (upd_same (H := H1) (a := o) (o := .lst []))
    have slen := sides_len (r := r) ok.lo ok.hi
    refine ⟨l, rfl, ⟨_, SqL.of hl⟩, for_list (xs := us) (fun i σ H' => ∃ y z, σ = [some (.ref p), some (.int m), some (.ref d), some (.ref o), y, z, none] ∧ Same H1 H' ∧ H' l = some (.lst us) ∧ ITs H' us (sides n r) ∧ ∃ ts, H' o = some (.lst ts) ∧ ts.length ≤ i ∧ ITs H' ts (((sides n r).take i).filter (Ff.tightB ls m x)))
      ⟨none, none, rfl, s02, hl, hus, [], ho2, Nat.le_refl _, .nil⟩ (fun i σ H' _ ⟨_, _, _, _, hl, _⟩ => SqL.of hl) ?_ ?_⟩
    · rintro i v σ H3 hv ⟨y, z, rfl, s3, hl3, hus3, ts, ho, htl, hts⟩
      obtain ⟨S, hS, a, rfl, ha⟩ := Paired.at hus3 hv
      have hi : i < us.length := (List.getElem?_eq_some_iff.mp hv).1
      have hul := Paired.length hus
      have hSide := (mem_sides ok.lo ok.hi S).mp (List.mem_of_getElem? hS)
      have hSl := side_len hSide
      refine ⟨_, rfl, a, rfl, ⟨_, SqT.of ha⟩, fun D nD => ?_⟩
      refine lc_tup (xs := S.map V.int) (fun i H' => Same H3 H' ∧ H' D = some (.lst (((S.take i).map x).map V.int))) ⟨new_same nD _, upd_same⟩ (fun i H' _ p => SqT.of (p.1 _ _ ha)) ?_ ?_
      · rintro j w H4 hw ⟨s4, hD⟩
        rw [List.getElem?_map] at hw
        obtain ⟨u, hu, rfl⟩ := Option.map_eq_some_iff.mp hw
        refine ⟨rfl, ?_⟩
        refine ⟨_, rfl, _, rfl, d, .int (x u), rfl, ?_, _, hD, ?_, upd_sameN nD s4 _, ?_⟩
        · have e := DGet.k (k := Sum.inl u) (s4 _ _ (s3 _ _ hd))
          rw [dkOf_val (hSide.sub u (List.mem_of_getElem? hu))] at e
          exact e
        · rw [List.length_map, List.length_map, List.length_take]
          exact small1000 (by omega)
        · rw [upd_same, ints_take hu]
      · rintro H4 ⟨s4, hD⟩
        rw [List.length_map, List.take_length] at hD
        refine ⟨D, _, rfl, SqL.of hD, ?_⟩
        have et : ((sides n r).take (i + 1)).filter (Ff.tightB ls m x) = ((sides n r).take i).filter (Ff.tightB ls m x) ++ [S].filter (Ff.tightB ls m x) := by
          rw [List.take_add_one, hS, Option.toList_some, List.filter_append]
        have skip : ∀ H5, Same H3 H5 → ¬ Ff.tightB ls m x S = true → ∃ y z, [some (V.ref p), some (V.int m), some (V.ref d), some (V.ref o), some (V.ref a), some (V.int (S.map x).sum), none] = [some (.ref p), some (.int m), some (.ref d), some (.ref o), y, z, none] ∧ Same H1 H5 ∧ H5 l = some (.lst us) ∧ ITs H5 us (sides n r) ∧
            ∃ ts, H5 o = some (.lst ts) ∧ ts.length ≤ i + 1 ∧ ITs H5 ts (((sides n r).take (i + 1)).filter (Ff.tightB ls m x)) := fun H5 s5 c => by
          refine ⟨_, _, rfl, s3.trans s5, s5 _ _ hl3, ITs.same hus3 s5, ts, s5 _ _ ho, by omega, ?_⟩
          rw [et, filt0 c, List.append_nil]
          exact ITs.same hts s5
        refine ⟨_, rfl, _, 0, rfl, rfl, _, rfl, ?_⟩
        refine ite2 (fun c => ?_) (fun c => ?_)
        · refine ⟨_, rfl, _, rfl, _, rfl, _, rfl, p, a, n, r, ls, m, S, rfl, hN.same (s1.trans (s3.trans s4)), by omega, s4 _ _ ha, fun H5 s5 => ?_⟩
          refine ⟨rfl, _, rfl, ?_⟩
          have c1 : decide (0 < Ff.sm x S) = true := c
          refine ite2 (fun c2 => ?_) (fun c2 => ?_)
          · have c3 : Ff.sm x S = Ff.lackI m ls S := V.int.inj (of_decide_eq_true c2)
            have ct : Ff.tightB ls m x S = true := Ff.tightB_iff.mpr ⟨of_decide_eq_true c1, c3⟩
            have s35 : Same H3 H5 := s4.trans s5
            refine ⟨_, rfl, tyL (s35 _ _ ho), _, rfl, o, ts, _, rfl, rfl, s35 _ _ ho, ?_, ?_⟩
            · exact small1000 (by omega)
            · refine ⟨_, _, rfl, ?_, ?_, ITs.put (ITs.same hus3 s35) (s35 _ _ ho), _, upd_same, ?_, ?_⟩
              · intro b u e
                rw [upd_ne (ne_of_none e no)]
                exact s35 _ _ (s3 _ _ e)
              · rw [upd_ne ?_]
                · exact s35 _ _ hl3
                · intro e
                  rw [e] at nl
                  rw [upd_same] at nl
                  cases nl
              · rw [List.length_append, List.length_singleton]
                omega
              · rw [et, filt1 ct]
                exact ITs.put (Paired.app (ITs.same hts s35) (Paired.one ⟨a, rfl, s35 _ _ ha⟩)) (s35 _ _ ho)
          · exact skip H5 (s4.trans s5) fun z => c2 (decide_eq_true (congrArg V.int (Ff.tightB_iff.mp z).2))
        · exact skip H4 s4 fun z => c (decide_eq_true (Ff.tightB_iff.mp z).1)
    · rintro σ H3 ⟨y, z, rfl, s3, hl3, hus3, ts, ho, htl, hts⟩
      rw [Paired.length hus, List.take_length] at hts
      have hsub : ∀ S, S ∈ (sides n r).filter (Ff.tightB ls m x) → Ff.Side n r S := fun S h => (mem_sides ok.lo ok.hi S).mp (List.mem_filter.mp h).1
      have hll : ((sides n r).filter (Ff.tightB ls m x)).length ≤ 180 := Nat.le_trans (List.length_filter_le _ _) slen
      refine ⟨_, rfl, o, n, r, _, ts, rfl, ho, hts, hsub, hi6, by omega, fun H4 l4 ws s4 n4 h4 hws => ?_⟩
      obtain ⟨J1, J2⟩ := joined_sides hsub (Nat.le_refl _)
      rw [List.take_length] at J1 J2
      have f1 := flat_few J1 J2
      have f2 := apart_few J1
      refine ⟨l4, ws, _, rfl, .inl h4, hws, fun S hS => (J1 S hS).ne, by omega, fun l5 vs n5 hvs => ?_⟩
      refine ⟨l5, vs, rfl, .inl ⟨SqL.of upd_same, fun t6 n6 => ?_⟩⟩
      have s5 : Same H4 (upd H4 l5 (.lst vs)) := new_same n5 _
      have s6 := s5.trans (new_same n6 (.tup vs))
      have s06 := s1.trans (s3.trans s4)
      exact q _ t6 vs (s06.trans s6) ((s06.trans s5).free n6) upd_same (ITs.same hvs s6)
end
end Fw
end

section
set_option linter.all false
set_option maxRecDepth 100000
/-! The walk: is_lack. -/
namespace Fw
open PySem PySem.Spec PyProof.Rows L2
section
variable {X : Cx}
/-- t[1:] -/
def rTail : V → Option Int → Option Int → Hp → VK → Prop := fun x lo hi H Q => ∃ a xs, x = .ref a ∧ H a = some (.tup xs) ∧ lo = some 1 ∧ hi = none ∧ ∀ H' b, Same H H' → H' b = some (.tup (xs.drop 1)) → Q (.ref b) H'
theorem sl_tail : SlR X rTail := by
  intro pins s σ H x v vl vu lo hi sl Q I rx hs pl pu h
  obtain ⟨a, xs, rfl, hx, rfl, rfl, q⟩ := h
  refine sl_tupA pins s σ H (.ref a) v vl vu (some 1) none sl Q I rx hs pl pu ⟨a, xs, rfl, SqT.of hx, fun c => ?_, fun c p np => ?_⟩
  · refine q H a (Same.refl H) ?_
    have e : HT.sIx xs.length 0 (some 1) = min 1 xs.length := HT.sIx_nat xs.length 0 1
    rw [e] at c
    have : xs.length = 0 := by omega
    rw [List.length_eq_zero_iff.mp this] at hx ⊢
    exact hx
  · refine q _ p (new_same np _) ?_
    rw [upd_same]
    have e : HT.sIx xs.length 0 (some 1) = min 1 xs.length := HT.sIx_nat xs.length 0 1
    unfold cutV
    rw [e, HT.sIx_none]
    rw [e, HT.sIx_none] at c
    have h1 : 1 ≤ xs.length := by
      have : ¬ min 1 xs.length = 0 := fun z => c ⟨z, rfl⟩
      omega
    rw [show min 1 xs.length = 1 by omega]
    rw [List.take_of_length_le (by rw [List.length_drop]; exact Nat.le_refl _)]
end
section
variable {P : Program} {w : World} {K : PySem.W.Frag} {mg : Str → Option Value} {base : Heap} {C : Addr}
def spIsLack (C : Addr) : Sp := fun vs H Q _ => ∃ (p t : Addr) (n : Nat) (r : Int) (ls : Ff.Lks) (us : List V) (J : List (List Int)), vs = [.ref p, .ref t] ∧ NetAt C H p n r ls ∧ NetOk n r ls ∧ H t = some (.tup us) ∧ ITs H us J ∧ (∀ S, S ∈ J → Ff.Side n r S) ∧ Ff.Apart J ∧ (J.Pairwise fun a b => a < b) ∧
  ∀ H', Same H H' → Q (.bl true) H'
theorem ok_is_lack (B : Bt mg) (F : FunAt K mg "is_lack" s_is_lack ["net", "thing"]) (G : Fn P w K mg base 1 "check_net" ["net"] (spCheckNet C)) (G2 : Fn P w K mg base 4 "is_side" ["net", "thing"] (spIsSide C)) (G3 : Fn P w K mg base 1 "are_apart" ["lots"] spAreApart) :
    Fn P w K mg base 5 "is_lack" ["net", "thing"] (spIsLack C) := F.fn fun f fd F => by
  refine F.ok sc_is_lack (fun vs H Q E h => ?_) (fun cdv A outer s H vs Q E hr h => ?_)
  · obtain ⟨p, t, n, r, ls, us, J, rfl, _⟩ := h
    rfl
  · obtain ⟨p, t, n, r, ls, us, J, rfl, hN, ok, ht, hus, hJ, hA, hP, q⟩ := h
    refine ⟨_, pss_cons (ps_expr (pe_fn G (hr.mono (by decide)) (pa_cons (pv 0) pa_nil)) rfl)
      (pss_cons (ps_if (PW.pt (pw_or (pt_not (pt_val (pe_callB call_is (by rfl) B.isinstance bt_isinstance (pa_cons (pv 1) (pa_cons (pe_bltn (v := .ty "tuple") (by rfl) B.tuple bt_tuple rfl) pa_nil)))))
        (pw_or1 (pt_not (pt_val (pe_callB (cr_all rfl) (by rfl) B.all bt_all (pa_cons (pe_lc (own := [("side", 2)]) (g := gName 2) (tt := tYes) (te := tFn (spIsSide C) (tCons (tVar 0) (tCons (tVar 2) tNil))) rfl sc_is_lack.nd (pi_tup (pv 1)) (blkOk_by (N := N_is_lack) (sc := defScope s_is_lack) (by decide +kernel))
          (fun _ _ _ _ _ => pg_name (i := 2) sc_is_lack.nd rfl (Or.inl rfl)) (fun _ _ _ _ _ => pts_nil) (fun _ _ _ _ _ => pe_fn G2 hr (pa_cons (pv 0) (pa_cons (pv 2) pa_nil)))) pa_nil))))))) (pss_one (ps_ret pe_bl)) pss_nil)
      (pss_one (ps_ret (pe_and (pe_fn G3 (hr.mono (by decide)) (pa_cons (pv 1) pa_nil)) (pe_one (pe_callB (cr_all rfl) (by rfl) B.all bt_all (pa_cons (pe_lc (own := [("one", 3), ("other", 4)]) (g := gTup K 2 (gCons (gName 3) (gCons (gName 4) gNil))) (tt := tYes) (te := tOp (rLtT K) (tVar 3) (tVar 4)) rfl sc_is_lack.nd
          (RZ.pi_zipA (by rfl) B.zip (pa_cons (pv 1) (pa_cons (pe_slice sl_tail (pv 1) (po_some pe_int) po_none) pa_nil))) (blkOk_by (N := N_is_lack) (sc := defScope s_is_lack) (by decide +kernel))
          (fun _ _ _ _ _ => pg_tup rfl (pgs_cons (pg_name (i := 3) sc_is_lack.nd rfl (Or.inl rfl)) (pgs_cons (pg_name (i := 4) sc_is_lack.nd rfl (Or.inl rfl)) pgs_nil))) (fun _ _ _ _ _ => pts_nil) (fun _ _ _ _ _ => pe_cmpR (op_ltT hr.units0) (pv 3) (pv 4) (by rfl))) pa_nil))))))), ?_⟩
    have hi6 := ok.hi
    have f1 := flat_few hJ hA
    have f2 := apart_few hJ
    have hul : us.length = J.length := Paired.length hus
    refine ⟨_, rfl, p, n, r, ls, rfl, hN, ?_⟩
    refine ⟨_, rfl, _, "tuple", "tuple", true, rfl, .base (.tup ht), (by decide +kernel), _, rfl, ?_⟩
    refine ⟨_, rfl, t, rfl, ⟨_, SqT.of ht⟩, fun D nD => ?_⟩
    refine lc_tup (xs := us) (fun i H' => Same H H' ∧ H' D = some (.lst ((List.replicate i true).map V.bl))) ⟨new_same nD _, upd_same⟩ (fun i H' _ p => SqT.of (p.1 _ _ ht)) ?_ ?_
    · rintro i x H2 hx ⟨s2, hD⟩
      obtain ⟨S, hS, hxS⟩ := Paired.at hus hx
      obtain ⟨a, rfl, ha⟩ := hxS.same s2
      have hi : i < us.length := (List.getElem?_eq_some_iff.mp hx).1
      refine ⟨rfl, ?_⟩
      refine ⟨_, rfl, _, rfl, p, a, n, r, ls, S, rfl, hN.same s2, ha, hJ S (List.mem_of_getElem? hS), _, hD, ?_, upd_sameN nD s2 _, ?_⟩
      · rw [List.length_map, List.length_replicate]
        exact small1000 (by omega)
      · rw [upd_same, rep_snoc]
    rintro H1 ⟨s1, hD⟩
    refine ⟨D, _, rfl, SqL.of hD, _, rfl, iteN (all_rep _) ?_⟩
    have hnd : J.flatten.Nodup := by
      refine List.pairwise_flatten.mpr ⟨fun S hS => Ff.asc_nodup (hJ S hS).asc, hA.imp fun h a ha b hb e => ?_⟩
      subst e
      exact h a ha hb
    refine ⟨_, rfl, t, us, J, rfl, s1 _ _ ht, ITs.same hus s1, hnd, by omega, fun H2 s2 => ⟨_, rfl, iteT ?_⟩⟩
    have s12 := s1.trans s2
    refine ⟨_, rfl, _, rfl, 1, rfl, t, us, rfl, s12 _ _ ht, rfl, rfl, fun H3 b s3 hb => ?_⟩
    have s13 := s12.trans s3
    refine ⟨t, b, us, us.drop 1, rfl, .inr ⟨SqT.of (s13 _ _ ht), SqT.of hb, fun D3 nD3 => ?_⟩⟩
    refine lc_zipNext (xs := us) (ys := us.drop 1) (by rw [List.length_drop]; omega) (fun i H' => Same H3 H' ∧ H' D3 = some (.lst ((List.replicate i true).map V.bl))) ⟨new_same nD3 _, upd_same⟩ (fun i H' p => ⟨SqT.of (p.1 _ _ (s13 _ _ ht)), SqT.of (p.1 _ _ hb)⟩) ?_ ?_
    · rintro i x y T H4 hx hy ⟨s4, hD3⟩ nT
      rw [List.getElem?_drop] at hy
      have s14 := s13.trans s4
      have sT : Same H4 (upd H4 T (.tup [x, y])) := new_same nT _
      obtain ⟨S1, hS1, hx1⟩ := Paired.at hus hx
      obtain ⟨S2, hS2, hx2⟩ := Paired.at hus hy
      have hi : i < us.length := (List.getElem?_eq_some_iff.mp hx).1
      obtain ⟨a1, rfl, h1⟩ := hx1.same (s14.trans sT)
      obtain ⟨a2, rfl, h2⟩ := hx2.same (s14.trans sT)
      have lt : S1 < S2 := pair_next hP hS1 (by rw [Nat.add_comm]; exact hS2)
      refine ⟨T, _, rfl, SqT.of upd_same, rfl, _, _, rfl, _, _, rfl, rfl, rfl, ?_⟩
      refine ⟨_, rfl, _, rfl, a1, a2, S1, S2, rfl, rfl, SqT.of h1, SqT.of h2, _, sT _ _ hD3, ?_, upd_sameN nD3 (s4.trans sT) _, ?_⟩
      · rw [List.length_map, List.length_replicate]
        exact small1000 (by omega)
      · rw [upd_same, lexLt_lt, decide_eq_true lt, rep_snoc]
    · rintro H4 ⟨s4, hD3⟩
      refine ⟨D3, _, rfl, SqL.of hD3, ?_⟩
      rw [all_rep]
      exact q H4 (s13.trans s4)
end
end Fw
end

section
set_option linter.all false
set_option maxRecDepth 100000
/-! The walk of the law: the hand. -/
namespace Fw
open PySem PySem.Spec PyProof.Rows L2
section
variable {X : Cx}
/-- a cut behind a statement -/
def tCut (P : L2.St → Hp → Prop) (t : TS) : TS := fun D σ H => t { D with nx := P } σ H ∧ ∀ σ' H', P σ' H' → D.nx σ' H'
theorem ps_cut {st : Stmt} {t : TS} (P : L2.St → Hp → Prop) (h : PS X st t) : PS X st (tCut P t) := by
  refine ⟨fun pins s σ H D I hw => ?_⟩
  obtain ⟨h1, h2⟩ := hw
  refine thn (h.run pins s σ H { D with nx := P } I h1) fun fl s' q => ?_
  cases fl with
  | next =>
    obtain ⟨σ', H', I', p⟩ := q
    exact ⟨σ', H', I', h2 _ _ p⟩
  | brk => exact q
  | cont => exact q
  | ret u => exact q
end
/-- all but the one at p stays -/
def SX (p : Addr) (H H' : Hp) : Prop := ∀ b o, b ≠ p → H b = some o → H' b = some o
theorem SX.refl (p : Addr) (H : Hp) : SX p H H := fun _ _ _ h => h
theorem SX.trans {p : Addr} {H H1 H2 : Hp} (a : SX p H H1) (b : SX p H1 H2) : SX p H H2 := fun c o n h => b c o n (a c o n h)
theorem SX.of {p : Addr} {H H' : Hp} (s : Same H H') : SX p H H' := fun b o _ h => s b o h
theorem SX.put {p : Addr} {H : Hp} {o : HO} : SX p H (upd H p o) := fun b u n h => by rw [upd_ne n]; exact h
def HandL (c : Addr) (pos : Nat) (big seed cnt : Int) : List V := [.ref c, .int (pos : Nat), .int big, .int seed, .int cnt]
/-- the hand at p, its cells at c -/
def HandAt (H : Hp) (p c : Addr) : Prop := ∃ (cs : List Int) (pos : Nat) (big seed cnt : Int), H p = some (.lst (HandL c pos big seed cnt)) ∧ H c = some (.lst (cs.map V.int)) ∧ c ≠ p
theorem HandAt.lst {H : Hp} {p c : Addr} (h : HandAt H p c) : ∃ us, H p = some (.lst us) := by
  obtain ⟨cs, pos, big, seed, cnt, h, _⟩ := h
  exact ⟨_, h⟩
theorem HandAt.same {H H' : Hp} {p c : Addr} (h : HandAt H p c) (s : Same H H') : HandAt H' p c := by
  obtain ⟨cs, pos, big, seed, cnt, h1, h2, h3⟩ := h
  exact ⟨cs, pos, big, seed, cnt, s _ _ h1, s _ _ h2, h3⟩
theorem SX.free {p q c : Addr} {H H' : Hp} (s : SX p H H') (hp : HandAt H' p c) (h : H' q = none) : H q = none := by
  cases e : H q with
  | none => rfl
  | some o =>
    have n : q ≠ p := fun z => by
      obtain ⟨us, hu⟩ := hp.lst
      rw [z, hu] at h
      cases h
    rw [s q o n e] at h
    cases h
/-- what is laid and turned apart from the hand leaves it -/
theorem HandAt.apart {H H' : Hp} {p c : Addr} (h : HandAt H p c) (h1 : H' p = H p) (h2 : H' c = H c) : HandAt H' p c := by
  obtain ⟨cs, pos, big, seed, cnt, e1, e2, e3⟩ := h
  exact ⟨cs, pos, big, seed, cnt, h1.trans e1, h2.trans e2, e3⟩
theorem HandAt.cell {H : Hp} {p c : Addr} (h : HandAt H p c) : ∃ us, H c = some (.lst us) := by
  obtain ⟨cs, pos, big, seed, cnt, e1, e2, e3⟩ := h
  exact ⟨_, e2⟩
theorem SX.it {p c : Addr} {H H' : Hp} {v : V} {ns : List Int} (h : IT H v ns) (s : SX p H H') (hp : HandAt H p c) : IT H' v ns := by
  obtain ⟨a, e, q⟩ := h
  obtain ⟨us, hu⟩ := hp.lst
  exact ⟨a, e, s a _ (ne_of q hu (by intro z; cases z)) q⟩
theorem SX.its {p c : Addr} {H H' : Hp} {vs : List V} {nss : List (List Int)} (h : ITs H vs nss) (s : SX p H H') (hp : HandAt H p c) : ITs H' vs nss := Paired.mapP h fun _ _ z => s.it z hp
theorem SX.ips {p c : Addr} {H H' : Hp} {vs : List V} {ls : Ff.Lks} (h : IPs H vs ls) (s : SX p H H') (hp : HandAt H p c) : IPs H' vs ls := Paired.mapP h fun _ _ z => s.it z hp
section
variable {P : Program} {w : World} {K : PySem.W.Frag} {mg : Str → Option Value} {base : Heap} {C : Addr}
/-! ### _law_draw -/
def spDraw : Sp := fun vs H Q _ => ∃ (p c : Addr) (m : Int), vs = [.ref p, .int m] ∧ HandAt H p c ∧ 0 < m ∧ m < 1000000 ∧ ∀ H' (j : Int), 0 ≤ j → j < m → HandAt H' p c → SX p H H' → Q (.int j) H'
theorem ok_draw (B : Bt mg) (F : FunAt K mg "_law_draw" s_l_draw ["_law_hand_here", "_law_many"]) : Fn P w K mg base 1 "_law_draw" ["_law_hand_here", "_law_many"] spDraw := F.fn fun f fd F => by
  refine F.ok sc_l_draw (fun vs H Q E h => ?_) (fun cdv A outer s H vs Q E hr h => ?_)
  · obtain ⟨p, c, m, rfl, _⟩ := h
    rfl
  · obtain ⟨p, c, m, rfl, hh, m0, m1, q⟩ := h
    refine ⟨_, pss_cons (ps_cut (fun σ H' => ∃ y, σ = [some (.ref p), some (.int m), y, none, none] ∧ HandAt H' p c ∧ SX p H H')
        (ps_if (PW.pt (pw_and (pt_cmpR op_eq (pe_ix ix_list (pv 0) pe_int (fun _ _ => rfl)) pe_int (nomark _)) (pw_and1 (pt_cmpR op_lt (pe_ix ix_list (pv 0) pe_int (fun _ _ => rfl)) (pe_callB call_len_seq (by rfl) B.len bt_len (pa_cons (pe_ix ix_list (pv 0) pe_int (fun _ _ => rfl)) pa_nil)) (nomark _)))))
          (pss_cons (ps_set (i := 2) sc_l_draw.nd rfl (.inl rfl) (pe_ix ix_list (pe_ix ix_list (pv 0) pe_int (fun _ _ => rfl)) (pe_ix ix_list (pv 0) pe_int (fun _ _ => rfl)) (fun _ _ => rfl)))
          (pss_cons (ps_asg (pe_op op_add (pe_ix ix_list (pv 0) pe_int (fun _ _ => rfl)) pe_int) (pg_sub (pv 0) pe_int set_list))
          (pss_cons (ps_asg (pe_op op_mod (pe_callTy call_int1 (by rfl) B.int bt_int (pa_cons (pe_op op_add (pe_op op_add (pe_op op_mul (pe_ix ix_list (pv 0) pe_int (fun _ _ => rfl)) pe_int) (pv 2)) pe_int) pa_nil)) pe_int) (pg_sub (pv 0) pe_int set_list))
          (pss_one (ps_if (pt_cmpR op_ge (pv 2) (pe_op op_pow pe_int pe_int) (nomark _)) (pss_one (ps_asg (pv 2) (pg_sub (pv 0) pe_int set_list))) pss_nil))))) pss_nil))
      (pss_cons (ps_if (pt_cmpR op_gt (pe_ix ix_list (pv 0) pe_int (fun _ _ => rfl)) pe_int (nomark _))
        (pss_cons (ps_set (i := 3) sc_l_draw.nd rfl (.inl rfl) (pe_op op_mod (pe_callTy call_int1 (by rfl) B.int bt_int (pa_cons (pe_ix ix_list (pv 0) pe_int (fun _ _ => rfl)) pa_nil)) (pv 1)))
        (pss_cons (ps_asg (pe_op op_fdiv (pe_ix ix_list (pv 0) pe_int (fun _ _ => rfl)) (pv 1)) (pg_sub (pv 0) pe_int set_list))
        (pss_one (ps_ret (pv 3))))) pss_nil)
      (pss_cons (ps_asg (pe_op op_add (pe_ix ix_list (pv 0) pe_int (fun _ _ => rfl)) pe_int) (pg_sub (pv 0) pe_int set_list))
      (pss_cons (ps_set (i := 4) sc_l_draw.nd rfl (.inl rfl) (pe_op op_mod (pe_callTy call_int1 (by rfl) B.int bt_int (pa_cons (pe_op op_mul (pe_callTy call_int1 (by rfl) B.int bt_int (pa_cons (pe_op op_add (pe_ix ix_list (pv 0) pe_int (fun _ _ => rfl)) (pe_op op_mul pe_int (pe_ix ix_list (pv 0) pe_int (fun _ _ => rfl)))) pa_nil)) pe_int) pa_nil)) pe_int))
      (pss_cons (ps_set (i := 4) sc_l_draw.nd rfl (.inl rfl) (pe_op op_mod (pe_callTy call_int1 (by rfl) B.int bt_int (pa_cons (pe_op op_mul (pv 4) (pe_op op_add (pe_op op_fdiv (pv 4) pe_int) pe_int)) pa_nil)) pe_int))
      (pss_cons (ps_set (i := 4) sc_l_draw.nd rfl (.inl rfl) (pe_op op_mod (pe_callTy call_int1 (by rfl) B.int bt_int (pa_cons (pe_op op_mul (pv 4) (pe_op op_add (pe_op op_fdiv (pv 4) pe_int) pe_int)) pa_nil)) pe_int))
      (pss_one (ps_ret (pe_op op_mod (pe_callTy call_int1 (by rfl) B.int bt_int (pa_cons (pe_op op_fdiv (pv 4) pe_int) pa_nil)) (pv 1))))))))), ?_⟩
    obtain ⟨cs, pos, big, seed, cnt, h1, h2, h3⟩ := id hh
    refine ⟨?_, ?_⟩
    · refine ⟨_, rfl, p, _, 2, _, rfl, rfl, SqL.of h1, rfl, rfl, _, rfl, ?_⟩
      refine ite2 (fun c1 => ?_) (fun c1 => ⟨none, rfl, hh, SX.refl p H⟩)
      refine ⟨_, rfl, p, _, 1, _, rfl, rfl, SqL.of h1, rfl, ?_⟩
      refine ⟨_, rfl, p, _, 0, _, rfl, rfl, SqL.of h1, rfl, c, _, rfl, .inl (SqL.of h2), _, _, rfl, rfl, _, rfl, ?_⟩
      refine ite2 (fun c2 => ?_) (fun c2 => ⟨none, rfl, hh, SX.refl p H⟩)
      have lt : pos < cs.length := by
        have := of_decide_eq_true c2
        rw [List.length_map] at this
        omega
      have hv : (cs.map V.int)[pos]? = some (.int cs[pos]) := by
        rw [List.getElem?_map, List.getElem?_eq_getElem lt]
        rfl
      generalize cs[pos] = v at hv
      refine ⟨_, rfl, p, _, 0, _, rfl, rfl, SqL.of h1, rfl, ?_⟩
      refine ⟨_, rfl, p, _, 1, _, rfl, rfl, SqL.of h1, rfl, c, _, (pos : Nat), _, rfl, rfl, SqL.of h2, atI_nat hv, ?_⟩
      refine ⟨_, rfl, p, _, 1, _, rfl, rfl, SqL.of h1, rfl, (pos : Nat), 1, rfl, rfl, _, rfl, p, _, 1, 1, rfl, rfl, h1, rfl, ?_⟩
      have g1 : upd H p (.lst ((HandL c pos big seed cnt).set 1 (.int ((pos : Nat) + 1)))) p = some (.lst (HandL c (pos + 1) big seed cnt)) := by
        rw [upd_same]
        rfl
      have g2 : upd H p (.lst ((HandL c pos big seed cnt).set 1 (.int ((pos : Nat) + 1)))) c = some (.lst (cs.map V.int)) := by
        rw [upd_ne h3]
        exact h2
      have gs : SX p H (upd H p (.lst ((HandL c pos big seed cnt).set 1 (.int ((pos : Nat) + 1))))) := SX.put
      generalize upd H p (.lst ((HandL c pos big seed cnt).set 1 (.int ((pos : Nat) + 1)))) = H1 at *
      refine ⟨_, rfl, p, _, 3, _, rfl, rfl, SqL.of g1, rfl, seed, 69621, rfl, rfl, .inr ⟨by omega, by omega⟩, ?_⟩
      refine ⟨_, rfl, _, v, rfl, rfl, _, 11, rfl, rfl, .inl ⟨_, rfl, ?_⟩⟩
      refine ⟨_, 2147483629, rfl, rfl, by omega, _, rfl, p, _, 3, 3, rfl, rfl, g1, rfl, ?_⟩
      dsimp only
      generalize hz : (seed * 69621 + v + 11) % 2147483629 = z
      have e1 : upd H1 p (.lst ((HandL c (pos + 1) big seed cnt).set 3 (.int z))) p = some (.lst (HandL c (pos + 1) big z cnt)) := by
        rw [upd_same]
        rfl
      have e2 : upd H1 p (.lst ((HandL c (pos + 1) big seed cnt).set 3 (.int z))) c = some (.lst (cs.map V.int)) := by
        rw [upd_ne h3]
        exact g2
      have es : SX p H (upd H1 p (.lst ((HandL c (pos + 1) big seed cnt).set 3 (.int z)))) := gs.trans SX.put
      generalize upd H1 p (.lst ((HandL c (pos + 1) big seed cnt).set 3 (.int z))) = H2 at *
      refine ⟨_, rfl, 10, 18, rfl, rfl, ⟨by omega, by omega, by decide⟩, _, _, rfl, rfl, _, rfl, ?_⟩
      refine ite2 (fun c3 => ?_) (fun c3 => ⟨_, rfl, ⟨cs, pos + 1, big, z, cnt, e1, e2, h3⟩, es⟩)
      refine ⟨_, rfl, _, rfl, p, _, 2, 2, rfl, rfl, e1, rfl, ?_⟩
      refine ⟨_, rfl, ⟨cs, pos + 1, v, z, cnt, ?_, ?_, h3⟩, es.trans SX.put⟩
      · rw [upd_same]
        rfl
      · rw [upd_ne h3]
        exact e2
    · rintro σ H1 ⟨y, rfl, ⟨cs, pos, big, seed, cnt, h1, h2, h3⟩, s1⟩
      refine ⟨_, rfl, p, _, 2, _, rfl, rfl, SqL.of h1, rfl, _, _, rfl, rfl, _, rfl, ?_⟩
      refine ite2 (fun c1 => ?_) (fun c1 => ?_)
      · refine ⟨_, rfl, p, _, 2, _, rfl, rfl, SqL.of h1, rfl, .inl ⟨big, rfl, ?_⟩⟩
        refine ⟨_, rfl, big, m, rfl, rfl, m0, ?_⟩
        refine ⟨_, rfl, p, _, 2, _, rfl, rfl, SqL.of h1, rfl, ?_⟩
        refine ⟨_, rfl, big, m, rfl, rfl, ⟨m0, by omega⟩, _, rfl, p, _, 2, 2, rfl, rfl, h1, rfl, ?_⟩
        refine ⟨_, rfl, q _ _ (Int.emod_nonneg _ (by omega)) (Int.emod_lt_of_pos _ m0) ⟨cs, pos, big / m, seed, cnt, ?_, ?_, h3⟩ (s1.trans SX.put)⟩
        · rw [upd_same]
          rfl
        · rw [upd_ne h3]
          exact h2
      · refine ⟨_, rfl, p, _, 4, _, rfl, rfl, SqL.of h1, rfl, cnt, 1, rfl, rfl, _, rfl, p, _, 4, 4, rfl, rfl, h1, rfl, ?_⟩
        have g1 : upd H1 p (.lst ((HandL c pos big seed cnt).set 4 (.int (cnt + 1)))) p = some (.lst (HandL c pos big seed (cnt + 1))) := by
          rw [upd_same]
          rfl
        have g2 : upd H1 p (.lst ((HandL c pos big seed cnt).set 4 (.int (cnt + 1)))) c = some (.lst (cs.map V.int)) := by
          rw [upd_ne h3]
          exact h2
        have gs : SX p H (upd H1 p (.lst ((HandL c pos big seed cnt).set 4 (.int (cnt + 1))))) := s1.trans SX.put
        generalize upd H1 p (.lst ((HandL c pos big seed cnt).set 4 (.int (cnt + 1)))) = H2 at *
        refine ⟨_, rfl, p, _, 3, _, rfl, rfl, SqL.of g1, rfl, ?_⟩
        refine ⟨_, rfl, p, _, 4, _, rfl, rfl, SqL.of g1, rfl, 7919, cnt + 1, rfl, rfl, .inl ⟨by omega, by omega⟩, seed, _, rfl, rfl, .inl ⟨_, rfl, ?_⟩⟩
        refine ⟨_, 48271, rfl, rfl, .inr ⟨by omega, by omega⟩, .inl ⟨_, rfl, ?_⟩⟩
        refine ⟨_, 2147483647, rfl, rfl, by omega, ?_⟩
        dsimp only
        generalize hx : (seed + 7919 * (cnt + 1)) * 48271 % 2147483647 = x
        have x0 : 0 ≤ x := by omega
        have x1 : x < 2147483647 := by omega
        refine ⟨_, rfl, _, rfl, x, 1009, rfl, rfl, ⟨by omega, by omega⟩, _, 69621, rfl, rfl, x, _, rfl, rfl, .inl ⟨by omega, by omega⟩, .inl ⟨_, rfl, ?_⟩⟩
        refine ⟨_, 2147483647, rfl, rfl, by omega, ?_⟩
        dsimp only
        generalize hy : x * (x / 1009 + 69621) % 2147483647 = y2
        have y0 : 0 ≤ y2 := by rw [← hy]; exact Int.emod_nonneg _ (by omega)
        have y1 : y2 < 2147483647 := by rw [← hy]; exact Int.emod_lt_of_pos _ (by omega)
        refine ⟨_, rfl, _, rfl, y2, 2003, rfl, rfl, ⟨by omega, by omega⟩, _, 40692, rfl, rfl, y2, _, rfl, rfl, .inl ⟨by omega, by omega⟩, .inl ⟨_, rfl, ?_⟩⟩
        refine ⟨_, 2147483399, rfl, rfl, by omega, ?_⟩
        refine ⟨_, rfl, _, 16, rfl, rfl, ⟨by omega, by omega⟩, .inl ⟨_, rfl, ?_⟩⟩
        refine ⟨_, rfl, _, m, rfl, rfl, m0, ?_⟩
        exact q H2 _ (Int.emod_nonneg _ (by omega)) (Int.emod_lt_of_pos _ m0) ⟨cs, pos, big, seed, cnt + 1, g1, g2, h3⟩ gs
end
end Fw
end

section
set_option linter.all false
set_option maxRecDepth 100000
/-! The walk of the law: the hand laid, items drawn, items mixed. -/
namespace Fw
open PySem PySem.Spec PyProof.Rows L2
theorem cut_pre (xs : List V) (k : Nat) : cutV xs none (some (k : Int)) = xs.take k := by
  unfold cutV
  rw [HT.sIx_none, HT.sIx_nat, List.drop_zero, Nat.sub_zero]
  by_cases h : k ≤ xs.length
  · rw [Nat.min_eq_left h]
  · rw [Nat.min_eq_right (by omega), List.take_length, List.take_of_length_le (by omega)]
theorem cut_suf (xs : List V) (k : Nat) : cutV xs (some (k : Int)) none = xs.drop k := by
  unfold cutV
  rw [HT.sIx_none, HT.sIx_nat]
  by_cases h : k ≤ xs.length
  · rw [Nat.min_eq_left h, List.take_of_length_le]
    rw [List.length_drop]
    exact Nat.le_refl _
  · rw [Nat.min_eq_right (by omega), List.drop_length, List.drop_of_length_le (by omega), List.take_nil]
theorem ixN_at {n k : Nat} (h : k < n) : ixN n (k : Int) = some k := by
  unfold ixN
  rw [if_pos (by omega), if_pos (by omega), Int.toNat_natCast]
theorem erase_perm {α : Type} : ∀ {l : List α} {k : Nat} (h : k < l.length), (l[k] :: l.eraseIdx k).Perm l
  | x :: l, 0, _ => .refl _
  | x :: l, k + 1, h => by
    have h' : k < l.length := Nat.lt_of_succ_lt_succ h
    have ih := erase_perm h'
    show (l[k] :: x :: l.eraseIdx k).Perm (x :: l)
    exact (List.Perm.swap _ _ _).trans (ih.cons x)
section
variable {P : Program} {w : World} {K : PySem.W.Frag} {mg : Str → Option Value} {base : Heap} {C : Addr}
/-! ### _law_hand -/
def spHand (K : PySem.W.Frag) : Sp := fun vs H Q _ => ∃ (l : Addr) (ns : List Int), vs = [.ref l] ∧ SqL K H l (ns.map V.int) ∧ ∀ H' p c, Same H H' → H p = none → H c = none → HandAt H' p c → Q (.ref p) H'
theorem ok_hand (B : Bt mg) (F : FunAt K mg "_law_hand" s_l_hand ["_law_script"]) : Fn P w K mg base 1 "_law_hand" ["_law_script"] (spHand K) := F.fn fun f fd F => by
  refine F.ok sc_l_hand (fun vs H Q E h => ?_) (fun cdv A outer s H vs Q E hr h => ?_)
  · obtain ⟨l, ns, rfl, _⟩ := h
    rfl
  · obtain ⟨l, ns, rfl, hl, q⟩ := h
    refine ⟨_, pss_cons (ps_setLc (i := 1) (own := [("_law_cell", 2)]) (g := gName 2) (tt := tYes) (by rfl) sc_l_hand.nd rfl rfl (sw_true rfl rfl rfl (by decide +kernel)) (pi_list (pe_slice sl_list (pv 0) po_none (po_some pe_int)))
        (blkOk_by (N := N_l_hand) (sc := defScope s_l_hand) (by decide +kernel)) (fun _ _ _ _ _ => pg_name (i := 2) sc_l_hand.nd rfl (Or.inl rfl)) (fun _ _ _ _ _ => pts_nil)
        (fun _ _ _ _ _ => pe_callB call_abs (by rfl) B.abs bt_abs (pa_cons (pe_callTy call_int1 (by rfl) B.int bt_int (pa_cons (pv 2) pa_nil)) pa_nil)))
      (pss_one (ps_ret (pe_lst (pa_cons (pv 1) (pa_cons pe_int (pa_cons pe_int (pa_cons (pe_op op_add pe_int (pe_callB call_len_seq (by rfl) B.len bt_len (pa_cons (pv 1) pa_nil))) (pa_cons pe_int pa_nil)))))))), ?_⟩
    refine ⟨_, rfl, 63, rfl, l, _, rfl, hl, fun a na => ?_⟩
    rw [show (63 : Int) = ((63 : Nat) : Int) from rfl, cut_pre, ← List.map_take]
    have sA : Same H (upd H a (.lst ((ns.take 63).map V.int))) := new_same na _
    refine ⟨a, rfl, ⟨_, SqL.of upd_same⟩, fun D nD => ?_⟩
    refine lc_list (xs := (ns.take 63).map V.int) (fun i H' => Same (upd H a (.lst ((ns.take 63).map V.int))) H' ∧ ∃ cs : List Int, cs.length = i ∧ H' D = some (.lst (cs.map V.int))) ⟨new_same nD _, [], rfl, upd_same⟩ (fun i H' _ p => SqL.of (p.1 _ _ upd_same)) ?_ ?_
    · rintro i x H2 hx ⟨s2, cs, hc, hD⟩
      have hi := (List.getElem?_eq_some_iff.mp hx).1
      rw [List.length_map, List.length_take] at hi
      rw [List.getElem?_map] at hx
      obtain ⟨v, hv, rfl⟩ := Option.map_eq_some_iff.mp hx
      refine ⟨rfl, ?_⟩
      refine ⟨_, rfl, .inl ⟨v, rfl, v, rfl, _, hD, ?_, upd_sameN nD s2 _, cs ++ [if v < 0 then -v else v], ?_, ?_⟩⟩
      · rw [List.length_map]
        exact small1000 (by omega)
      · rw [List.length_append, List.length_singleton, hc]
      · rw [upd_same, List.map_append]
        rfl
    · rintro H2 ⟨s2, cs, hc, hD⟩
      refine ⟨_, rfl, _, rfl, D, _, rfl, .inl (SqL.of hD), 1, _, rfl, rfl, s1000 (by show 5 ≤ 1000; decide), fun p np => ?_⟩
      have nDp : D ≠ p := fun e => by
        rw [← e, hD] at np
        cases np
      have s02 : Same H H2 := sA.trans s2
      refine q _ p D (s02.trans (new_same np _)) (s02.free np) (sA.free nD) ⟨cs, 0, 0, _, 0, upd_same, ?_, nDp⟩
      rw [upd_ne nDp]
      exact hD
/-! ### _law_any, _law_mixed -/
def spAny : Sp := fun vs H Q _ => ∃ (p c a : Addr) (xs : List V), vs = [.ref p, .ref a] ∧ HandAt H p c ∧ a ≠ p ∧ H a = some (.lst xs) ∧ xs ≠ [] ∧ xs.length < 1000 ∧ ∀ H' x, x ∈ xs → HandAt H' p c → SX p H H' → Q x H'
theorem ok_any (B : Bt mg) (F : FunAt K mg "_law_any" s_l_any ["_law_hand_here", "_law_items"]) (G : Fn P w K mg base 1 "_law_draw" ["_law_hand_here", "_law_many"] spDraw) : Fn P w K mg base 2 "_law_any" ["_law_hand_here", "_law_items"] spAny := F.fn fun f fd F => by
  refine F.ok sc_l_any (fun vs H Q E h => ?_) (fun cdv A outer s H vs Q E hr h => ?_)
  · obtain ⟨p, c, a, xs, rfl, _⟩ := h
    rfl
  · obtain ⟨p, c, a, xs, rfl, hh, hap, ha, hne, hlt, q⟩ := h
    refine ⟨_, pss_one (ps_ret (pe_ix ix_list (pv 1) (pe_fn G hr (pa_cons (pv 0) (pa_cons (pe_callB call_len_seq (by rfl) B.len bt_len (pa_cons (pv 1) pa_nil)) pa_nil))) (fun _ _ => rfl))), ?_⟩
    have h0 := List.length_pos_iff.mpr hne
    refine ⟨_, rfl, _, rfl, _, rfl, a, _, rfl, .inl (SqL.of ha), p, c, _, rfl, hh, by omega, by omega, fun H' j j0 j1 hh' s' => ?_⟩
    obtain ⟨k, rfl⟩ := Int.eq_ofNat_of_zero_le j0
    have hk : k < xs.length := by omega
    refine ⟨a, xs, _, xs[k], rfl, rfl, SqL.of (s' _ _ hap ha), atI_nat (List.getElem?_eq_getElem hk), q H' _ (List.getElem_mem hk) hh' s'⟩
def spMixed : Sp := fun vs H Q _ => ∃ (p c a : Addr) (xs : List V), vs = [.ref p, .ref a] ∧ HandAt H p c ∧ a ≠ p ∧ H a = some (.lst xs) ∧ xs.length < 1000 ∧ ∀ H' l ys, ys.Perm xs → HandAt H' p c → SX p H H' → H l = none → H' l = some (.lst ys) → Q (.ref l) H'
theorem ok_mixed (B : Bt mg) (F : FunAt K mg "_law_mixed" s_l_mixed ["_law_hand_here", "_law_items"]) (G : Fn P w K mg base 1 "_law_draw" ["_law_hand_here", "_law_many"] spDraw) : Fn P w K mg base 2 "_law_mixed" ["_law_hand_here", "_law_items"] spMixed := F.fn fun f fd F => by
  refine F.ok sc_l_mixed (fun vs H Q E h => ?_) (fun cdv A outer s H vs Q E hr h => ?_)
  · obtain ⟨p, c, a, xs, rfl, _⟩ := h
    rfl
  · obtain ⟨p, c, a, xs, rfl, hh, hap, ha, hlt, q⟩ := h
    refine ⟨_, pss_cons (ps_par (i := 2) (j := 3) (by rfl) sc_l_mixed.nd rfl rfl (by decide) rfl rfl (pa_cons (pe_callTy call_list_of (by rfl) B.list bt_list (pa_cons (pv 1) pa_nil)) (pa_cons (pe_lst pa_nil) pa_nil)) (by rfl))
      (pss_cons (ps_for PassesOwn.never rfl (pi_range1 (by rfl) B.range (pa_cons (pe_callB call_len_seq (by rfl) B.len bt_len (pa_cons (pv 2) pa_nil)) pa_nil)) (pg_name (i := 4) sc_l_mixed.nd rfl (.inl rfl))
        (pss_one (ps_app (pv 3) (pe_bm PySem.F.plainAttrs_list PySem.F.slot_list_pop PySem.F.type_list_pop mt_popAt (pv 2) (pa_cons (pe_fn G hr (pa_cons (pv 0) (pa_cons (pe_callB call_len_seq (by rfl) B.len bt_len (pa_cons (pv 2) pa_nil)) pa_nil))) pa_nil)))))
      (pss_one (ps_ret (pv 3)))), ?_⟩
    obtain ⟨us0, hp⟩ := hh.lst
    obtain ⟨us1, hc⟩ := hh.cell
    refine ⟨_, rfl, a, xs, rfl, .inl (SqL.of ha), fun l nl => ⟨Nat.zero_le _, fun o no => ⟨_, _, rfl, ?_⟩⟩⟩
    have sL : Same H (upd H l (.lst xs)) := new_same nl _
    have sO := sL.trans (new_same no (.lst []))
    have nlo : l ≠ o := fun e => by
      rw [← e, upd_same] at no
      cases no
    have nlp : l ≠ p := fun e => by
      rw [e, hp] at nl
      cases nl
    have noH : H o = none := sL.free no
    have nop : o ≠ p := fun e => by
      rw [e, hp] at noH
      cases noH
    refine ⟨_, rfl, l, xs, rfl, .inl (SqL.of ((new_same no (.lst [])) _ _ upd_same)), _, rfl, by omega, by omega, ?_⟩
    rw [Int.toNat_natCast]
    refine for_range (fun i σ H' => ∃ y, σ = [some (.ref p), some (.ref a), some (.ref l), some (.ref o), y] ∧ HandAt H' p c ∧ SX p H H' ∧ ∃ left found, H' l = some (.lst left) ∧ H' o = some (.lst found) ∧ (found ++ left).Perm xs ∧ found.length = i)
      ⟨none, rfl, hh.same sO, .of sO, xs, [], (new_same no (.lst [])) _ _ upd_same, upd_same, .refl _, rfl⟩ ?_ ?_
    · rintro i σ H1 hi ⟨y, rfl, hh1, s1, left, found, hl, ho, hpm, hfl⟩
      have hlen := hpm.length_eq
      rw [List.length_append] at hlen
      refine ⟨_, rfl, tyL ho, _, rfl, tyL hl, ?_⟩
      refine ⟨_, rfl, _, rfl, l, _, rfl, .inl (SqL.of hl), p, c, _, rfl, hh1, by omega, by omega, fun H2 j j0 j1 hh2 s2 => ?_⟩
      obtain ⟨k, rfl⟩ := Int.eq_ofNat_of_zero_le j0
      have hk : k < left.length := by omega
      have hl2 := s2 _ _ nlp hl
      have ho2 := s2 _ _ nop ho
      refine ⟨l, left, _, k, left[k], rfl, rfl, hl2, by omega, by omega, ?_, List.getElem?_eq_getElem hk, ?_⟩
      · exact (ixN_seq (ixN_at hk)).1
      refine ⟨o, found, left[k], rfl, rfl, ?_, ?_, ?_⟩
      · rw [upd_ne (Ne.symm nlo)]
        exact ho2
      · exact small1000 (by omega)
      · refine ⟨_, rfl, hh2.apart ?_ ?_, ?_, left.eraseIdx k, found ++ [left[k]], ?_, upd_same, ?_, ?_⟩
        · rw [upd_ne (Ne.symm nop), upd_ne (Ne.symm nlp)]
        · rw [upd_ne (ne_of_none hc noH), upd_ne (ne_of_none hc nl)]
        · intro b u n e
          rw [upd_ne (ne_of_none e noH), upd_ne (ne_of_none e nl)]
          exact s2 _ _ n (s1 _ _ n e)
        · rw [upd_ne nlo, upd_same]
        · refine List.Perm.trans ?_ hpm
          rw [List.append_assoc]
          refine List.Perm.append_left _ ?_
          exact erase_perm hk
        · rw [List.length_append, List.length_singleton, hfl]
    · rintro σ H1 ⟨y, rfl, hh1, s1, left, found, hl, ho, hpm, hfl⟩
      have hlen := hpm.length_eq
      rw [List.length_append] at hlen
      have e : left = [] := List.length_eq_zero_iff.mp (by omega)
      subst e
      rw [List.append_nil] at hpm
      exact ⟨_, rfl, q H1 o found hpm hh1 s1 noH ho⟩
end
end Fw
end

section
set_option linter.all false
set_option maxRecDepth 100000
/-! The walk of the law: small checks. -/
namespace Fw
open PySem PySem.Spec PyProof.Rows L2
section
variable {P : Program} {w : World} {K : PySem.W.Frag} {mg : Str → Option Value} {base : Heap} {C : Addr}
/-! ### _law_int, _law_is -/
def spLInt : Sp := fun vs H Q _ => ∃ i lo hi : Int, vs = [.int i, .int lo, .int hi] ∧ Q (.bl (decide (lo ≤ i) && decide (i ≤ hi))) H
theorem ok_l_int (B : Bt mg) (F : FunAt K mg "_law_int" s_l_int ["_law_thing", "_law_low", "_law_high"]) : Fn P w K mg base 1 "_law_int" ["_law_thing", "_law_low", "_law_high"] spLInt := F.fn fun f fd F => by
  refine F.ok sc_l_int (fun vs H Q E h => ?_) (fun cdv A outer s H vs Q E hr h => ?_)
  · obtain ⟨i, lo, hi, rfl, _⟩ := h
    rfl
  · obtain ⟨i, lo, hi, rfl, q⟩ := h
    refine ⟨_, pss_one (ps_ret (pe_and (pe_callB call_is (by rfl) B.isinstance bt_isinstance (pa_cons (pv 0) (pa_cons (pe_bltn (v := .ty "int") (by rfl) B.int bt_int rfl) pa_nil)))
      (pe_and (pe_not (pe_callB call_is (by rfl) B.isinstance bt_isinstance (pa_cons (pv 0) (pa_cons (pe_bltn (v := .ty "bool") (by rfl) B.bool bt_bool rfl) pa_nil))))
      (pe_one (pe_chain op_le op_le (pv 1) (pv 0) (pv 2)))))), ?_⟩
    refine ⟨_, rfl, _, "int", "int", true, rfl, .base (.int _), (by decide +kernel), _, rfl, iteT ?_⟩
    refine ⟨_, rfl, _, "bool", "int", false, rfl, .base (.int _), (by decide +kernel), _, rfl, _, rfl, iteT ?_⟩
    refine ⟨_, rfl, _, rfl, lo, i, rfl, rfl, _, rfl, ite2 (fun c => ?_) (fun c => ?_)⟩
    · refine ⟨_, rfl, i, hi, rfl, rfl, ?_⟩
      rw [c, Bool.true_and] at q
      exact q
    · rw [Bool.eq_false_iff.mpr c, Bool.false_and] at q
      exact q
def spLIs : Sp := fun vs H Q _ => ∃ i j : Int, vs = [.int i, .int j] ∧ ∀ H', Same H H' → Q (.bl (decide (i = j))) H'
theorem ok_l_is (B : Bt mg) (F : FunAt K mg "_law_is" s_l_is ["_law_given", "_law_due"]) : Fn P w K mg base 1 "_law_is" ["_law_given", "_law_due"] spLIs := F.fn fun f fd F => by
  refine F.ok sc_l_is (fun vs H Q E h => ?_) (fun cdv A outer s H vs Q E hr h => ?_)
  · obtain ⟨i, j, rfl, _⟩ := h
    rfl
  · obtain ⟨i, j, rfl, q⟩ := h
    refine ⟨_, pss_cons (ps_if (pt_val (pe_callB call_isiT (by rfl) B.isinstance bt_isinstance (pa_cons (pv 1) (pa_cons (pe_tup (pa_cons (pe_bltn (v := .ty "tuple") (by rfl) B.tuple bt_tuple rfl) (pa_cons (pe_bltn (v := .ty "list") (by rfl) B.list bt_list rfl) pa_nil))) pa_nil))))
        (pss_cons ps_never (pss_one ps_never)) pss_nil)
      (pss_one (ps_ret (pe_and (pe_cmpR op_eq (pe_callB call_is (by rfl) B.isinstance bt_isinstance (pa_cons (pv 0) (pa_cons (pe_bltn (v := .ty "bool") (by rfl) B.bool bt_bool rfl) pa_nil)))
        (pe_callB call_is (by rfl) B.isinstance bt_isinstance (pa_cons (pv 1) (pa_cons (pe_bltn (v := .ty "bool") (by rfl) B.bool bt_bool rfl) pa_nil))) (nomark _)) (pe_one (pe_cmpR op_eq (pv 0) (pv 1) (nomark _)))))), ?_⟩
    refine ⟨_, rfl, s1000 (by show 2 ≤ 1000; decide), fun t nt => ?_⟩
    refine ⟨_, t, _, .type "int", [.type "tuple", .type "list"], false, rfl, upd_same, .cons (.ty "tuple") (.cons (.ty "list") .nil), .base (.int _), ?_, _, rfl, iteF ?_⟩
    · refine kitAny_cons (b := false) (kit_ty (by decide +kernel)) (fun _ => kitAny_cons (b := false) (kit_ty (by decide +kernel)) (fun _ => rfl) (fun z => by cases z)) (fun z => by cases z)
    refine ⟨_, rfl, _, "bool", "int", false, rfl, .base (.int _), (by decide +kernel), _, rfl, _, "bool", "int", false, rfl, .base (.int _), (by decide +kernel), rfl, _, rfl, ?_⟩
    refine iteY (decide_eq_true rfl) ?_
    refine ⟨_, rfl, _, rfl, rfl, ?_⟩
    have e : decide (V.int i = V.int j) = decide (i = j) := decide_eq_decide.mpr ⟨V.int.inj, fun z => by rw [z]⟩
    rw [e]
    exact q _ (new_same nt _)
/-! ### _law_flat, _law_are_apart -/
def spFlat : Sp := fun vs H Q _ => ∃ (t : Addr) (us : List V) (L : List (List Int)), vs = [.ref t] ∧ H t = some (.tup us) ∧ ITs H us L ∧ L.flatten.length ≤ 1000 ∧ ∀ H' p, Same H H' → H p = none → H' p = some (.lst (L.flatten.map V.int)) → Q (.ref p) H'
theorem ok_flat (B : Bt mg) (F : FunAt K mg "_law_flat" s_l_flat ["_law_rows"]) : Fn P w K mg base 1 "_law_flat" ["_law_rows"] spFlat := F.fn fun f fd F => by
  refine F.ok sc_l_flat (fun vs H Q E h => ?_) (fun cdv A outer s H vs Q E hr h => ?_)
  · obtain ⟨t, us, L, rfl, _⟩ := h
    rfl
  · obtain ⟨t, us, L, rfl, ht, hus, hl, q⟩ := h
    refine ⟨_, pss_cons (ps_set (i := 1) sc_l_flat.nd rfl (.inl rfl) (pe_lst pa_nil))
      (pss_cons (ps_for PassesOwn.never rfl (pi_tup (pv 0)) (pg_name (i := 2) sc_l_flat.nd rfl (.inl rfl)) (pss_one (ps_ext (pv 1) (pe_callTy call_list_of (by rfl) B.list bt_list (pa_cons (pv 2) pa_nil)))))
      (pss_one (ps_ret (pv 1)))), ?_⟩
    refine ⟨Nat.zero_le _, fun o no => ?_⟩
    have sO : Same H (upd H o (.lst [])) := new_same no _
    refine ⟨_, rfl, t, rfl, ⟨_, SqT.of (sO _ _ ht)⟩, for_tup (xs := us) (fun i σ H' => ∃ y, σ = [some (.ref t), some (.ref o), y] ∧ Same H H' ∧ H' o = some (.lst ((L.take i).flatten.map V.int))) ⟨none, rfl, sO, upd_same⟩ (fun i σ H' _ ⟨_, _, sm, _⟩ => SqT.of (sm _ _ ht)) ?_ ?_⟩
    · rintro i x σ H1 hx ⟨y, rfl, s1, ho⟩
      obtain ⟨S, hS, hxS⟩ := Paired.at hus hx
      obtain ⟨a, rfl, ha⟩ := hxS.same s1
      have e1 := flat_take hS
      have e2 := flat_take_le L (i + 1)
      rw [e1, List.length_append] at e2
      refine ⟨_, rfl, tyL ho, _, rfl, a, _, rfl, .inr (SqT.of ha), fun l nl => ?_⟩
      have sL : Same H1 (upd H1 l (.lst (S.map V.int))) := new_same nl _
      refine ⟨o, l, _, _, rfl, rfl, sL _ _ ho, upd_same, ?_, _, rfl, upd_sameN no (s1.trans sL) _, ?_⟩
      · rw [List.length_map, List.length_map]
        exact s1000 (by omega)
      · rw [upd_same, e1, List.map_append]
    · rintro σ H1 ⟨y, rfl, s1, ho⟩
      rw [Paired.length hus, List.take_length] at ho
      exact ⟨_, rfl, q H1 o s1 no ho⟩
theorem ok_l_are_apart (B : Bt mg) (F : FunAt K mg "_law_are_apart" s_l_are_apart ["_law_lots"]) (G : Fn P w K mg base 1 "_law_flat" ["_law_rows"] spFlat) : Fn P w K mg base 2 "_law_are_apart" ["_law_lots"] spAreApart := F.fn fun f fd F => by
  refine F.ok sc_l_are_apart (fun vs H Q E h => ?_) (fun cdv A outer s H vs Q E hr h => ?_)
  · obtain ⟨t, us, L, rfl, _⟩ := h
    rfl
  · obtain ⟨t, us, L, rfl, ht, hus, hn, hl, q⟩ := h
    refine ⟨_, pss_cons (ps_set (i := 1) sc_l_are_apart.nd rfl (.inl rfl) (pe_fn G hr (pa_cons (pv 0) pa_nil)))
      (pss_one (ps_ret (pe_cmpR op_eq (RZ.pe_lenSetI (by rfl) B.len (by rfl) B.set (pv 1)) (pe_callB call_len_seq (by rfl) B.len bt_len (pa_cons (pv 1) pa_nil)) (nomark _)))), ?_⟩
    refine ⟨_, rfl, t, us, L, rfl, ht, hus, hl, fun H1 o s1 no ho => ?_⟩
    refine ⟨_, rfl, o, L.flatten, rfl, SqL.of ho, hn, by omega, ?_⟩
    refine ⟨_, rfl, o, _, rfl, .inl (SqL.of ho), rfl, ?_⟩
    rw [List.length_map, decide_eq_true rfl]
    exact q H1 s1
/-! ### _law_is_lot, _law_is_side -/
def spLLot : Sp := fun vs H Q _ => ∃ (t : Addr) (m : Int) (ns : List Int), vs = [.ref t, .int m] ∧ H t = some (.tup (ns.map V.int)) ∧ Ff.Asc ns ∧ (∀ x, x ∈ ns → 0 ≤ x ∧ x < m) ∧ ns.length ≤ 500 ∧ ∀ H', Same H H' → Q (.bl true) H'
theorem ok_l_is_lot (B : Bt mg) (F : FunAt K mg "_law_is_lot" s_l_is_lot ["_law_thing", "_law_many"]) (G : Fn P w K mg base 1 "_law_int" ["_law_thing", "_law_low", "_law_high"] spLInt) : Fn P w K mg base 2 "_law_is_lot" ["_law_thing", "_law_many"] spLLot := F.fn fun f fd F => by
  refine F.ok sc_l_is_lot (fun vs H Q E h => ?_) (fun cdv A outer s H vs Q E hr h => ?_)
  · obtain ⟨t, m, ns, rfl, _⟩ := h
    rfl
  · obtain ⟨t, m, ns, rfl, ht, hA, hb, hl, q⟩ := h
    refine ⟨_, pss_cons (ps_if (PW.pt (pw_or (pt_not (pt_val (pe_callB call_is (by rfl) B.isinstance bt_isinstance (pa_cons (pv 0) (pa_cons (pe_bltn (v := .ty "tuple") (by rfl) B.tuple bt_tuple rfl) pa_nil)))))
        (pw_or1 (pt_not (pt_val (pe_callB (cr_all rfl) (by rfl) B.all bt_all (pa_cons (pe_lc (own := [("_law_one", 2)]) (g := gName 2) (tt := tYes) rfl sc_l_is_lot.nd (pi_tup (pv 0)) (blkOk_by (N := N_l_is_lot) (sc := defScope s_l_is_lot) (by decide +kernel))
          (fun _ _ _ _ _ => pg_name (i := 2) sc_l_is_lot.nd rfl (Or.inl rfl)) (fun _ _ _ _ _ => pts_nil) (fun _ _ _ _ _ => pe_fn G hr (pa_cons (pv 2) (pa_cons pe_int (pa_cons (pe_op op_sub (pv 1) pe_int) pa_nil))))) pa_nil))))))) (pss_one (ps_ret pe_bl)) pss_nil)
      (pss_one (ps_ret (pe_callB (cr_all rfl) (by rfl) B.all bt_all (pa_cons (pe_lc (own := [("_law_one", 2), ("_law_other", 3)]) (g := gTup K 2 (gCons (gName 2) (gCons (gName 3) gNil))) (tt := tYes) rfl sc_l_is_lot.nd
          (RZ.pi_zipA (by rfl) B.zip (pa_cons (pv 0) (pa_cons (pe_slice sl_tail (pv 0) (po_some pe_int) po_none) pa_nil))) (blkOk_by (N := N_l_is_lot) (sc := defScope s_l_is_lot) (by decide +kernel))
          (fun _ _ _ _ _ => pg_tup rfl (pgs_cons (pg_name (i := 2) sc_l_is_lot.nd rfl (Or.inl rfl)) (pgs_cons (pg_name (i := 3) sc_l_is_lot.nd rfl (Or.inl rfl)) pgs_nil))) (fun _ _ _ _ _ => pts_nil) (fun _ _ _ _ _ => pe_cmpR op_lt (pv 2) (pv 3) (nomark _))) pa_nil)))), ?_⟩
    refine ⟨_, rfl, _, "tuple", "tuple", true, rfl, .base (.tup ht), (by decide +kernel), _, rfl, ?_⟩
    refine ⟨_, rfl, t, rfl, ⟨_, SqT.of ht⟩, fun D nD => ?_⟩
    refine lc_tup (xs := ns.map V.int) (fun i H' => Same H H' ∧ H' D = some (.lst ((List.replicate i true).map V.bl))) ⟨new_same nD _, upd_same⟩ (fun i H' _ p => SqT.of (p.1 _ _ ht)) ?_ ?_
    · rintro i x H2 hx ⟨s2, hD⟩
      have hi := (List.getElem?_eq_some_iff.mp hx).1
      rw [List.length_map] at hi
      rw [List.getElem?_map] at hx
      obtain ⟨v, hv, rfl⟩ := Option.map_eq_some_iff.mp hx
      obtain ⟨v0, v1⟩ := hb v (List.mem_of_getElem? hv)
      refine ⟨rfl, ?_⟩
      refine ⟨_, rfl, _, rfl, _, _, rfl, rfl, v, 0, m - 1, rfl, _, hD, ?_, upd_sameN nD s2 _, ?_⟩
      · rw [List.length_map, List.length_replicate]
        exact small1000 (by omega)
      · rw [upd_same, decide_eq_true v0, decide_eq_true (show v ≤ m - 1 by omega), Bool.and_self, rep_snoc]
    rintro H1 ⟨s1, hD⟩
    refine ⟨D, _, rfl, SqL.of hD, _, rfl, iteN (all_rep _) ?_⟩
    refine ⟨_, rfl, _, rfl, 1, rfl, t, _, rfl, s1 _ _ ht, rfl, rfl, fun H3 b s3 hb3 => ?_⟩
    have s13 := s1.trans s3
    refine ⟨t, b, _, _, rfl, .inr ⟨SqT.of (s13 _ _ ht), SqT.of hb3, fun D3 nD3 => ?_⟩⟩
    refine lc_zipNext (xs := ns.map V.int) (ys := (ns.map V.int).drop 1) (by rw [List.length_drop]; omega) (fun i H' => Same H3 H' ∧ H' D3 = some (.lst ((List.replicate i true).map V.bl))) ⟨new_same nD3 _, upd_same⟩ (fun i H' p => ⟨SqT.of (p.1 _ _ (s13 _ _ ht)), SqT.of (p.1 _ _ hb3)⟩) ?_ ?_
    · rintro i x y U H4 hx hy ⟨s4, hD3⟩ nU
      have hi := (List.getElem?_eq_some_iff.mp hx).1
      rw [List.length_map] at hi
      rw [List.getElem?_drop, List.getElem?_map] at hy
      rw [List.getElem?_map] at hx
      obtain ⟨v1, hv1, rfl⟩ := Option.map_eq_some_iff.mp hx
      obtain ⟨v2, hv2, rfl⟩ := Option.map_eq_some_iff.mp hy
      have sU : Same H4 (upd H4 U (.tup [.int v1, .int v2])) := new_same nU _
      obtain ⟨i1, e1⟩ := List.getElem?_eq_some_iff.mp hv1
      obtain ⟨i2, e2⟩ := List.getElem?_eq_some_iff.mp hv2
      have lt : v1 < v2 := by
        rw [← e1, ← e2]
        exact List.pairwise_iff_getElem.mp hA i (1 + i) i1 i2 (by omega)
      refine ⟨U, _, rfl, SqT.of upd_same, rfl, _, _, rfl, _, _, rfl, rfl, rfl, ?_⟩
      refine ⟨_, rfl, _, rfl, v1, v2, rfl, rfl, _, sU _ _ hD3, ?_, upd_sameN nD3 (s4.trans sU) _, ?_⟩
      · rw [List.length_map, List.length_replicate]
        exact small1000 (by omega)
      · rw [upd_same]
        dsimp only
        rw [decide_eq_true lt, rep_snoc]
    · rintro H4 ⟨s4, hD3⟩
      refine ⟨D3, _, rfl, SqL.of hD3, ?_⟩
      rw [all_rep]
      exact q H4 (s13.trans s4)
/-- the law's net: many, root, links -/
def LNetAt (H : Hp) (a : Addr) (n : Nat) (r : Int) (ls : Ff.Lks) : Prop := ∃ t, H a = some (.tup [.int (n : Nat), .int r, .ref t]) ∧ LksAt H t ls
theorem LNetAt.same {H H' : Hp} {a : Addr} {n : Nat} {r : Int} {ls : Ff.Lks} (h : LNetAt H a n r ls) (s : Same H H') : LNetAt H' a n r ls := by
  obtain ⟨t, e, l⟩ := h
  exact ⟨t, s _ _ e, l.same s⟩
def spLSide : Sp := fun vs H Q _ => ∃ (a t : Addr) (n : Nat) (r : Int) (ls : Ff.Lks) (S : List Int), vs = [.ref a, .ref t] ∧ LNetAt H a n r ls ∧ H t = some (.tup (S.map V.int)) ∧ Ff.Side n r S ∧ n ≤ 6 ∧ ∀ H', Same H H' → Q (.bl true) H'
theorem ok_l_is_side (F : FunAt K mg "_law_is_side" s_l_is_side ["_law_net_here", "_law_thing"]) (G : Fn P w K mg base 2 "_law_is_lot" ["_law_thing", "_law_many"] spLLot) : Fn P w K mg base 3 "_law_is_side" ["_law_net_here", "_law_thing"] spLSide := F.fn fun f fd F => by
  refine F.ok sc_l_is_side (fun vs H Q E h => ?_) (fun cdv A outer s H vs Q E hr h => ?_)
  · obtain ⟨a, t, n, r, ls, S, rfl, _⟩ := h
    rfl
  · obtain ⟨a, t, n, r, ls, S, rfl, ⟨tl, ha, hl⟩, ht, hS, hn, q⟩ := h
    refine ⟨_, pss_one (ps_ret (pe_and (pe_fn G hr (pa_cons (pv 1) (pa_cons (pe_ix ix_tup (pv 0) pe_int (fun _ _ => rfl)) pa_nil)))
      (pe_and (pe_cmpR (op_neD hr.units) (pv 1) (pe_tup pa_nil) (nomark _)) (pe_one (pe_cmpR op_notIn_seq (pe_ix ix_tup (pv 0) pe_int (fun _ _ => rfl)) (pv 1) rfl))))), ?_⟩
    have hSl := side_len hS
    refine ⟨_, rfl, _, rfl, a, _, 0, _, rfl, rfl, SqT.of ha, atI_nat (j := 0) rfl, t, n, S, rfl, ht, hS.asc, fun x hx => ?_, by omega, fun H1 s1 => ⟨_, rfl, iteT ?_⟩⟩
    · have := Ff.mem_pls.mp (hS.sub x hx)
      omega
    refine ⟨_, rfl, Nat.zero_le _, fun e ne => ?_⟩
    have sE : Same H1 (upd H1 e (.tup [])) := new_same ne _
    have s2 := s1.trans sE
    refine ⟨pdI S, pdI [], dp_it ⟨t, rfl, s2 _ _ ht⟩, dp_it ⟨e, rfl, upd_same⟩, shaped_it _, shaped_it _, _, rfl, ?_⟩
    rw [eqv_it, decide_eq_false hS.ne]
    refine iteT ?_
    refine ⟨_, rfl, a, _, 1, _, rfl, rfl, SqT.of (s2 _ _ ha), atI_nat (j := 1) rfl, _, rfl, t, _, rfl, .inr (SqT.of (s2 _ _ ht)), rfl, flat_ints S, ?_⟩
    rw [inV_int, decide_eq_false (Ff.side_root hS)]
    exact q _ s2
end
end Fw
end

section
set_option linter.all false
set_option maxRecDepth 100000
/-! The walk of the law: sides, entering links, weights, lacks and pairs that are some. -/
namespace Fw
open PySem PySem.Spec PyProof.Rows L2
section
variable {X : Cx}
/-- t + u -/
def rCatS : R2 := fun x y H Q => ∃ a b xs ys, x = .ref a ∧ y = .ref b ∧ H a = some (.tup xs) ∧ H b = some (.tup ys) ∧ xs.length + ys.length ≤ sizeLine ∧ ∀ H' p, Same H H' → H' p = some (.tup (xs ++ ys)) → Q (.ref p) H'
theorem op_catS : OpR X (binaryOp .Add) rCatS := by
  intro pins s σ H x y v u Q I rx ry h
  obtain ⟨a, b, xs, ys, rfl, rfl, ha, hb, hz, q⟩ := h
  refine op_catA pins s σ H _ _ v u Q I rx ry ⟨a, b, xs, ys, rfl, rfl, SqT.of ha, SqT.of hb, hz, fun e => q H b (Same.refl H) ?_, fun _ e => q H a (Same.refl H) ?_, fun _ _ p np => q _ p (new_same np _) upd_same⟩
  · rw [e, List.nil_append]
    exact hb
  · rw [e, List.append_nil]
    exact ha
end
theorem sidesOf_snoc (ps : List Int) (p : Int) : Ff.sidesOf (ps ++ [p]) = Ff.sidesOf ps ++ (Ff.sidesOf ps).map fun S => S ++ [p] := by
  unfold Ff.sidesOf
  rw [List.foldl_append]
  rfl
theorem sidesOf_len : ∀ k (ps : List Int), ps.length = k → (Ff.sidesOf ps).length = 2 ^ k := by
  intro k
  induction k with
  | zero =>
    intro ps h
    rw [List.length_eq_zero_iff.mp h]
    rfl
  | succ k ih =>
    intro ps h
    have hne : ps ≠ [] := fun e => by rw [e] at h; cases h
    have e := List.dropLast_concat_getLast hne
    rw [← e, sidesOf_snoc, List.length_append, List.length_map, ih ps.dropLast (by rw [List.length_dropLast]; omega), Nat.pow_succ]
    omega
theorem sidesOf_few {n : Nat} {r : Int} (h : n ≤ 6) : (Ff.sidesOf (Ff.pls n r)).length ≤ 64 := by
  rw [sidesOf_len _ _ rfl]
  exact Nat.pow_le_pow_right (by decide) (Nat.le_trans (pls_len n r) h)
theorem sidesOf_each {n : Nat} {r : Int} {S : List Int} (h : S ∈ Ff.sidesOf (Ff.pls n r)) : S.length ≤ n := by
  obtain ⟨T, e, hT⟩ := Ff.sidesOf_ok (Ff.asc_pls n r) _ (Nat.le_refl _)
  rw [List.take_length] at e hT
  rw [e] at h
  rcases List.mem_cons.mp h with z | z
  · rw [z]
    exact Nat.zero_le _
  · obtain ⟨h1, h2, h3⟩ := hT S z
    exact side_len ⟨h1, h2, h3⟩
/-- the law's sides -/
def lsides (n : Nat) (r : Int) : List (List Int) := (Ff.sidesOf (Ff.pls n r)).drop 1
section
variable {P : Program} {w : World} {K : PySem.W.Frag} {mg : Str → Option Value} {base : Heap} {C : Addr}
def spLSides : Sp := fun vs H Q _ => ∃ (a : Addr) (n : Nat) (r : Int) (ls : Ff.Lks), vs = [.ref a] ∧ LNetAt H a n r ls ∧ n ≤ 6 ∧ ∀ H' p us, Same H H' → H p = none → H' p = some (.lst us) → ITs H' us (lsides n r) → Q (.ref p) H'
theorem ok_l_sides (B : Bt mg) (F : FunAt K mg "_law_sides" s_l_sides ["_law_net_here"]) : Fn P w K mg base 1 "_law_sides" ["_law_net_here"] spLSides := F.fn fun f fd F => by
  refine F.ok sc_l_sides (fun vs H Q E h => ?_) (fun cdv A outer s H vs Q E hr h => ?_)
  · obtain ⟨a, n, r, ls, rfl, _⟩ := h
    rfl
  · obtain ⟨a, n, r, ls, rfl, ⟨tl, ha, hl⟩, hn, q⟩ := h
    refine ⟨_, pss_cons (ps_set (i := 1) sc_l_sides.nd rfl (.inl rfl) (pe_lst (pa_cons (pe_tup pa_nil) pa_nil)))
      (pss_cons (ps_for PassesOwn.never rfl (pi_range1 (by rfl) B.range (pa_cons (pe_ix ix_tup (pv 0) pe_int (fun _ _ => rfl)) pa_nil)) (pg_name (i := 2) sc_l_sides.nd rfl (.inr rfl))
        (pss_one (ps_if (pt_cmpR op_ne (pv 2) (pe_ix ix_tup (pv 0) pe_int (fun _ _ => rfl)) (nomark _))
          (pss_one (ps_set (i := 1) sc_l_sides.nd rfl (.inl rfl) (pe_op op_cat (pv 1) (pe_lc (own := [("_law_side", 3)]) (g := gName 3) (tt := tYes) (te := tOp rCatS (tVar 3) (tTup (tCons (tVar 2) tNil))) rfl sc_l_sides.nd (pi_list (pv 1)) (blkOk_by (N := N_l_sides) (sc := defScope s_l_sides) (by decide +kernel))
            (fun _ _ _ _ _ => pg_name (i := 3) sc_l_sides.nd rfl (Or.inl rfl)) (fun _ _ _ _ _ => pts_nil) (fun _ _ _ _ _ => pe_op op_catS (pv 3) (pe_tup (pa_cons (pv 2) pa_nil))))))) pss_nil)))
      (pss_one (ps_ret (pe_slice sl_list (pv 1) (po_some pe_int) po_none)))), ?_⟩
    refine ⟨Nat.zero_le _, fun e ne => ⟨s1000 (by show 1 ≤ 1000; decide), fun o no => ?_⟩⟩
    have sE : Same H (upd H e (.tup [])) := new_same ne _
    have sO := sE.trans (new_same no (.lst [.ref e]))
    refine ⟨_, rfl, a, _, 0, _, rfl, rfl, SqT.of (sO _ _ ha), atI_nat (j := 0) rfl, n, rfl, by omega, by omega, ?_⟩
    rw [Int.toNat_natCast]
    refine for_range (fun i σ H' => ∃ y o us, σ = [some (.ref a), some (.ref o), y, none] ∧ Same H H' ∧ H o = none ∧ H' o = some (.lst us) ∧ ITs H' us (Ff.sidesOf (Ff.pls i r)))
      ⟨none, o, [.ref e], rfl, sO, sE.free no, upd_same, Paired.one ⟨e, rfl, (new_same no (.lst [.ref e])) _ _ upd_same⟩⟩ ?_ ?_
    · rintro i σ H1 hi ⟨y, o, us, rfl, s1, no, ho, hus⟩
      rw [Int.zero_add]
      refine ⟨_, rfl, _, rfl, a, _, 1, _, rfl, rfl, SqT.of (s1 _ _ ha), atI_nat (j := 1) rfl, rfl, _, rfl, ?_⟩
      have few := sidesOf_few (n := i) (r := r) (by omega)
      have hul : us.length = (Ff.sidesOf (Ff.pls i r)).length := Paired.length hus
      rw [pls_succ]
      refine ite2 (fun c => ?_) (fun c => ?_)
      · have hir : ¬ (i : Int) = r := fun e => by
          subst e
          simp at c
        rw [if_neg hir, sidesOf_snoc]
        refine ⟨_, rfl, _, rfl, o, rfl, ⟨_, SqL.of ho⟩, fun D nD => ?_⟩
        refine lc_list (xs := us) (fun j H' => Same H1 H' ∧ ∃ acc, H' D = some (.lst acc) ∧ ITs H' acc (((Ff.sidesOf (Ff.pls i r)).take j).map fun S => S ++ [(i : Int)])) ⟨new_same nD _, [], upd_same, .nil⟩ (fun j H' _ p => SqL.of (p.1 _ _ ho)) ?_ ?_
        · rintro j x H2 hx ⟨s2, acc, hD, hacc⟩
          obtain ⟨S, hS, hxS⟩ := Paired.at hus hx
          obtain ⟨b, rfl, hb⟩ := hxS.same s2
          have hj := (List.getElem?_eq_some_iff.mp hx).1
          have hal := Paired.length hacc
          rw [List.length_map, List.length_take] at hal
          have hSl := sidesOf_each (List.mem_of_getElem? hS)
          refine ⟨rfl, ?_⟩
          refine ⟨_, rfl, _, rfl, s1000 (by show 1 ≤ 1000; decide), fun t nt => ?_⟩
          have sT : Same H2 (upd H2 t (.tup [.int (i : Int)])) := new_same nt _
          refine ⟨b, t, _, _, rfl, rfl, sT _ _ hb, upd_same, ?_, fun H3 q3 s3 h3 => ?_⟩
          · rw [List.length_map, List.length_singleton]
            exact s1000 (by omega)
          · have s23 := sT.trans s3
            refine ⟨acc, s23 _ _ hD, small1000 (by omega), upd_sameN nD (s2.trans s23) _, _, upd_same, ?_⟩
            rw [List.take_add_one, hS, Option.toList_some, List.map_append]
            refine ITs.put (Paired.app (ITs.same hacc s23) (Paired.one ⟨q3, rfl, ?_⟩)) (s23 _ _ hD)
            rw [h3, List.map_append]
            rfl
        · rintro H2 ⟨s2, acc, hD, hacc⟩
          rw [hul, List.take_length] at hacc
          have hal := Paired.length hacc
          rw [List.length_map] at hal
          refine ⟨o, D, us, acc, rfl, rfl, s2 _ _ ho, hD, s1000 (by omega), fun o2 no2 => ?_⟩
          have s3 := s2.trans (new_same no2 (.lst (us ++ acc)))
          refine ⟨_, o2, _, rfl, s1.trans s3, (s1.trans s2).free no2, upd_same, Paired.app (ITs.same hus s3) (ITs.same hacc (new_same no2 _))⟩
      · have hir : (i : Int) = r := Classical.not_not.mp fun e => c (by
          show (!decide (V.int (i : Int) = V.int r)) = true
          rw [decide_eq_false fun z => e (V.int.inj z)]
          rfl)
        rw [if_pos hir, List.append_nil]
        exact ⟨_, o, us, rfl, s1, no, ho, hus⟩
    · rintro σ H1 ⟨y, o, us, rfl, s1, no, ho, hus⟩
      refine ⟨_, rfl, 1, rfl, o, us, rfl, SqL.of ho, fun t nt => ?_⟩
      rw [show (1 : Int) = ((1 : Nat) : Int) from rfl, cut_suf]
      have sT : Same H1 (upd H1 t (.lst (us.drop 1))) := new_same nt _
      exact q _ t _ (s1.trans sT) (s1.free nt) upd_same (Paired.drop 1 (ITs.same hus sT))
/-! ### _law_entered, _law_weight -/
def spLEntered : Sp := fun vs H Q _ => ∃ (a b : Addr) (us : List V) (ls : Ff.Lks) (S : List Int), vs = [.ref a, .ref b] ∧ H a = some (.tup us) ∧ IPs H us ls ∧ ls.length ≤ 500 ∧ H b = some (.tup (S.map V.int)) ∧ ∀ H', Same H H' → Q (.int ((Ff.ent ls S : Nat) : Int)) H'
theorem ok_l_entered (B : Bt mg) (F : FunAt K mg "_law_entered" s_l_entered ["_law_links", "_law_side"]) : Fn P w K mg base 1 "_law_entered" ["_law_links", "_law_side"] spLEntered := F.fn fun f fd F => by
  refine F.ok sc_l_entered (fun vs H Q E h => ?_) (fun cdv A outer s H vs Q E hr h => ?_)
  · obtain ⟨a, b, us, ls, S, rfl, _⟩ := h
    rfl
  · obtain ⟨a, b, us, ls, S, rfl, ha, hus, hz, hb, q⟩ := h
    refine ⟨_, pss_one (ps_ret (pe_callB call_len_seq (by rfl) B.len bt_len (pa_cons (pe_lc (own := [("_law_one", 2), ("_law_other", 3)]) (g := gTup K 2 (gCons (gName 2) (gCons (gName 3) gNil))) (tt := tAnd (tTest (tOp (rIn K true) (tVar 2) (tVar 1))) (tTest (tOp (rIn K false) (tVar 3) (tVar 1)))) (te := tC (.int 1)) rfl sc_l_entered.nd (pi_tup (pv 0))
        (blkOk_by (N := N_l_entered) (sc := defScope s_l_entered) (by decide +kernel)) (fun _ _ _ _ _ => pg_tup rfl (pgs_cons (pg_name (i := 2) sc_l_entered.nd rfl (Or.inl rfl)) (pgs_cons (pg_name (i := 3) sc_l_entered.nd rfl (Or.inl rfl)) pgs_nil)))
        (fun _ _ _ _ _ => pts_one (PW.pt (pw_and (pt_cmpR op_notIn_seq (pv 2) (pv 1) (by rfl)) (pw_and1 (pt_cmpR op_in_seq (pv 3) (pv 1) (by rfl)))))) (fun _ _ _ _ _ => pe_int)) pa_nil))), ?_⟩
    have hul := Paired.length hus
    refine ⟨_, rfl, a, rfl, ⟨_, SqT.of ha⟩, fun D nD => ?_⟩
    refine lc_tup (xs := us) (fun i H' => Same H H' ∧ ∃ acc, H' D = some (.lst acc) ∧ acc.length = Ff.ent (ls.take i) S) ⟨new_same nD _, [], upd_same, rfl⟩ (fun i H' _ p => SqT.of (p.1 _ _ ha)) ?_ ?_
    · rintro i x H2 hx ⟨s2, acc, hD, hal⟩
      obtain ⟨e, he, hxe⟩ := Paired.at hus hx
      obtain ⟨t, rfl, ht⟩ := IT.same hxe s2
      have et := ent_take S he
      have el := ent_le (ls.take i) S
      rw [List.length_take] at el
      refine ⟨t, _, rfl, SqT.of ht, rfl, _, _, rfl, _, _, rfl, rfl, rfl, ?_⟩
      refine ⟨_, rfl, _, rfl, b, _, rfl, .inr (SqT.of (s2 _ _ hb)), rfl, flat_ints S, _, rfl, ?_⟩
      rw [inV_int]
      refine ite2 (fun c => ?_) (fun c => ?_)
      · have c1 : (!decide (e.1 ∈ S)) = true := c
        refine ⟨_, rfl, _, rfl, b, _, rfl, .inr (SqT.of (s2 _ _ hb)), rfl, flat_ints S, _, rfl, ?_⟩
        rw [inV_int]
        refine ite2 (fun c2 => ?_) (fun c2 => ?_)
        · have c3 : decide (e.2 ∈ S) = true := c2
          refine ⟨acc, hD, small1000 (by omega), upd_sameN nD s2 _, _, upd_same, ?_⟩
          rw [List.length_append, List.length_singleton, et, c1, c3, hal]
          rfl
        · have c3 : decide (e.2 ∈ S) = false := Bool.eq_false_iff.mpr c2
          refine ⟨s2, acc, hD, ?_⟩
          rw [et, c1, c3, hal]
          rfl
      · have c1 : (!decide (e.1 ∈ S)) = false := Bool.eq_false_iff.mpr c
        refine ⟨s2, acc, hD, ?_⟩
        rw [et, c1, hal]
        rfl
    · rintro H2 ⟨s2, acc, hD, hal⟩
      rw [hul, List.take_length] at hal
      refine ⟨D, acc, rfl, .inl (SqL.of hD), ?_⟩
      rw [hal]
      exact q H2 s2
def spLWeight : Sp := fun vs H Q _ => ∃ (a t : Addr) (n : Nat) (r m : Int) (ls : Ff.Lks) (us : List V) (L : List (List Int)), vs = [.ref a, .int m, .ref t] ∧ LNetAt H a n r ls ∧ ls.length ≤ 500 ∧ H t = some (.tup us) ∧ ITs H us L ∧ L.length ≤ 500 ∧
  ∀ H', Same H H' → Q (.int (Ff.wsum (Ff.lackI m ls) L)) H'
theorem ok_l_weight (B : Bt mg) (F : FunAt K mg "_law_weight" s_l_weight ["_law_net_here", "_law_many", "_law_lack"]) (G : Fn P w K mg base 1 "_law_entered" ["_law_links", "_law_side"] spLEntered) : Fn P w K mg base 2 "_law_weight" ["_law_net_here", "_law_many", "_law_lack"] spLWeight := F.fn fun f fd F => by
  refine F.ok sc_l_weight (fun vs H Q E h => ?_) (fun cdv A outer s H vs Q E hr h => ?_)
  · obtain ⟨a, t, n, r, m, ls, us, L, rfl, _⟩ := h
    rfl
  · obtain ⟨a, t, n, r, m, ls, us, L, rfl, ⟨tl, ha, vs, hl, hvs⟩, hz, ht, hus, hL, q⟩ := h
    refine ⟨_, pss_one (ps_ret (pe_callB (cr_sum rfl) (by rfl) B.sum bt_sum (pa_cons (pe_lc (own := [("_law_side", 3)]) (g := gName 3) (tt := tYes) (te := tOp (rI0 fun i j => .int (i - j)) (tVar 1) (tFn spLEntered (tCons (tOp (rIxT K) (tVar 0) (tC (.int 2))) (tCons (tVar 3) tNil)))) rfl sc_l_weight.nd (pi_tup (pv 2))
        (blkOk_by (N := N_l_weight) (sc := defScope s_l_weight) (by decide +kernel)) (fun _ _ _ _ _ => pg_name (i := 3) sc_l_weight.nd rfl (Or.inl rfl)) (fun _ _ _ _ _ => pts_nil)
        (fun _ _ _ _ _ => pe_op op_sub (pv 1) (pe_fn G hr (pa_cons (pe_ix ix_tup (pv 0) pe_int (fun _ _ => rfl)) (pa_cons (pv 3) pa_nil))))) pa_nil))), ?_⟩
    have hul := Paired.length hus
    refine ⟨_, rfl, t, rfl, ⟨_, SqT.of ht⟩, fun D nD => ?_⟩
    refine lc_tup (xs := us) (fun i H' => Same H H' ∧ H' D = some (.lst (((L.take i).map (Ff.lackI m ls)).map V.int))) ⟨new_same nD _, upd_same⟩ (fun i H' _ p => SqT.of (p.1 _ _ ht)) ?_ ?_
    · rintro i x H2 hx ⟨s2, hD⟩
      obtain ⟨S, hS, hxS⟩ := Paired.at hus hx
      obtain ⟨b, rfl, hb⟩ := hxS.same s2
      have hi := (List.getElem?_eq_some_iff.mp hx).1
      refine ⟨rfl, ?_⟩
      refine ⟨_, rfl, _, rfl, a, _, 2, _, rfl, rfl, SqT.of (s2 _ _ ha), atI_nat (j := 2) rfl, _, rfl, tl, b, vs, ls, S, rfl, s2 _ _ hl, IPs.same hvs s2, hz, hb, fun H3 s3 => ?_⟩
      refine ⟨_, _, rfl, rfl, _, s3 _ _ hD, ?_, upd_sameN nD (s2.trans s3) _, ?_⟩
      · rw [List.length_map, List.length_map, List.length_take]
        exact small1000 (by omega)
      · rw [upd_same, List.take_add_one, hS, Option.toList_some, List.map_append, List.map_append]
        rfl
    · rintro H2 ⟨s2, hD⟩
      rw [hul, List.take_length] at hD
      exact ⟨D, _, rfl, SqL.of hD, q H2 s2⟩
end
end Fw
end

section
set_option linter.all false
set_option maxRecDepth 100000
/-! The walk of the law: lacks that are some, pairs, enough. -/
namespace Fw
open PySem PySem.Spec PyProof.Rows L2
section
variable {P : Program} {w : World} {K : PySem.W.Frag} {mg : Str → Option Value} {base : Heap} {C : Addr}
def spLIsLack : Sp := fun vs H Q _ => ∃ (a t : Addr) (n : Nat) (r : Int) (ls : Ff.Lks) (us : List V) (J : List (List Int)), vs = [.ref a, .ref t] ∧ LNetAt H a n r ls ∧ n ≤ 6 ∧ H t = some (.tup us) ∧ ITs H us J ∧ (∀ S, S ∈ J → Ff.Side n r S) ∧ Ff.Apart J ∧ srt J = J ∧
  ∀ H', Same H H' → Q (.bl true) H'
theorem ok_l_is_lack (B : Bt mg) (F : FunAt K mg "_law_is_lack" s_l_is_lack ["_law_net_here", "_law_thing"]) (G : Fn P w K mg base 3 "_law_is_side" ["_law_net_here", "_law_thing"] spLSide) (G2 : Fn P w K mg base 2 "_law_are_apart" ["_law_lots"] spAreApart) :
    Fn P w K mg base 4 "_law_is_lack" ["_law_net_here", "_law_thing"] spLIsLack := F.fn fun f fd F => by
  refine F.ok sc_l_is_lack (fun vs H Q E h => ?_) (fun cdv A outer s H vs Q E hr h => ?_)
  · obtain ⟨a, t, n, r, ls, us, J, rfl, _⟩ := h
    rfl
  · obtain ⟨a, t, n, r, ls, us, J, rfl, hN, hn, ht, hus, hJ, hA, hP, q⟩ := h
    refine ⟨_, pss_cons (ps_if (PW.pt (pw_or (pt_not (pt_val (pe_callB call_is (by rfl) B.isinstance bt_isinstance (pa_cons (pv 1) (pa_cons (pe_bltn (v := .ty "tuple") (by rfl) B.tuple bt_tuple rfl) pa_nil)))))
        (pw_or1 (pt_not (pt_val (pe_callB (cr_all rfl) (by rfl) B.all bt_all (pa_cons (pe_lc (own := [("_law_side", 2)]) (g := gName 2) (tt := tYes) (te := tFn spLSide (tCons (tVar 0) (tCons (tVar 2) tNil))) rfl sc_l_is_lack.nd (pi_tup (pv 1)) (blkOk_by (N := N_l_is_lack) (sc := defScope s_l_is_lack) (by decide +kernel))
          (fun _ _ _ _ _ => pg_name (i := 2) sc_l_is_lack.nd rfl (Or.inl rfl)) (fun _ _ _ _ _ => pts_nil) (fun _ _ _ _ _ => pe_fn G hr (pa_cons (pv 0) (pa_cons (pv 2) pa_nil)))) pa_nil))))))) (pss_one (ps_ret pe_bl)) pss_nil)
      (pss_one (ps_ret (pe_and (pe_fn G2 (hr.mono (by decide)) (pa_cons (pv 1) pa_nil)) (pe_one (pe_cmpR (op_eqD hr.units) (pe_callTy call_list_of (by rfl) B.list bt_list (pa_cons (pv 1) pa_nil)) (pe_callB (cr_srt hr.units) (by rfl) B.sorted bt_sorted (pa_cons (pv 1) pa_nil)) (nomark _)))))), ?_⟩
    have f1 := flat_few hJ hA
    have f2 := apart_few hJ
    have hul : us.length = J.length := Paired.length hus
    refine ⟨_, rfl, _, "tuple", "tuple", true, rfl, .base (.tup ht), (by decide +kernel), _, rfl, ?_⟩
    refine ⟨_, rfl, t, rfl, ⟨_, SqT.of ht⟩, fun D nD => ?_⟩
    refine lc_tup (xs := us) (fun i H' => Same H H' ∧ H' D = some (.lst ((List.replicate i true).map V.bl))) ⟨new_same nD _, upd_same⟩ (fun i H' _ p => SqT.of (p.1 _ _ ht)) ?_ ?_
    · rintro i x H2 hx ⟨s2, hD⟩
      obtain ⟨S, hS, hxS⟩ := Paired.at hus hx
      obtain ⟨b, rfl, hb⟩ := hxS.same s2
      have hi : i < us.length := (List.getElem?_eq_some_iff.mp hx).1
      refine ⟨rfl, ?_⟩
      refine ⟨_, rfl, _, rfl, a, b, n, r, ls, S, rfl, hN.same s2, hb, hJ S (List.mem_of_getElem? hS), hn, fun H3 s3 => ⟨_, s3 _ _ hD, ?_, upd_sameN nD (s2.trans s3) _, ?_⟩⟩
      · rw [List.length_map, List.length_replicate]
        exact small1000 (by omega)
      · rw [upd_same, rep_snoc]
    rintro H1 ⟨s1, hD⟩
    refine ⟨D, _, rfl, SqL.of hD, _, rfl, iteN (all_rep _) ?_⟩
    have hnd : J.flatten.Nodup := by
      refine List.pairwise_flatten.mpr ⟨fun S hS => Ff.asc_nodup (hJ S hS).asc, hA.imp fun h a ha b hb e => ?_⟩
      subst e
      exact h a ha hb
    refine ⟨_, rfl, t, us, J, rfl, s1 _ _ ht, ITs.same hus s1, hnd, by omega, fun H2 s2 => ⟨_, rfl, iteT ?_⟩⟩
    have s12 := s1.trans s2
    refine ⟨_, rfl, t, us, rfl, .inr (SqT.of (s12 _ _ ht)), fun l nl => ?_⟩
    have sL : Same H2 (upd H2 l (.lst us)) := new_same nl _
    have s3 := s12.trans sL
    refine ⟨_, rfl, t, us, J, rfl, .inr (s3 _ _ ht), ITs.same hus s3, fun S hS => (hJ S hS).ne, by omega, fun l2 ws nl2 hws => ?_⟩
    have sM := new_same nl2 (.lst ws)
    refine ⟨.list (J.map pdI), .list ((srt J).map pdI), dp_list (sM _ _ upd_same) (ITs.same hus (s3.trans sM)), dp_list upd_same (ITs.same hws sM), shaped_list _, shaped_list _, ?_⟩
    rw [eqv_lists, hP, decide_eq_true rfl]
    exact q _ (s3.trans sM)
/-! ### _law_are_pairs -/
def spLPairs : Sp := fun vs H Q _ => ∃ (n : Nat) (t : Addr) (us : List V) (es : Ff.Lks), vs = [.int (n : Nat), .ref t] ∧ H t = some (.tup us) ∧ IPs H us es ∧ es.length ≤ 200 ∧ LinksOk n es ∧ ∀ H', Same H H' → Q (.bl true) H'
theorem ok_l_are_pairs (B : Bt mg) (F : FunAt K mg "_law_are_pairs" s_l_are_pairs ["_law_many", "_law_thing"]) (G : Fn P w K mg base 1 "_law_int" ["_law_thing", "_law_low", "_law_high"] spLInt) : Fn P w K mg base 2 "_law_are_pairs" ["_law_many", "_law_thing"] spLPairs := F.fn fun f fd F => by
  refine F.ok sc_l_are_pairs (fun vs H Q E h => ?_) (fun cdv A outer s H vs Q E hr h => ?_)
  · obtain ⟨n, t, us, es, rfl, _⟩ := h
    rfl
  · obtain ⟨n, t, us, es, rfl, ht, hus, hz, hok, q⟩ := h
    refine ⟨_, pss_cons (ps_if (PW.pt (pw_or (pt_not (pt_val (pe_callB call_is (by rfl) B.isinstance bt_isinstance (pa_cons (pv 1) (pa_cons (pe_bltn (v := .ty "tuple") (by rfl) B.tuple bt_tuple rfl) pa_nil)))))
        (pw_or1 (pt_cmpR op_gt (pe_callB call_len_seq (by rfl) B.len bt_len (pa_cons (pv 1) pa_nil)) pe_int (nomark _))))) (pss_one (ps_ret pe_bl)) pss_nil)
      (pss_cons (ps_for PassesOwn.never rfl (pi_tup (pv 1)) (pg_name (i := 2) sc_l_are_pairs.nd rfl (.inl rfl))
        (pss_cons (ps_if (PW.pt (pw_or (pt_not (pt_val (pe_callB call_is (by rfl) B.isinstance bt_isinstance (pa_cons (pv 2) (pa_cons (pe_bltn (v := .ty "tuple") (by rfl) B.tuple bt_tuple rfl) pa_nil)))))
          (pw_or (pt_cmpR op_ne (pe_callB call_len_seq (by rfl) B.len bt_len (pa_cons (pv 2) pa_nil)) pe_int (nomark _))
          (pw_or1 (pt_not (pt_val (pe_callB (cr_all rfl) (by rfl) B.all bt_all (pa_cons (pe_lc (own := [("_law_one", 3)]) (g := gName 3) (tt := tYes) rfl sc_l_are_pairs.nd (pi_tup (pv 2)) (blkOk_by (N := N_l_are_pairs) (sc := defScope s_l_are_pairs) (by decide +kernel))
            (fun _ _ _ _ _ => pg_name (i := 3) sc_l_are_pairs.nd rfl (Or.inl rfl)) (fun _ _ _ _ _ => pts_nil) (fun _ _ _ _ _ => pe_fn G hr (pa_cons (pv 3) (pa_cons pe_int (pa_cons (pe_op op_sub (pv 0) pe_int) pa_nil))))) pa_nil)))))))) (pss_one (ps_ret pe_bl)) pss_nil)
        (pss_one (ps_if (pt_cmpR op_eq (pe_ix ix_tup (pv 2) pe_int (fun _ _ => rfl)) (pe_ix ix_tup (pv 2) pe_int (fun _ _ => rfl)) (nomark _)) (pss_one (ps_ret pe_bl)) pss_nil))))
      (pss_one (ps_ret pe_bl))), ?_⟩
    have hul : us.length = es.length := Paired.length hus
    refine ⟨_, rfl, _, "tuple", "tuple", true, rfl, .base (.tup ht), (by decide +kernel), _, rfl, ?_⟩
    refine ⟨_, rfl, t, us, rfl, .inr (SqT.of ht), _, 200, rfl, rfl, _, rfl, iteO (decide_eq_false (by omega)) ?_⟩
    refine ⟨_, rfl, t, rfl, ⟨_, SqT.of ht⟩, for_tup (xs := us) (fun i σ H' => ∃ y, σ = [some (.int (n : Nat)), some (.ref t), y, none] ∧ Same H H') ⟨none, rfl, Same.refl H⟩ (fun i σ H' _ ⟨_, _, sm⟩ => SqT.of (sm _ _ ht)) ?_ ?_⟩
    · rintro i x σ H1 hx ⟨y, rfl, s1⟩
      obtain ⟨e, he, hxe⟩ := Paired.at hus hx
      obtain ⟨b, rfl, hb⟩ := IT.same hxe s1
      obtain ⟨o1, o2, o3⟩ := hok e (List.mem_of_getElem? he)
      refine ⟨_, rfl, _, "tuple", "tuple", true, rfl, .base (.tup hb), (by decide +kernel), _, rfl, ?_⟩
      refine ⟨_, rfl, b, _, rfl, .inr (SqT.of hb), rfl, _, rfl, ?_⟩
      refine ⟨_, rfl, b, rfl, ⟨_, SqT.of hb⟩, fun D nD => ?_⟩
      refine lc_tup (xs := [V.int e.1, V.int e.2]) (fun i H' => Same H1 H' ∧ H' D = some (.lst ((List.replicate i true).map V.bl))) ⟨new_same nD _, upd_same⟩ (fun i H' _ p => SqT.of (p.1 _ _ hb)) ?_ ?_
      · rintro j z H2 hz ⟨s2, hD⟩
        have hz2 : ∃ z', z = .int z' ∧ 0 ≤ z' ∧ z' < n := by
          match j, hz with
          | 0, hz => exact ⟨e.1, (Option.some.inj hz).symm, o1⟩
          | 1, hz => exact ⟨e.2, (Option.some.inj hz).symm, o2⟩
        obtain ⟨z', rfl, z1, z2⟩ := hz2
        have hj : j < 2 := (List.getElem?_eq_some_iff.mp hz).1
        refine ⟨rfl, ?_⟩
        refine ⟨_, rfl, _, rfl, _, _, rfl, rfl, z', 0, (n : Int) - 1, rfl, _, hD, ?_, upd_sameN nD s2 _, ?_⟩
        · rw [List.length_map, List.length_replicate]
          exact small1000 (by omega)
        · rw [upd_same, decide_eq_true z1, decide_eq_true (show z' ≤ (n : Int) - 1 by omega), Bool.and_self, rep_snoc]
      · rintro H2 ⟨s2, hD⟩
        refine ⟨D, _, rfl, SqL.of hD, _, rfl, iteN rfl ?_⟩
        refine ⟨_, rfl, b, _, 0, _, rfl, rfl, SqT.of (s2 _ _ hb), atI_nat (j := 0) rfl, ?_⟩
        refine ⟨_, rfl, b, _, 1, _, rfl, rfl, SqT.of (s2 _ _ hb), atI_nat (j := 1) rfl, rfl, _, rfl, ?_⟩
        refine iteO (decide_eq_false fun z => o3 (V.int.inj z)) ?_
        exact ⟨_, rfl, s1.trans s2⟩
    · rintro σ H1 ⟨y, rfl, s1⟩
      exact q H1 s1
/-! ### _law_is_enough -/
def spLEnough : Sp := fun vs H Q _ => ∃ (a t : Addr) (n : Nat) (r m : Int) (ls es : Ff.Lks) (us : List V), vs = [.ref a, .int m, .ref t] ∧ LNetAt H a n r ls ∧ n ≤ 6 ∧ ls.length ≤ 100 ∧ H t = some (.tup us) ∧ IPs H us es ∧ es.length ≤ 200 ∧ LinksOk n es ∧
  (∀ S, S ∈ lsides n r → m ≤ ((Ff.ent (ls ++ es) S : Nat) : Int)) ∧ ∀ H', Same H H' → Q (.bl true) H'
theorem ok_l_is_enough (B : Bt mg) (F : FunAt K mg "_law_is_enough" s_l_is_enough ["_law_net_here", "_law_many", "_law_thing"]) (G : Fn P w K mg base 2 "_law_are_pairs" ["_law_many", "_law_thing"] spLPairs) (G2 : Fn P w K mg base 1 "_law_sides" ["_law_net_here"] spLSides)
    (G3 : Fn P w K mg base 1 "_law_entered" ["_law_links", "_law_side"] spLEntered) : Fn P w K mg base 3 "_law_is_enough" ["_law_net_here", "_law_many", "_law_thing"] spLEnough := F.fn fun f fd F => by
  refine F.ok sc_l_is_enough (fun vs H Q E h => ?_) (fun cdv A outer s H vs Q E hr h => ?_)
  · obtain ⟨a, t, n, r, m, ls, es, us, rfl, _⟩ := h
    rfl
  · obtain ⟨a, t, n, r, m, ls, es, us, rfl, hN, hn, hlz, ht, hus, hez, hok, hen, q⟩ := h
    obtain ⟨tl, ha, vs, hl, hvs⟩ := id hN
    have hr1 : Room 1 _ := hr.mono (by decide)
    refine ⟨_, pss_cons (ps_if (pt_not (pt_val (pe_fn G hr (pa_cons (pe_ix ix_tup (pv 0) pe_int (fun _ _ => rfl)) (pa_cons (pv 2) pa_nil))))) (pss_one (ps_ret pe_bl)) pss_nil)
      (pss_one (ps_ret (pe_callB (cr_all rfl) (by rfl) B.all bt_all (pa_cons (pe_lc (own := [("_law_side", 3)]) (g := gName 3) (tt := tYes) (te := tOp (rI0 fun i j => .bl (decide (j ≤ i))) (tFn spLEntered (tCons (tOp rCatS (tOp (rIxT K) (tVar 0) (tC (.int 2))) (tVar 2)) (tCons (tVar 3) tNil))) (tVar 1)) rfl sc_l_is_enough.nd
        (pi_list (pe_fn G2 hr1 (pa_cons (pv 0) pa_nil))) (blkOk_by (N := N_l_is_enough) (sc := defScope s_l_is_enough) (by decide +kernel)) (fun _ _ _ _ _ => pg_name (i := 3) sc_l_is_enough.nd rfl (Or.inl rfl)) (fun _ _ _ _ _ => pts_nil)
        (fun _ _ _ _ _ => pe_cmpR op_ge (pe_fn G3 hr1 (pa_cons (pe_op op_catS (pe_ix ix_tup (pv 0) pe_int (fun _ _ => rfl)) (pv 2)) (pa_cons (pv 3) pa_nil))) (pv 1) (nomark _))) pa_nil)))), ?_⟩
    refine ⟨_, rfl, a, _, 0, _, rfl, rfl, SqT.of ha, atI_nat (j := 0) rfl, _, rfl, n, t, us, es, rfl, ht, hus, hez, hok, fun H1 s1 => ⟨_, rfl, iteN rfl ?_⟩⟩
    refine ⟨_, rfl, a, n, r, ls, rfl, hN.same s1, hn, fun H2 l ss s2 nl hss hits => ?_⟩
    have s12 := s1.trans s2
    have hsl : ss.length ≤ 64 := by
      have e := Paired.length hits
      have := sidesOf_few (n := n) (r := r) hn
      unfold lsides at e
      rw [List.length_drop] at e
      omega
    refine ⟨l, rfl, ⟨_, SqL.of hss⟩, fun D nD => ?_⟩
    refine lc_list (xs := ss) (fun i H' => Same H2 H' ∧ H' D = some (.lst ((List.replicate i true).map V.bl))) ⟨new_same nD _, upd_same⟩ (fun i H' _ p => SqL.of (p.1 _ _ hss)) ?_ ?_
    · rintro i x H3 hx ⟨s3, hD⟩
      obtain ⟨S, hS, hxS⟩ := Paired.at hits hx
      obtain ⟨b, rfl, hb⟩ := hxS.same s3
      have hi : i < ss.length := (List.getElem?_eq_some_iff.mp hx).1
      have s13 := s12.trans s3
      have l1 := Paired.length hvs
      have l2 := Paired.length hus
      refine ⟨rfl, ?_⟩
      refine ⟨_, rfl, a, _, 2, _, rfl, rfl, SqT.of (s13 _ _ ha), atI_nat (j := 2) rfl, _, rfl, tl, t, vs, us, rfl, rfl, s13 _ _ hl, s13 _ _ ht, s1000 (by omega), fun H4 c s4 hc => ?_⟩
      have s14 := s13.trans s4
      refine ⟨_, rfl, c, b, _, ls ++ es, S, rfl, hc, Paired.app (IPs.same hvs s14) (IPs.same hus s14), by rw [List.length_append]; omega, s4 _ _ hb, fun H5 s5 => ?_⟩
      refine ⟨_, rfl, _, m, rfl, rfl, _, s5 _ _ (s4 _ _ hD), ?_, upd_sameN nD (s3.trans (s4.trans s5)) _, ?_⟩
      · rw [List.length_map, List.length_replicate]
        exact small1000 (by omega)
      · rw [upd_same]
        dsimp only
        rw [decide_eq_true (hen S (List.mem_of_getElem? hS)), rep_snoc]
    · rintro H3 ⟨s3, hD⟩
      refine ⟨D, _, rfl, SqL.of hD, ?_⟩
      rw [all_rep]
      exact q H3 (s12.trans s3)
end
end Fw
end

section
set_option linter.all false
set_option maxRecDepth 100000
/-! The walk of the law: all lacks. -/
namespace Fw
open PySem PySem.Spec PyProof.Rows L2
section
variable {X : Cx}
/-- t[lo:hi] -/
def rCutT : V → Option Int → Option Int → Hp → VK → Prop := fun x lo hi H Q => ∃ a xs, x = .ref a ∧ H a = some (.tup xs) ∧ ∀ H' b, Same H H' → H' b = some (.tup (cutV xs lo hi)) → Q (.ref b) H'
theorem sl_cutT : SlR X rCutT := by
  intro pins s σ H x v vl vu lo hi sl Q I rx hs pl pu h
  obtain ⟨a, xs, rfl, hx, q⟩ := h
  refine sl_tupA pins s σ H (.ref a) v vl vu lo hi sl Q I rx hs pl pu ⟨a, xs, rfl, SqT.of hx, fun c => ?_, fun c p np => q _ p (new_same np _) upd_same⟩
  refine q H a (Same.refl H) ?_
  unfold cutV
  rw [c.1, c.2, List.drop_zero, Nat.sub_zero, List.take_length]
  exact hx
/-- tuple(l) -/
def rTupL : List V → Hp → VK → Prop := fun xs H Q => ∃ p ys, xs = [.ref p] ∧ H p = some (.lst ys) ∧ ∀ l, H l = none → Q (.ref l) (upd H l (.tup ys))
theorem call_tupL : CallR X (.type "tuple") rTupL := by
  intro pins s σ H xs us Q I r h
  obtain ⟨p, ys, e, hp, q⟩ := h
  exact call_tuple_of pins s σ H xs us Q I r ⟨p, ys, e, .inl ⟨SqL.of hp, q⟩⟩
end
/-- a tuple of int tuples -/
def RT (H : Hp) (v : V) (L : List (List Int)) : Prop := ∃ a us, v = .ref a ∧ H a = some (.tup us) ∧ ITs H us L
abbrev RTs (H : Hp) : List V → List (List (List Int)) → Prop := Paired (RT H)
theorem RT.same {H H' : Hp} {v : V} {L : List (List Int)} (h : RT H v L) (s : Same H H') : RT H' v L := by
  obtain ⟨a, us, e, h1, h2⟩ := h
  exact ⟨a, us, e, s _ _ h1, ITs.same h2 s⟩
theorem RTs.same {H H' : Hp} {vs : List V} {M : List (List (List Int))} (h : RTs H vs M) (s : Same H H') : RTs H' vs M := Paired.mapP h fun _ _ z => z.same s
theorem RT.put {H : Hp} {o : Addr} {us ws : List V} {v : V} {L : List (List Int)} (h : RT H v L) (ho : H o = some (.lst us)) : RT (upd H o (.lst ws)) v L := by
  obtain ⟨a, vs, e, h1, h2⟩ := h
  refine ⟨a, vs, e, ?_, ITs.put h2 ho⟩
  rw [upd_ne (ne_of h1 ho (by intro z; cases z))]
  exact h1
theorem RTs.put {H : Hp} {o : Addr} {us ws vs : List V} {M : List (List (List Int))} (h : RTs H vs M) (ho : H o = some (.lst us)) : RTs (upd H o (.lst ws)) vs M := Paired.mapP h fun _ _ z => z.put ho
theorem lacks_tab : (List.range 7).all (fun n => (List.range n).all fun r => (List.range 8).all fun i => decide ((Ff.lacksOf ((Ff.pls n (r : Nat)).take i)).length ≤ 203)) = true := by decide +kernel
theorem lacks_few {n : Nat} {r : Int} (hn : n ≤ 6) (r0 : 0 ≤ r) (r1 : r < n) {i : Nat} (hi : i ≤ 7) : (Ff.lacksOf ((Ff.pls n r).take i)).length ≤ 203 := by
  obtain ⟨k, rfl⟩ := Int.eq_ofNat_of_zero_le r0
  have h1 := List.all_eq_true.mp lacks_tab n (List.mem_range.mpr (by omega))
  have h2 := List.all_eq_true.mp h1 k (List.mem_range.mpr (by omega))
  exact of_decide_eq_true (List.all_eq_true.mp h2 i (List.mem_range.mpr (by omega)))
theorem lacks_part {n : Nat} {r : Int} {i : Nat} (hi : i ≤ (Ff.pls n r).length) {L : List (List Int)} (h : L ∈ Ff.lacksOf ((Ff.pls n r).take i)) : (∀ S, S ∈ L → Ff.Side n r S) ∧ Ff.Apart L := by
  have q := Ff.lackIn_all (Ff.asc_pls n r) i hi L h
  exact ⟨fun S hS => ⟨(q.side S hS).1, (q.side S hS).2.1, fun p hp => (List.take_sublist _ _).mem ((q.side S hS).2.2 p hp)⟩, q.apart⟩
def rowPre (p : Int) (L : List (List Int)) (s : Nat) : List (List (List Int)) := [L, L ++ [[p]]] ++ (List.range s).map fun i => Ff.putAt L i p
theorem rowPre_succ (p : Int) (L : List (List Int)) (s : Nat) : rowPre p L (s + 1) = rowPre p L s ++ [Ff.putAt L s p] := by
  unfold rowPre
  rw [List.range_succ, List.map_append, List.append_assoc]
  rfl
theorem rowPre_len (p : Int) (L : List (List Int)) (s : Nat) : (rowPre p L s).length = 2 + s := by
  unfold rowPre
  rw [List.length_append, List.length_map, List.length_range]
  rfl
theorem flatMap_take_len {α β : Type} (f : α → List β) (l : List α) {i : Nat} {a : α} (h : l[i]? = some a) : ((l.take i).flatMap f).length + (f a).length ≤ (l.flatMap f).length := by
  have e : l.take i ++ l.drop i = l := List.take_append_drop i l
  obtain ⟨h1, h2⟩ := List.getElem?_eq_some_iff.mp h
  have e2 : l.drop i = a :: l.drop (i + 1) := by rw [← h2]; exact List.drop_eq_getElem_cons h1
  have e3 := congrArg (fun l => (l.flatMap f).length) e
  rw [List.flatMap_append, e2, List.flatMap_cons, List.length_append, List.length_append] at e3
  omega
theorem flatMap_take {α β : Type} (f : α → List β) {l : List α} {i : Nat} {a : α} (h : l[i]? = some a) : (l.take (i + 1)).flatMap f = (l.take i).flatMap f ++ f a := by
  rw [List.take_add_one, h, Option.toList_some, List.flatMap_append]
  simp
theorem row_get {L : List (List Int)} {s : Nat} (h : s < L.length) : L.getD s [] = L[s] := by
  rw [List.getD_eq_getElem?_getD, List.getElem?_eq_getElem h]
  rfl
section
variable {P : Program} {w : World} {K : PySem.W.Frag} {mg : Str → Option Value} {base : Heap} {C : Addr}
def spLLacks : Sp := fun vs H Q _ => ∃ (a : Addr) (n : Nat) (r : Int) (ls : Ff.Lks), vs = [.ref a] ∧ LNetAt H a n r ls ∧ n ≤ 6 ∧ 0 ≤ r ∧ r < n ∧ ∀ H' p us, Same H H' → H p = none → H' p = some (.lst us) → RTs H' us ((Ff.lacksOf (Ff.pls n r)).map srt) → Q (.ref p) H'
theorem ok_l_lacks (B : Bt mg) (F : FunAt K mg "_law_lacks" s_l_lacks ["_law_net_here"]) : Fn P w K mg base 1 "_law_lacks" ["_law_net_here"] spLLacks := F.fn fun f fd F => by
  refine F.ok sc_l_lacks (fun vs H Q E h => ?_) (fun cdv A outer s H vs Q E hr h => ?_)
  · obtain ⟨a, n, r, ls, rfl, _⟩ := h
    rfl
  · obtain ⟨a, n, r, ls, rfl, ⟨tl, ha, hl⟩, hn, r0, r1, q⟩ := h
    refine ⟨_, pss_cons (ps_set (i := 1) sc_l_lacks.nd rfl (.inl rfl) (pe_lst (pa_cons (pe_tup pa_nil) pa_nil)))
      (pss_cons (ps_for PassesOwn.never rfl (pi_list (pe_lc (own := [("_law_one", 6)]) (g := gName 6) (tt := tTest (tOp rNe (tVar 6) (tOp (rIxT K) (tVar 0) (tC (.int 1))))) rfl sc_l_lacks.nd (pi_range1 (by rfl) B.range (pa_cons (pe_ix ix_tup (pv 0) pe_int (fun _ _ => rfl)) pa_nil))
          (blkOk_by (N := N_l_lacks) (sc := defScope s_l_lacks) (by decide +kernel)) (fun _ _ _ _ _ => pg_name (i := 6) sc_l_lacks.nd rfl (Or.inl rfl)) (fun _ _ _ _ _ => pts_one (pt_cmpR op_ne (pv 6) (pe_ix ix_tup (pv 0) pe_int (fun _ _ => rfl)) (nomark _))) (fun _ _ _ _ _ => pv 6))) (pg_name (i := 2) sc_l_lacks.nd rfl (.inl rfl))
        (pss_cons (ps_set (i := 3) sc_l_lacks.nd rfl (.inl rfl) (pe_lst pa_nil))
        (pss_cons (ps_for PassesOwn.never rfl (pi_list (pv 1)) (pg_name (i := 4) sc_l_lacks.nd rfl (.inl rfl))
          (pss_cons (ps_ext (pv 3) (pe_lst (pa_cons (pv 4) (pa_cons (pe_op op_catS (pv 4) (pe_tup (pa_cons (pe_tup (pa_cons (pv 2) pa_nil)) pa_nil))) pa_nil))))
          (pss_one (ps_for PassesOwn.never rfl (pi_range1 (by rfl) B.range (pa_cons (pe_callB call_len_seq (by rfl) B.len bt_len (pa_cons (pv 4) pa_nil)) pa_nil)) (pg_name (i := 5) sc_l_lacks.nd rfl (.inl rfl))
            (pss_one (ps_app (pv 3) (pe_op op_catS (pe_op op_catS (pe_slice sl_cutT (pv 4) po_none (po_some (pv 5))) (pe_tup (pa_cons (pe_op op_catS (pe_ix ix_tup (pv 4) (pv 5) (fun _ _ => rfl)) (pe_tup (pa_cons (pv 2) pa_nil))) pa_nil))) (pe_slice sl_cutT (pv 4) (po_some (pe_op op_add (pv 5) pe_int)) po_none))))))))
        (pss_one (ps_set (i := 1) sc_l_lacks.nd rfl (.inl rfl) (pv 3))))))
      (pss_one (ps_ret (pe_lc (own := [("_law_rows", 4)]) (g := gName 4) (tt := tYes) rfl sc_l_lacks.nd (pi_list (pv 1)) (blkOk_by (N := N_l_lacks) (sc := defScope s_l_lacks) (by decide +kernel)) (fun _ _ _ _ _ => pg_name (i := 4) sc_l_lacks.nd rfl (Or.inl rfl)) (fun _ _ _ _ _ => pts_nil)
        (fun _ _ _ _ _ => pe_callTy call_tupL (by rfl) B.tuple bt_tuple (pa_cons (pe_callB (cr_srt hr.units) (by rfl) B.sorted bt_sorted (pa_cons (pv 4) pa_nil)) pa_nil)))))), ?_⟩
    have hpl := pls_len n r
    refine ⟨Nat.zero_le _, fun e ne => ⟨s1000 (by show 1 ≤ 1000; decide), fun o no => ?_⟩⟩
    have sE : Same H (upd H e (.tup [])) := new_same ne _
    have sO := sE.trans (new_same no (.lst [.ref e]))
    have noH := sE.free no
    have ho0 : (upd (upd H e (.tup [])) o (.lst [.ref e])) o = some (.lst [.ref e]) := upd_same
    have he0 : (upd (upd H e (.tup [])) o (.lst [.ref e])) e = some (.tup []) := (new_same no (.lst [.ref e])) _ _ upd_same
    generalize upd (upd H e (.tup [])) o (.lst [.ref e]) = H0 at *
    refine ⟨_, rfl, a, _, 0, _, rfl, rfl, SqT.of (sO _ _ ha), atI_nat (j := 0) rfl, n, rfl, by omega, by omega, fun D nD => ?_⟩
    rw [Int.toNat_natCast]
    refine lc_range (fun i H' => Same H0 H' ∧ H' D = some (.lst ((Ff.pls i r).map V.int))) ⟨new_same nD _, upd_same⟩ ?_ ?_
    · rintro i H1 hi ⟨s1, hD⟩
      refine ⟨rfl, ?_⟩
      refine ⟨_, rfl, _, rfl, a, _, 1, _, rfl, rfl, SqT.of (s1 _ _ (sO _ _ ha)), atI_nat (j := 1) rfl, rfl, _, rfl, ?_⟩
      rw [Int.zero_add]
      have hpi := pls_len i r
      refine ite2 (fun c => ?_) (fun c => ?_)
      · have hir : ¬ (i : Int) = r := fun e => by
          subst e
          simp at c
        refine ⟨_, rfl, _, hD, ?_, upd_sameN nD s1 _, ?_⟩
        · rw [List.length_map]
          exact small1000 (by omega)
        · rw [upd_same, pls_succ, if_neg hir, List.map_append]
          rfl
      · have hir : (i : Int) = r := Classical.not_not.mp fun e => c (by
          show (!decide (V.int (i : Int) = V.int r)) = true
          rw [decide_eq_false fun z => e (V.int.inj z)]
          rfl)
        rw [pls_succ, if_pos hir, List.append_nil]
        exact ⟨s1, hD⟩
    rintro H1 ⟨s1, hD⟩
    refine ⟨D, rfl, ⟨_, SqL.of hD⟩, for_list (xs := (Ff.pls n r).map V.int) (fun i σ H' => ∃ o us y2 y3 y4 y5, σ = [some (.ref a), some (.ref o), y2, y3, y4, y5, none] ∧ Same H H' ∧ H o = none ∧ H' D = some (.lst ((Ff.pls n r).map V.int)) ∧ H' o = some (.lst us) ∧ RTs H' us (Ff.lacksOf ((Ff.pls n r).take i)))
      ⟨o, [.ref e], none, none, none, none, rfl, sO.trans s1, noH, hD, s1 _ _ ho0, Paired.one ⟨e, [], rfl, s1 _ _ he0, .nil⟩⟩ (fun i σ H' _ ⟨_, _, _, _, _, _, _, _, _, hD, _⟩ => SqL.of hD) ?_ ?_⟩
    · rintro i x σ H2 hx ⟨o, us, y2, y3, y4, y5, rfl, s2, no, hD2, ho, hus⟩
      rw [List.getElem?_map] at hx
      obtain ⟨v, hv, rfl⟩ := Option.map_eq_some_iff.mp hx
      have hi := (List.getElem?_eq_some_iff.mp hv).1
      have hpart : ∀ L, L ∈ Ff.lacksOf ((Ff.pls n r).take i) → L.length ≤ 6 ∧ ∀ S, S ∈ L → S.length ≤ 6 := fun L hL => by
        obtain ⟨h1, h2⟩ := lacks_part (Nat.le_of_lt hi) hL
        have h3 := flat_few h1 h2
        have h4 := apart_few h1
        exact ⟨by omega, fun S hS => Nat.le_trans (side_len (h1 S hS)) hn⟩
      have few := lacks_few hn r0 r1 (i := i + 1) (by omega)
      rw [Ff.lacksOf_take hv] at few ⊢
      generalize Ff.lacksOf ((Ff.pls n r).take i) = M at *
      unfold Ff.lackStep at few ⊢
      refine ⟨Nat.zero_le _, fun la nla => ?_⟩
      have sL : Same H2 (upd H2 la (.lst [])) := new_same nla _
      refine ⟨_, rfl, o, rfl, ⟨_, SqL.of (sL _ _ ho)⟩, for_list (xs := us) (fun j σ H' => ∃ z4 z5, σ = [some (.ref a), some (.ref o), some (.int v), some (.ref la), z4, z5, none] ∧ Same H2 H' ∧ ∃ acc, H' la = some (.lst acc) ∧ RTs H' acc ((M.take j).flatMap (Ff.lackRow v)))
        ⟨y4, y5, rfl, sL, [], upd_same, .nil⟩ (fun j σ H' _ ⟨_, _, _, sm, _⟩ => SqL.of (sm _ _ ho)) ?_ ?_⟩
      · rintro j x σ H3 hx ⟨z4, z5, rfl, s3, acc, hla, hacc⟩
        obtain ⟨L, hL, hxL⟩ := Paired.at hus hx
        obtain ⟨b, ws, rfl, hb, hws⟩ := hxL.same s3
        obtain ⟨hLl, hSl⟩ := hpart L (List.mem_of_getElem? hL)
        have hwl := Paired.length hws
        have hal := Paired.length hacc
        have tot := flatMap_take_len (Ff.lackRow v) M hL
        have erow : Ff.lackRow v L = rowPre v L L.length := rfl
        rw [erow, rowPre_len] at tot
        refine ⟨_, rfl, tyL hla, _, rfl, _, rfl, _, rfl, s1000 (by show 1 ≤ 1000; decide), fun t1 n1 => ⟨s1000 (by show 1 ≤ 1000; decide), fun t2 n2 => ?_⟩⟩
        have q1 : Same H3 (upd H3 t1 (.tup [.int v])) := new_same n1 _
        have q2' : Same (upd H3 t1 (.tup [.int v])) (upd (upd H3 t1 (.tup [.int v])) t2 (.tup [.ref t1])) := new_same n2 _
        have q2 := q1.trans q2'
        have ht1 := q2' _ _ (upd_same (H := H3) (a := t1) (o := .tup [.int v]))
        have ht2 : (upd (upd H3 t1 (.tup [.int v])) t2 (.tup [.ref t1])) t2 = some (.tup [.ref t1]) := upd_same
        generalize upd (upd H3 t1 (.tup [.int v])) t2 (.tup [.ref t1]) = H4 at *
        refine ⟨b, t2, ws, [.ref t1], rfl, rfl, q2 _ _ hb, ht2, s1000 (by rw [List.length_singleton]; omega), fun H5 t3 q5 h3 => ?_⟩
        refine ⟨s1000 (by show 2 ≤ 1000; decide), fun l6 n6 => ?_⟩
        have q25 := q2.trans q5
        have q6' : Same H5 (upd H5 l6 (.lst [.ref b, .ref t3])) := new_same n6 _
        have q6 := q25.trans q6'
        have hl6 : (upd H5 l6 (.lst [.ref b, .ref t3])) l6 = some (.lst [.ref b, .ref t3]) := upd_same
        have r6 : RTs (upd H5 l6 (.lst [.ref b, .ref t3])) [.ref b, .ref t3] (rowPre v L 0) := by
          refine .cons ⟨b, ws, rfl, q6 _ _ hb, ITs.same hws q6⟩ (Paired.one ⟨t3, _, rfl, q6' _ _ h3, ?_⟩)
          exact Paired.app (ITs.same hws q6) (Paired.one ⟨t1, rfl, q6' _ _ (q5 _ _ ht1)⟩)
        generalize upd H5 l6 (.lst [.ref b, .ref t3]) = H6 at *
        refine ⟨la, l6, acc, _, rfl, rfl, q6 _ _ hla, hl6, s1000 (by show acc.length + 2 ≤ 1000; omega), ?_⟩
        have hla6 := q6 _ _ hla
        have hb7 : (upd H6 la (.lst (acc ++ [.ref b, .ref t3]))) b = some (.tup ws) := by
          rw [upd_ne (ne_of hb hla (by intro z; cases z))]
          exact q6 _ _ hb
        have hla7 : (upd H6 la (.lst (acc ++ [.ref b, .ref t3]))) la = some (.lst (acc ++ [.ref b, .ref t3])) := upd_same
        have r7 : RTs (upd H6 la (.lst (acc ++ [.ref b, .ref t3]))) (acc ++ [.ref b, .ref t3]) ((M.take j).flatMap (Ff.lackRow v) ++ rowPre v L 0) := RTs.put (Paired.app (RTs.same hacc q6) r6) hla6
        have s7 : Same H2 (upd H6 la (.lst (acc ++ [.ref b, .ref t3]))) := upd_sameN nla (s3.trans q6) _
        have w7 : ITs (upd H6 la (.lst (acc ++ [.ref b, .ref t3]))) ws L := ITs.put (ITs.same hws q6) hla6
        generalize upd H6 la (.lst (acc ++ [.ref b, .ref t3])) = H7 at *
        refine ⟨_, rfl, b, ws, rfl, .inr (SqT.of hb7), _, rfl, by omega, by omega, ?_⟩
        rw [Int.toNat_natCast]
        refine for_range (fun s σ H' => ∃ z5, σ = [some (.ref a), some (.ref o), some (.int v), some (.ref la), some (.ref b), z5, none] ∧ Same H2 H' ∧ H' b = some (.tup ws) ∧ ITs H' ws L ∧ ∃ acc, H' la = some (.lst acc) ∧ RTs H' acc ((M.take j).flatMap (Ff.lackRow v) ++ rowPre v L s))
          ⟨z5, rfl, s7, hb7, w7, _, hla7, r7⟩ ?_ ?_
        · rintro s σ H8 hs ⟨z5, rfl, s8, hb8, hws8, acc, hla8, r8⟩
          rw [Int.zero_add]
          have hsL : s < L.length := by omega
          have hws_s : ws[s]? = some ws[s] := List.getElem?_eq_getElem hs
          obtain ⟨S, hS, c, hcw, hc⟩ := Paired.at hws8 hws_s
          have hSlen := hSl S (List.mem_of_getElem? hS)
          have hal8 := Paired.length r8
          rw [List.length_append, rowPre_len] at hal8
          refine ⟨_, rfl, tyL hla8, _, rfl, _, rfl, _, rfl, b, ws, rfl, hb8, fun H9 b9 s9 h9 => ?_⟩
          rw [cut_pre] at h9
          refine ⟨_, rfl, _, rfl, b, ws, _, _, rfl, rfl, SqT.of (s9 _ _ hb8), atI_nat hws_s, _, rfl, s1000 (by show 1 ≤ 1000; decide), fun t10 n10 => ?_⟩
          have p10' : Same H9 (upd H9 t10 (.tup [.int v])) := new_same n10 _
          have p10 : Same H8 (upd H9 t10 (.tup [.int v])) := s9.trans p10'
          refine ⟨c, t10, _, _, hcw, rfl, p10 _ _ hc, upd_same, ?_, fun H11 t11 s11 h11 => ⟨s1000 (by show 1 ≤ 1000; decide), fun t12 n12 => ?_⟩⟩
          · rw [List.length_map, List.length_singleton]
            exact s1000 (by omega)
          have p11 := p10.trans s11
          have p12' : Same H11 (upd H11 t12 (.tup [.ref t11])) := new_same n12 _
          have p12 := p11.trans p12'
          refine ⟨b9, t12, _, _, rfl, rfl, p12' _ _ (s11 _ _ (p10' _ _ h9)), upd_same, ?_, fun H13 t13 s13 h13 => ?_⟩
          · rw [List.length_take, List.length_singleton]
            exact s1000 (by omega)
          have p13 := p12.trans s13
          refine ⟨_, rfl, _, rfl, _, 1, rfl, rfl, _, rfl, b, ws, rfl, p13 _ _ hb8, fun H14 t14 s14 h14 => ?_⟩
          rw [show ((s : Int) + 1) = ((s + 1 : Nat) : Int) from rfl, cut_suf] at h14
          refine ⟨t13, t14, _, _, rfl, rfl, s14 _ _ h13, h14, ?_, fun H15 t15 s15 h15 => ?_⟩
          · rw [List.length_append, List.length_take, List.length_drop, List.length_singleton]
            exact s1000 (by omega)
          have p15 := p13.trans (s14.trans s15)
          have hla15 := p15 _ _ hla8
          refine ⟨la, acc, .ref t15, rfl, rfl, hla15, small1000 (by omega), _, rfl, upd_sameN nla (s8.trans p15) _, ?_, ITs.put (ITs.same hws8 p15) hla15, _, upd_same, ?_⟩
          · rw [upd_ne (ne_of hb8 hla8 (by intro z; cases z))]
            exact p15 _ _ hb8
          · rw [rowPre_succ, ← List.append_assoc]
            refine RTs.put (Paired.app (RTs.same r8 p15) (Paired.one ⟨t15, _, rfl, h15, ?_⟩)) hla15
            unfold Ff.putAt
            have w15 := ITs.same hws8 p15
            rw [List.append_assoc]
            refine Paired.app (Paired.take s w15) (.cons ⟨t11, rfl, ?_⟩ (Paired.drop (s + 1) w15))
            have hS2 : L.getD s [] = S := by rw [List.getD_eq_getElem?_getD, hS]; rfl
            rw [hS2, List.map_append]
            exact s15 _ _ (s14 _ _ (s13 _ _ (p12' _ _ h11)))
        · rintro σ H8 ⟨z5, rfl, s8, hb8, hws8, acc, hla8, r8⟩
          refine ⟨_, _, rfl, s8, acc, hla8, ?_⟩
          rw [flatMap_take _ hL, erow, ← hwl]
          exact r8
      · rintro σ H3 ⟨z4, z5, rfl, s3, acc, hla, hacc⟩
        rw [Paired.length hus, List.take_length] at hacc
        exact ⟨_, rfl, la, acc, _, _, _, _, rfl, s2.trans s3, s2.free nla, s3 _ _ hD2, hla, hacc⟩
    · rintro σ H2 ⟨o, us, y2, y3, y4, y5, rfl, s2, no, hD2, ho, hus⟩
      rw [List.length_map, List.take_length] at hus
      have few := lacks_few hn r0 r1 (i := (Ff.pls n r).length) (by omega)
      have hpart := fun L => lacks_part (L := L) (Nat.le_refl (Ff.pls n r).length)
      rw [List.take_length] at few hpart
      generalize Ff.lacksOf (Ff.pls n r) = M at *
      have hul := Paired.length hus
      refine ⟨_, rfl, o, rfl, ⟨_, SqL.of ho⟩, fun D2 nD2 => ?_⟩
      refine lc_list (xs := us) (fun j H' => Same H2 H' ∧ ∃ acc, H' D2 = some (.lst acc) ∧ RTs H' acc ((M.take j).map srt)) ⟨new_same nD2 _, [], upd_same, .nil⟩ (fun j H' _ p => SqL.of (p.1 _ _ ho)) ?_ ?_
      · rintro j x H3 hx ⟨s3, acc, hD3, hacc⟩
        obtain ⟨L, hL, hxL⟩ := Paired.at hus hx
        obtain ⟨b, ws, rfl, hb, hws⟩ := hxL.same s3
        obtain ⟨h1, h2⟩ := hpart L (List.mem_of_getElem? hL)
        have h3 := flat_few h1 h2
        have h4 := apart_few h1
        have hj := (List.getElem?_eq_some_iff.mp hx).1
        have hal := Paired.length hacc
        rw [List.length_map, List.length_take] at hal
        refine ⟨rfl, ?_⟩
        refine ⟨_, rfl, b, ws, L, rfl, .inr hb, hws, fun S hS => (h1 S hS).ne, by omega, fun l5 vs n5 hvs => ⟨l5, vs, rfl, upd_same, fun t6 n6 => ?_⟩⟩
        have p5 : Same H3 (upd H3 l5 (.lst vs)) := new_same n5 _
        have p6' := new_same n6 (.tup vs)
        have p6 := p5.trans p6'
        refine ⟨acc, p6 _ _ hD3, small1000 (by omega), upd_sameN nD2 (s3.trans p6) _, _, upd_same, ?_⟩
        rw [List.take_add_one, hL, Option.toList_some, List.map_append]
        exact RTs.put (Paired.app (RTs.same hacc p6) (Paired.one ⟨t6, vs, rfl, upd_same, ITs.same hvs p6⟩)) (p6 _ _ hD3)
      · rintro H3 ⟨s3, acc, hD3, hacc⟩
        rw [hul, List.take_length] at hacc
        exact q H3 D2 acc (s2.trans s3) (s2.free nD2) hD3 hacc
end
end Fw
end

section
set_option linter.all false
set_option maxRecDepth 100000
/-! The law's net: plain words of rows mixed. -/
namespace Fw
open PySem PySem.Spec PyProof.Rows L2
def toI : V → Int
  | .int i => i
  | _ => 0
theorem toI_map : ∀ ns : List Int, (ns.map V.int).map toI = ns
  | [] => rfl
  | n :: ns => by
    rw [List.map_cons, List.map_cons, toI_map ns]
    rfl
/-- ints mixed are ints mixed -/
theorem ints_perm {ys : List V} {ns : List Int} (h : ys.Perm (ns.map V.int)) : ∃ zs : List Int, ys = zs.map V.int ∧ zs.Perm ns := by
  refine ⟨ys.map toI, ?_, ?_⟩
  · rw [List.map_map]
    refine (List.map_id ys).symm.trans (List.map_congr_left fun y hy => ?_)
    obtain ⟨i, _, rfl⟩ := List.mem_map.mp (h.mem_iff.mp hy)
    rfl
  · have e := h.map toI
    rw [toI_map] at e
    exact e
theorem paired_perm {α β : Type} {R : α → β → Prop} {as as' : List α} (h : as'.Perm as) : ∀ {bs : List β}, Paired R as bs → ∃ bs', bs'.Perm bs ∧ Paired R as' bs' := by
  induction h with
  | nil => intro bs r; exact ⟨bs, .refl _, r⟩
  | cons x _ ih =>
    intro bs r
    cases r with
    | cons r t =>
      obtain ⟨bs', h1, h2⟩ := ih t
      exact ⟨_ :: bs', h1.cons _, .cons r h2⟩
  | swap x y l =>
    intro bs r
    cases r with
    | cons r t =>
      cases t with
      | cons r2 t => exact ⟨_, List.Perm.swap _ _ _, .cons r2 (.cons r t)⟩
  | trans _ _ ih1 ih2 =>
    intro bs r
    obtain ⟨b1, h1, r1⟩ := ih2 r
    obtain ⟨b2, h2, r2⟩ := ih1 r1
    exact ⟨b2, h2.trans h1, r2⟩
theorem ips_its {H : Hp} : ∀ {vs : List V} {ls : Ff.Lks}, IPs H vs ls → ITs H vs (ls.map fun e => [e.1, e.2])
  | _, _, .nil => .nil
  | _, _, .cons r t => .cons r (ips_its t)
theorem rgV_ints (n : Nat) : rgV 0 (n : Int) = ((List.range n).map fun (i : Nat) => (i : Int)).map V.int := by
  unfold rgV
  rw [List.map_map, Int.sub_zero, Int.toNat_natCast]
  refine List.map_congr_left fun i _ => ?_
  show V.int (0 + (i : Int)) = V.int (i : Int)
  rw [Int.zero_add]
theorem pls_tab : (List.range 7).all (fun n => (List.range n).all fun r => decide ((Ff.pls n (r : Nat)).length + 1 = n)) = true := by decide +kernel
theorem pls_length {n : Nat} {r : Int} (hn : n ≤ 6) (r0 : 0 ≤ r) (r1 : r < n) : (Ff.pls n r).length + 1 = n := by
  obtain ⟨k, rfl⟩ := Int.eq_ofNat_of_zero_le r0
  have h1 := List.all_eq_true.mp pls_tab n (List.mem_range.mpr (by omega))
  exact of_decide_eq_true (List.all_eq_true.mp h1 k (List.mem_range.mpr (by omega)))
/-- a row: the root, then all other places -/
structure RowOk (n : Nat) (row : List Int) : Prop where
  len : row.length = n
  nd : row.Nodup
  rg : ∀ x, x ∈ row → 0 ≤ x ∧ x < n
theorem rowOk {n : Nat} {r : Int} {zs : List Int} (hn : n ≤ 6) (r0 : 0 ≤ r) (r1 : r < n) (h : zs.Perm ((List.range n).map fun (i : Nat) => (i : Int))) : RowOk n (r :: zs.filter fun p => decide (p ≠ r)) := by
  have hp : (zs.filter fun p => decide (p ≠ r)).Perm (Ff.pls n r) := h.filter _
  refine ⟨?_, ?_, fun x hx => ?_⟩
  · rw [List.length_cons, hp.length_eq, pls_length hn r0 r1]
  · refine List.nodup_cons.mpr ⟨fun z => ?_, hp.nodup_iff.mpr (Ff.asc_nodup (Ff.asc_pls n r))⟩
    have := of_decide_eq_true (List.mem_filter.mp z).2
    exact this rfl
  · rcases List.mem_cons.mp hx with e | hx
    · rw [e]
      exact ⟨r0, r1⟩
    · have := Ff.mem_pls.mp (hp.mem_iff.mp hx)
      exact ⟨this.1, this.2.1⟩
theorem row_pair {n : Nat} {row : List Int} (h : RowOk n row) {i j : Nat} {x y : Int} (hx : row[i]? = some x) (hy : row[j]? = some y) (hij : i < j) : (0 ≤ x ∧ x < n) ∧ (0 ≤ y ∧ y < n) ∧ x ≠ y := by
  refine ⟨h.rg x (List.mem_of_getElem? hx), h.rg y (List.mem_of_getElem? hy), ?_⟩
  obtain ⟨i1, e1⟩ := List.getElem?_eq_some_iff.mp hx
  obtain ⟨i2, e2⟩ := List.getElem?_eq_some_iff.mp hy
  rw [← e1, ← e2]
  exact List.pairwise_iff_getElem.mp h.nd i j i1 i2 hij
theorem turned_ne {n one k : Int} (h0 : 0 ≤ one) (h1 : one < n) (k0 : 0 ≤ k) (k1 : k < n - 1) : (0 ≤ (one + 1 + k) % n ∧ (one + 1 + k) % n < n) ∧ one ≠ (one + 1 + k) % n := by
  have hn : 0 < n := by omega
  refine ⟨⟨Int.emod_nonneg _ (by omega), Int.emod_lt_of_pos _ hn⟩, ?_⟩
  by_cases c : one + 1 + k < n
  · rw [Int.emod_eq_of_lt (by omega) c]
    omega
  · have e : (one + 1 + k) % n = one + 1 + k - n := by
      rw [← Int.sub_emod_right]
      exact Int.emod_eq_of_lt (by omega) (by omega)
    rw [e]
    omega
theorem linksOk_app {n : Nat} {a b : Ff.Lks} (ha : LinksOk n a) (hb : LinksOk n b) : LinksOk n (a ++ b) := fun e h => (List.mem_append.mp h).elim (ha e) (hb e)
theorem linksOk_one {n : Nat} {e : Int × Int} (h : (0 ≤ e.1 ∧ e.1 < n) ∧ (0 ≤ e.2 ∧ e.2 < n) ∧ e.1 ≠ e.2) : LinksOk n [e] := fun x hx => by
  rw [List.mem_singleton.mp hx]
  exact h
end Fw
end

section
set_option linter.all false
set_option maxRecDepth 100000
/-! The walk of the law: its net. -/
namespace Fw
open PySem PySem.Spec PyProof.Rows L2
/-- links at lk while the hand is drawn from -/
def NetSt (H : Hp) (p c lk : Addr) (n k : Nat) (H' : Hp) : Prop := HandAt H' p c ∧ SX p H H' ∧ ∃ us ls, H' lk = some (.lst us) ∧ IPs H' us ls ∧ LinksOk n ls ∧ ls.length ≤ k
theorem NetSt.same {H H1 H2 : Hp} {p c lk : Addr} {n k : Nat} (h : NetSt H p c lk n k H1) (s : Same H1 H2) : NetSt H p c lk n k H2 := by
  obtain ⟨h1, h2, us, ls, e, i, o, z⟩ := h
  exact ⟨h1.same s, h2.trans (.of s), us, ls, s _ _ e, IPs.same i s, o, z⟩
theorem NetSt.sx {H H1 H2 : Hp} {p c lk : Addr} {n k : Nat} (h : NetSt H p c lk n k H1) (hp : HandAt H2 p c) (s : SX p H1 H2) (hl : lk ≠ p) : NetSt H p c lk n k H2 := by
  obtain ⟨h1, h2, us, ls, e, i, o, z⟩ := h
  exact ⟨hp, h2.trans s, us, ls, s _ _ hl e, s.ips i h1, o, z⟩
theorem NetSt.le {H H1 : Hp} {p c lk : Addr} {n k k' : Nat} (h : NetSt H p c lk n k H1) (hk : k ≤ k') : NetSt H p c lk n k' H1 := by
  obtain ⟨h1, h2, us, ls, e, i, o, z⟩ := h
  exact ⟨h1, h2, us, ls, e, i, o, Nat.le_trans z hk⟩
theorem NetSt.add {H H1 : Hp} {p c lk : Addr} {n k : Nat} (hh : HandAt H1 p c) (s : SX p H H1) (hlk : H lk = none) (hp : lk ≠ p) (hc : lk ≠ c) {us : List V} {ls : Ff.Lks} {v : V} {e : Int × Int} (hl : H1 lk = some (.lst us)) (hi : IPs H1 us ls) (ho : LinksOk n ls) (hz : ls.length ≤ k)
    (hv : IP H1 v e) (he : LinksOk n [e]) : NetSt H p c lk n (k + 1) (upd H1 lk (.lst (us ++ [v]))) := by
  refine ⟨hh.apart (upd_ne (Ne.symm hp)) (upd_ne (Ne.symm hc)), fun b o nb q => ?_, us ++ [v], ls ++ [e], upd_same, IPs.put (Paired.app hi (Paired.one hv)) hl, linksOk_app ho he, by rw [List.length_append, List.length_singleton]; omega⟩
  rw [upd_ne (ne_of_none q hlk)]
  exact s _ _ nb q
section
variable {P : Program} {w : World} {K : PySem.W.Frag} {mg : Str → Option Value} {base : Heap} {C : Addr}
def NetMid (H : Hp) (p c : Addr) (k : Nat) (σ : L2.St) (H' : Hp) : Prop := ∃ (n : Nat) (r : Int) (lk : Addr) (way : Int) (y7 y8 y9 : Option V), σ = [some (.ref p), some (.int 6), some (.int 40), some (.int (n : Nat)), some (.int r), some (.ref lk), some (.int way), y7, y8, y9, none, none, none] ∧
  2 ≤ n ∧ n ≤ 6 ∧ 0 ≤ r ∧ r < n ∧ H lk = none ∧ NetSt H p c lk n k H'
def spLNet : Sp := fun vs H Q _ => ∃ (p c : Addr), vs = [.ref p, .int 6, .int 40] ∧ HandAt H p c ∧ ∀ H' a n r ls, HandAt H' p c → SX p H H' → LNetAt H' a n r ls → NetOk n r ls → Q (.ref a) H'
theorem ok_l_net (B : Bt mg) (F : FunAt K mg "_law_net" s_l_net ["_law_hand_here", "_law_places", "_law_most"]) (G : Fn P w K mg base 1 "_law_draw" ["_law_hand_here", "_law_many"] spDraw) (G2 : Fn P w K mg base 2 "_law_mixed" ["_law_hand_here", "_law_items"] spMixed)
    (G3 : Fn P w K mg base 2 "_law_any" ["_law_hand_here", "_law_items"] spAny) : Fn P w K mg base 3 "_law_net" ["_law_hand_here", "_law_places", "_law_most"] spLNet := F.fn fun f fd F => by
  refine F.ok sc_l_net (fun vs H Q E h => ?_) (fun cdv A outer s H vs Q E hr h => ?_)
  · obtain ⟨p, c, rfl, _⟩ := h
    rfl
  · obtain ⟨p, c, rfl, hh, q⟩ := h
    have hr1 : Room 1 _ := hr.mono (by decide)
    refine ⟨_, pss_cons (ps_set (i := 3) sc_l_net.nd rfl (.inl rfl) (pe_op op_add pe_int (pe_fn G hr1 (pa_cons (pv 0) (pa_cons (pe_op op_sub (pv 1) pe_int) pa_nil)))))
      (pss_cons (ps_asg (pe_tup (pa_cons (pe_fn G hr1 (pa_cons (pv 0) (pa_cons (pv 3) pa_nil))) (pa_cons (pe_lst pa_nil) (pa_cons (pe_fn G hr1 (pa_cons (pv 0) (pa_cons pe_int pa_nil))) pa_nil))))
          (pg_tup rfl (pgs_cons (pg_name (i := 4) sc_l_net.nd rfl (.inr rfl)) (pgs_cons (pg_name (i := 5) sc_l_net.nd rfl (.inl rfl)) (pgs_cons (pg_name (i := 6) sc_l_net.nd rfl (.inl rfl)) pgs_nil)))))
      (pss_cons (ps_cut (NetMid H p c 15) (ps_if (pt_cmpR op_gt (pv 6) pe_int (nomark _))
          (pss_one (ps_for PassesOwn.never rfl (pi_range1 (by rfl) B.range (pa_cons (pe_fn G hr1 (pa_cons (pv 0) (pa_cons pe_int pa_nil))) pa_nil)) (pg_name (i := 7) sc_l_net.nd rfl (.inl rfl))
            (pss_cons (ps_set (i := 8) sc_l_net.nd rfl (.inl rfl) (pe_op op_cat (pe_lst (pa_cons (pv 4) pa_nil)) (pe_lc (own := [("_law_place", 12)]) (g := gName 12) (tt := tTest (tOp rNe (tVar 12) (tVar 4))) (te := tVar 12) rfl sc_l_net.nd
                (pi_list (pe_fn G2 hr (pa_cons (pv 0) (pa_cons (pe_listRg rfl (by rfl) B.list (prg_1 (by rfl) B.range (pv 3))) pa_nil)))) (blkOk_by (N := N_l_net) (sc := defScope s_l_net) (by decide +kernel)) (fun _ _ _ _ _ => pg_name (i := 12) sc_l_net.nd rfl (Or.inl rfl))
                (fun _ _ _ _ _ => pts_one (pt_cmpR op_ne (pv 12) (pv 4) (nomark _))) (fun _ _ _ _ _ => pv 12))))
            (pss_one (ps_for PassesOwn.never rfl (pi_range2 (by rfl) B.range (pa_cons pe_int (pa_cons (pv 3) pa_nil))) (pg_name (i := 9) sc_l_net.nd rfl (.inl rfl))
              (pss_one (ps_app (pv 5) (pe_tup (pa_cons (pe_ix ix_list (pv 8) (pe_fn G hr1 (pa_cons (pv 0) (pa_cons (pv 9) pa_nil))) (fun _ _ => rfl)) (pa_cons (pe_ix ix_list (pv 8) (pv 9) (fun _ _ => rfl)) pa_nil))))))))) ) pss_nil))
      (pss_cons (ps_for PassesOwn.never rfl (pi_range1 (by rfl) B.range (pa_cons (pe_fn G hr1 (pa_cons (pv 0) (pa_cons (pe_op op_add (pv 2) pe_int) pa_nil))) pa_nil)) (pg_name (i := 7) sc_l_net.nd rfl (.inl rfl))
        (pss_cons (ps_set (i := 10) sc_l_net.nd rfl (.inl rfl) (pe_fn G hr1 (pa_cons (pv 0) (pa_cons (pv 3) pa_nil))))
        (pss_cons (ps_set (i := 11) sc_l_net.nd rfl (.inl rfl) (pe_op op_mod (pe_callTy call_int1 (by rfl) B.int bt_int (pa_cons (pe_op op_add (pe_op op_add (pv 10) pe_int) (pe_fn G hr1 (pa_cons (pv 0) (pa_cons (pe_op op_sub (pv 3) pe_int) pa_nil)))) pa_nil)) (pv 3)))
        (pss_one (ps_app (pv 5) (pe_ifExp (PW.pt (pw_and (pt_cmpR op_eq (pv 6) pe_int (nomark _)) (pw_and (pt_cmpR (op_neD hr.units) (pv 5) (pe_lst pa_nil) (nomark _)) (pw_and1 (pt_cmpR op_eq (pe_fn G hr1 (pa_cons (pv 0) (pa_cons pe_int pa_nil))) pe_int (nomark _))))))
          (pe_fn G3 hr (pa_cons (pv 0) (pa_cons (pv 5) pa_nil))) (pe_tup (pa_cons (pv 10) (pa_cons (pv 11) pa_nil)))))))))
      (pss_one (ps_ret (pe_tup (pa_cons (pv 3) (pa_cons (pv 4) (pa_cons (pe_callTy call_tupL (by rfl) B.tuple bt_tuple (pa_cons (pe_fn G2 hr (pa_cons (pv 0) (pa_cons (pe_slice sl_list (pv 5) po_none (po_some (pv 2))) pa_nil))) pa_nil)) pa_nil))))))))), ?_⟩
    obtain ⟨us0, hp⟩ := hh.lst
    obtain ⟨us1, hc⟩ := hh.cell
    refine ⟨_, rfl, _, rfl, 6, 1, rfl, rfl, p, c, _, rfl, hh, by omega, by omega, fun H1 j j0 j1 hh1 s1 => ⟨2, j, rfl, rfl, ?_⟩⟩
    dsimp only
    obtain ⟨n, hn⟩ : ∃ n : Nat, 2 + j = (n : Int) := ⟨(2 + j).toNat, by omega⟩
    rw [hn]
    have n2 : 2 ≤ n := by omega
    have n6 : n ≤ 6 := by omega
    refine ⟨_, rfl, _, rfl, p, c, _, rfl, hh1, by omega, by omega, fun H2 r r0 r1 hh2 s2 => ⟨Nat.zero_le _, fun lk nlk => ?_⟩⟩
    have sK : Same H2 (upd H2 lk (.lst [])) := new_same nlk _
    have hK : (upd H2 lk (.lst [])) lk = some (.lst []) := upd_same
    have s02 : SX p H H2 := s1.trans s2
    have nlkH : H lk = none := s02.free hh2 nlk
    have lkp : lk ≠ p := fun e => by
      rw [e, hp] at nlkH
      cases nlkH
    have lkc : lk ≠ c := fun e => by
      rw [e, hc] at nlkH
      cases nlkH
    have hhK := hh2.same sK
    have s0K := s02.trans (.of sK)
    generalize upd H2 lk (.lst []) = HK at *
    refine ⟨_, rfl, p, c, 4, rfl, hhK, by omega, by omega, fun H3 way w0 w1 hh3 s3 => ⟨s1000 (by show 3 ≤ 1000; decide), fun t nt => ?_⟩⟩
    refine ⟨t, _, rfl, SqT.of upd_same, rfl, _, _, rfl, _, _, rfl, _, _, rfl, rfl, ?_⟩
    have st3 : NetSt H p c lk n 0 H3 := ⟨hh3, s0K.trans s3, [], [], s3 _ _ lkp hK, .nil, (fun e h => nomatch h), Nat.le_refl _⟩
    have st4 : NetSt H p c lk n 0 (upd H3 t (.tup [.int r, .ref lk, .int way])) := st3.same (new_same nt _)
    generalize upd H3 t (.tup [.int r, .ref lk, .int way]) = H4 at *
    refine ⟨?_, ?_⟩
    · refine ⟨_, rfl, _, _, rfl, rfl, _, rfl, ?_⟩
      refine ite2 (fun c1 => ?_) (fun c1 => ⟨n, r, lk, way, none, none, none, rfl, n2, n6, r0, r1, nlkH, st4.le (by omega)⟩)
      refine ⟨_, rfl, p, c, 4, rfl, st4.1, by omega, by omega, fun H5 k k0 k1 hh5 s5 => ⟨k, rfl, by omega, by omega, ?_⟩⟩
      have st5 := st4.sx hh5 s5 lkp
      refine for_range (fun i σ H' => ∃ y7 y8 y9, σ = [some (.ref p), some (.int 6), some (.int 40), some (.int (n : Nat)), some (.int r), some (.ref lk), some (.int way), y7, y8, y9, none, none, none] ∧ NetSt H p c lk n (5 * i) H') ⟨none, none, none, rfl, st5⟩ ?_ ?_
      · rintro i σ H6 hi ⟨y7, y8, y9, rfl, st6⟩
        refine ⟨_, rfl, s1000 (by show 1 ≤ 1000; decide), fun l1 nl1 => ?_⟩
        have q1 : Same H6 (upd H6 l1 (.lst [.int r])) := new_same nl1 _
        have hl1 : (upd H6 l1 (.lst [.int r])) l1 = some (.lst [.int r]) := upd_same
        have l1p : l1 ≠ p := fun e => by
          obtain ⟨us, hu⟩ := st6.1.lst
          rw [e, hu] at nl1
          cases nl1
        have st7 := st6.same q1
        generalize upd H6 l1 (.lst [.int r]) = H7 at *
        refine ⟨_, rfl, _, rfl, n, rfl, .of_le (by omega) (by omega) (by omega) (by omega), fun l2 nl2 => ?_⟩
        have q2 : Same H7 (upd H7 l2 (.lst (rgV 0 n))) := new_same nl2 _
        have hl2 : (upd H7 l2 (.lst (rgV 0 n))) l2 = some (.lst (rgV 0 n)) := upd_same
        have l2p : l2 ≠ p := fun e => by
          obtain ⟨us, hu⟩ := st7.1.lst
          rw [e, hu] at nl2
          cases nl2
        have st8 := st7.same q2
        have hl18 := q2 _ _ hl1
        generalize upd H7 l2 (.lst (rgV 0 n)) = H8 at *
        refine ⟨p, c, l2, _, rfl, st8.1, l2p, hl2, by rw [rgV_length]; omega, fun H9 l3 ys hpm hh9 s9 nl3 hl3 => ?_⟩
        have st9 := st8.sx hh9 s9 lkp
        have hl19 := s9 _ _ l1p hl18
        rw [rgV_ints] at hpm
        obtain ⟨zs, rfl, hzs⟩ := ints_perm hpm
        have hzl := hzs.length_eq
        rw [List.length_map, List.length_range] at hzl
        have rok := rowOk n6 r0 r1 hzs
        refine ⟨l3, rfl, ⟨_, SqL.of hl3⟩, fun D nD => ?_⟩
        refine lc_list (xs := zs.map V.int) (fun j H' => Same H9 H' ∧ H' D = some (.lst (((zs.take j).filter fun p => decide (p ≠ r)).map V.int))) ⟨new_same nD _, upd_same⟩ (fun j H' _ p => SqL.of (p.1 _ _ hl3)) ?_ ?_
        · rintro j x H10 hx ⟨s10, hD⟩
          rw [List.getElem?_map] at hx
          obtain ⟨v, hv, rfl⟩ := Option.map_eq_some_iff.mp hx
          have hj := (List.getElem?_eq_some_iff.mp hv).1
          refine ⟨rfl, ?_⟩
          refine ⟨_, rfl, _, rfl, rfl, _, rfl, ?_⟩
          have et : (zs.take (j + 1)).filter (fun p => decide (p ≠ r)) = (zs.take j).filter (fun p => decide (p ≠ r)) ++ [v].filter fun p => decide (p ≠ r) := by
            rw [List.take_add_one, hv, Option.toList_some, List.filter_append]
          have ec : (!decide (V.int v = V.int r)) = decide (v ≠ r) := by
            by_cases e : v = r
            · subst e; simp
            · have e' : ¬ V.int v = V.int r := fun z => e (V.int.inj z)
              rw [decide_eq_false e', decide_eq_true e]
              rfl
          rw [ec]
          refine ite2 (fun c2 => ?_) (fun c2 => ?_)
          · refine ⟨_, rfl, _, hD, ?_, upd_sameN nD s10 _, ?_⟩
            · rw [List.length_map]
              have := List.length_filter_le (fun p => decide (p ≠ r)) (zs.take j)
              rw [List.length_take] at this
              exact small1000 (by omega)
            · rw [upd_same, et, filt1 (p := fun p => decide (p ≠ r)) c2, List.map_append]
              rfl
          · refine ⟨s10, ?_⟩
            rw [et, filt0 (p := fun p => decide (p ≠ r)) c2, List.append_nil]
            exact hD
        rintro H10 ⟨s10, hD⟩
        rw [List.length_map, List.take_length] at hD
        have hfl := rok.len
        rw [List.length_cons] at hfl
        refine ⟨l1, D, _, _, rfl, rfl, s10 _ _ hl19, hD, ?_, fun l4 nl4 => ?_⟩
        · rw [List.length_map, List.length_singleton]
          exact s1000 (by omega)
        have st11 := (st9.same s10).same (new_same nl4 (.lst ([V.int r] ++ (zs.filter fun p => decide (p ≠ r)).map V.int)))
        have hl4 : (upd H10 l4 (.lst ([V.int r] ++ (zs.filter fun p => decide (p ≠ r)).map V.int))) l4 = some (.lst ((r :: zs.filter fun p => decide (p ≠ r)).map V.int)) := by
          rw [upd_same]
          rfl
        have l4p : l4 ≠ p := fun e => by
          obtain ⟨us, hu⟩ := (st9.same s10).1.lst
          rw [e, hu] at nl4
          cases nl4
        have l4k : l4 ≠ lk := fun e => by
          obtain ⟨_, _, us, ls, hu, _⟩ := st9.same s10
          rw [e, hu] at nl4
          cases nl4
        generalize upd H10 l4 (.lst ([V.int r] ++ (zs.filter fun p => decide (p ≠ r)).map V.int)) = H11 at *
        generalize (r :: zs.filter fun p => decide (p ≠ r)) = row at *
        have rl := rok.len
        refine ⟨_, rfl, 1, n, rfl, ⟨by omega, by omega, by omega, by omega⟩, ?_⟩
        rw [show ((n : Int) - 1).toNat = n - 1 by omega]
        refine for_range (fun j σ H' => ∃ y9, σ = [some (.ref p), some (.int 6), some (.int 40), some (.int (n : Nat)), some (.int r), some (.ref lk), some (.int way), some (.int (0 + (i : Nat))), some (.ref l4), y9, none, none, none] ∧ NetSt H p c lk n (5 * i + j) H' ∧ H' l4 = some (.lst (row.map V.int)))
          ⟨y9, rfl, st11, hl4⟩ ?_ ?_
        · rintro j σ H12 hj ⟨y9, rfl, st12, hl412⟩
          obtain ⟨_, _, us, ls, hlk, _⟩ := id st12
          refine ⟨_, rfl, tyL hlk, ?_⟩
          refine ⟨_, rfl, _, rfl, _, rfl, p, c, _, rfl, st12.1, by omega, by omega, fun H13 d d0 d1 hh13 s13 => ?_⟩
          have st13 := st12.sx hh13 s13 lkp
          have hl413 := s13 _ _ l4p hl412
          obtain ⟨e, rfl⟩ := Int.eq_ofNat_of_zero_le d0
          have he : e < row.length := by omega
          have hj1 : 1 + j < row.length := by omega
          have gx : (row.map V.int)[e]? = some (.int row[e]) := by
            rw [List.getElem?_map, List.getElem?_eq_getElem he]
            rfl
          have gy : (row.map V.int)[1 + j]? = some (.int row[1 + j]) := by
            rw [List.getElem?_map, List.getElem?_eq_getElem hj1]
            rfl
          have rp := row_pair rok (List.getElem?_eq_getElem he) (List.getElem?_eq_getElem hj1) (by omega)
          refine ⟨l4, _, _, _, rfl, rfl, SqL.of hl413, atI_nat gx, ?_⟩
          refine ⟨_, rfl, _, rfl, l4, _, ((1 + j : Nat) : Int), _, rfl, ?_, SqL.of hl413, atI_nat gy, s1000 (by show 2 ≤ 1000; decide), fun t2 nt2 => ?_⟩
          · show V.int (1 + (j : Int)) = V.int ((1 + j : Nat) : Int)
            rw [Int.natCast_add]
            rfl
          have q14 : Same H13 (upd H13 t2 (.tup [.int row[e], .int row[1 + j]])) := new_same nt2 _
          have st14 := st13.same q14
          have hl414 := q14 _ _ hl413
          have ht2 : (upd H13 t2 (.tup [.int row[e], .int row[1 + j]])) t2 = some (.tup [.int row[e], .int row[1 + j]]) := upd_same
          generalize upd H13 t2 (.tup [.int row[e], .int row[1 + j]]) = H14 at *
          obtain ⟨a1, a2, us2, ls2, hlk2, hi2, ho2, hz2⟩ := id st14
          have hul := Paired.length hi2
          refine ⟨lk, us2, .ref t2, rfl, rfl, hlk2, small1000 (by omega), ?_⟩
          refine ⟨_, rfl, NetSt.add a1 a2 nlkH lkp lkc hlk2 hi2 ho2 hz2 (e := (row[e], row[1 + j])) ⟨t2, rfl, ht2⟩ (linksOk_one rp), ?_⟩
          rw [upd_ne l4k]
          exact hl414
        · rintro σ H12 ⟨y9, rfl, st12, _⟩
          exact ⟨_, _, _, rfl, st12.le (by omega)⟩
      · rintro σ H6 ⟨y7, y8, y9, rfl, st6⟩
        exact ⟨n, r, lk, way, y7, y8, y9, rfl, n2, n6, r0, r1, nlkH, st6.le (by omega)⟩
    · rintro σ H4 ⟨n, r, lk, way, y7, y8, y9, rfl, n2, n6, r0, r1, nlkH, st4⟩
      have lkp : lk ≠ p := fun e => by
        rw [e, hp] at nlkH
        cases nlkH
      have lkc : lk ≠ c := fun e => by
        rw [e, hc] at nlkH
        cases nlkH
      refine ⟨_, rfl, _, rfl, 40, 1, rfl, rfl, p, c, _, rfl, st4.1, by omega, by omega, fun H5 k k0 k1 hh5 s5 => ⟨k, rfl, by omega, by omega, ?_⟩⟩
      have st5 := st4.sx hh5 s5 lkp
      refine for_range (fun i σ H' => ∃ y7 y8 y9 y10 y11, σ = [some (.ref p), some (.int 6), some (.int 40), some (.int (n : Nat)), some (.int r), some (.ref lk), some (.int way), y7, y8, y9, y10, y11, none] ∧ NetSt H p c lk n (15 + i) H') ⟨y7, y8, y9, none, none, rfl, st5⟩ ?_ ?_
      · rintro i σ H6 hi ⟨y7, y8, y9, y10, y11, rfl, st6⟩
        refine ⟨_, rfl, _, rfl, p, c, _, rfl, st6.1, by omega, by omega, fun H7 o1 o10 o11 hh7 s7 => ?_⟩
        have st7 := st6.sx hh7 s7 lkp
        refine ⟨_, rfl, o1, 1, rfl, rfl, ?_⟩
        refine ⟨_, rfl, _, rfl, n, 1, rfl, rfl, p, c, _, rfl, hh7, by omega, by omega, fun H8 e e0 e1 hh8 s8 => ⟨_, e, rfl, rfl, .inl ⟨_, rfl, ?_⟩⟩⟩
        have st8 := st7.sx hh8 s8 lkp
        obtain ⟨okr, okn⟩ := turned_ne o10 o11 e0 e1
        refine ⟨_, rfl, _, n, rfl, rfl, by omega, ?_⟩
        dsimp only
        generalize (o1 + 1 + e) % (n : Int) = o2 at *
        have okp : (0 ≤ (o1, o2).1 ∧ (o1, o2).1 < (n : Int)) ∧ (0 ≤ (o1, o2).2 ∧ (o1, o2).2 < (n : Int)) ∧ (o1, o2).1 ≠ (o1, o2).2 := ⟨⟨o10, o11⟩, okr, okn⟩
        obtain ⟨_, _, us, ls, hlk, hi8, ho8, hz8⟩ := id st8
        refine ⟨_, rfl, tyL hlk, ?_⟩
        refine ⟨_, rfl, rfl, _, rfl, ?_⟩
        refine ite2 (fun c1 => ?_) (fun c1 => ?_)
        · refine ⟨_, rfl, Nat.zero_le _, fun em nem => ?_⟩
          have qE : Same H8 (upd H8 em (.lst [])) := new_same nem _
          have hE : (upd H8 em (.lst [])) em = some (.lst []) := upd_same
          have st9 := st8.same qE
          have hlk9 := qE _ _ hlk
          have hi9 := IPs.same hi8 qE
          generalize upd H8 em (.lst []) = H9 at *
          refine ⟨.list ((ls.map fun e => [e.1, e.2]).map pdI), .list (([] : List (List Int)).map pdI), dp_list hlk9 (ips_its hi9), dp_list hE .nil, shaped_list _, shaped_list _, _, rfl, ?_⟩
          rw [eqv_lists]
          refine ite2 (fun c2 => ?_) (fun c2 => ?_)
          · refine ⟨_, rfl, p, c, 2, rfl, st9.1, by omega, by omega, fun HA z z0 z1 hhA sA => ⟨rfl, _, rfl, ?_⟩⟩
            have stA := st9.sx hhA sA lkp
            refine ite2 (fun c3 => ?_) (fun c3 => ?_)
            · obtain ⟨_, _, us2, ls2, hlk2, hi2, ho2, hz2⟩ := id stA
              have hul := Paired.length hi2
              have hne : us2 ≠ [] := fun z => by
                have e2 := sA _ _ lkp hlk9
                rw [hlk2, z] at e2
                cases e2
                cases hi9
                simp at c2
              refine ⟨_, rfl, _, rfl, p, c, lk, us2, rfl, hhA, lkp, hlk2, hne, by omega, fun HB x hx hhB sB => ?_⟩
              obtain ⟨e3, he3, hxe⟩ := Paired.mem hi2 hx
              have stB := stA.sx hhB sB lkp
              have hxB := sB.it hxe hhA
              obtain ⟨a1, a2, us3, ls3, hlk3, hi3, ho3, hz3⟩ := id stB
              have hul3 := Paired.length hi3
              refine ⟨lk, us3, x, rfl, rfl, hlk3, small1000 (by omega), ?_⟩
              exact ⟨_, _, _, _, _, rfl, NetSt.add a1 a2 nlkH lkp lkc hlk3 hi3 ho3 hz3 (e := e3) hxB (linksOk_one (ho2 e3 he3))⟩
            · skip
              refine ⟨_, rfl, _, rfl, s1000 (by show 2 ≤ 1000; decide), fun t2 nt2 => ?_⟩
              have q9 : Same HA (upd HA t2 (.tup [.int o1, .int o2])) := new_same nt2 _
              have st10 := stA.same q9
              have ht2 : (upd HA t2 (.tup [.int o1, .int o2])) t2 = some (.tup [.int o1, .int o2]) := upd_same
              generalize upd HA t2 (.tup [.int o1, .int o2]) = H10 at *
              obtain ⟨a1, a2, us2, ls2, hlk2, hi2, ho2, hz2⟩ := id st10
              have hul := Paired.length hi2
              refine ⟨lk, us2, .ref t2, rfl, rfl, hlk2, small1000 (by omega), ?_⟩
              exact ⟨_, _, _, _, _, rfl, NetSt.add a1 a2 nlkH lkp lkc hlk2 hi2 ho2 hz2 (e := (o1, o2)) ⟨t2, rfl, ht2⟩ (linksOk_one okp)⟩
          · skip
            refine ⟨_, rfl, _, rfl, s1000 (by show 2 ≤ 1000; decide), fun t2 nt2 => ?_⟩
            have q9 : Same H9 (upd H9 t2 (.tup [.int o1, .int o2])) := new_same nt2 _
            have st10 := st9.same q9
            have ht2 : (upd H9 t2 (.tup [.int o1, .int o2])) t2 = some (.tup [.int o1, .int o2]) := upd_same
            generalize upd H9 t2 (.tup [.int o1, .int o2]) = H10 at *
            obtain ⟨a1, a2, us2, ls2, hlk2, hi2, ho2, hz2⟩ := id st10
            have hul := Paired.length hi2
            refine ⟨lk, us2, .ref t2, rfl, rfl, hlk2, small1000 (by omega), ?_⟩
            exact ⟨_, _, _, _, _, rfl, NetSt.add a1 a2 nlkH lkp lkc hlk2 hi2 ho2 hz2 (e := (o1, o2)) ⟨t2, rfl, ht2⟩ (linksOk_one okp)⟩
        · skip
          refine ⟨_, rfl, _, rfl, s1000 (by show 2 ≤ 1000; decide), fun t2 nt2 => ?_⟩
          have q9 : Same H8 (upd H8 t2 (.tup [.int o1, .int o2])) := new_same nt2 _
          have st10 := st8.same q9
          have ht2 : (upd H8 t2 (.tup [.int o1, .int o2])) t2 = some (.tup [.int o1, .int o2]) := upd_same
          generalize upd H8 t2 (.tup [.int o1, .int o2]) = H10 at *
          obtain ⟨a1, a2, us2, ls2, hlk2, hi2, ho2, hz2⟩ := id st10
          have hul := Paired.length hi2
          refine ⟨lk, us2, .ref t2, rfl, rfl, hlk2, small1000 (by omega), ?_⟩
          exact ⟨_, _, _, _, _, rfl, NetSt.add a1 a2 nlkH lkp lkc hlk2 hi2 ho2 hz2 (e := (o1, o2)) ⟨t2, rfl, ht2⟩ (linksOk_one okp)⟩
      · rintro σ H6 ⟨y7, y8, y9, y10, y11, rfl, st6⟩
        obtain ⟨hh6, s6, us, ls, hlk, hi, ho, hz⟩ := id st6
        refine ⟨_, rfl, _, rfl, _, rfl, _, rfl, _, rfl, 40, rfl, lk, us, rfl, SqL.of hlk, fun l nl => ?_⟩
        rw [show (40 : Int) = ((40 : Nat) : Int) from rfl, cut_pre]
        have qL : Same H6 (upd H6 l (.lst (us.take 40))) := new_same nl _
        have hl : (upd H6 l (.lst (us.take 40))) l = some (.lst (us.take 40)) := upd_same
        have lp : l ≠ p := fun e => by
          obtain ⟨us, hu⟩ := hh6.lst
          rw [e, hu] at nl
          cases nl
        have hi7 := Paired.take 40 (IPs.same hi qL)
        have st7 := st6.same qL
        generalize upd H6 l (.lst (us.take 40)) = H7 at *
        have hlt : (us.take 40).length ≤ 40 := by rw [List.length_take]; omega
        refine ⟨p, c, l, _, rfl, st7.1, lp, hl, by omega, fun H8 l2 ys hpm hh8 s8 nl2 hl2 => ⟨l2, ys, rfl, hl2, fun t2 nt2 => ?_⟩⟩
        obtain ⟨ls2, hls2, hi8⟩ := paired_perm hpm hi7
        have st8 := st7.sx hh8 s8 lkp
        have hi9 := s8.ips hi8 st7.1
        have q9 : Same H8 (upd H8 t2 (.tup ys)) := new_same nt2 _
        refine ⟨s1000 (by show 3 ≤ 1000; decide), fun a na => ?_⟩
        have q10 := q9.trans (new_same na (.tup [.int (n : Nat), .int r, .ref t2]))
        refine q _ a n r ls2 (hh8.same q10) (st8.2.1.trans (.of q10)) ⟨t2, upd_same, ys, (new_same na _) _ _ upd_same, IPs.same hi9 q10⟩ ⟨n2, n6, r0, r1, ?_, fun e he => ho e (List.mem_of_mem_take (hls2.mem_iff.mp he))⟩
        rw [hls2.length_eq, List.length_take]
        omega
end
end Fw
end

section
set_option linter.all false
set_option maxRecDepth 100000
/-! The law's plain words at one net. -/
namespace Fw
open PySem PySem.Spec PyProof.Rows L2
theorem SX.lks {p c t : Addr} {H H' : Hp} {ls : Ff.Lks} (h : LksAt H t ls) (s : SX p H H') (hp : HandAt H p c) : LksAt H' t ls := by
  obtain ⟨vs, e, i⟩ := h
  obtain ⟨us, hu⟩ := hp.lst
  exact ⟨vs, s t _ (ne_of e hu (by intro z; cases z)) e, s.ips i hp⟩
theorem SX.lnet {p c a : Addr} {H H' : Hp} {n : Nat} {r : Int} {ls : Ff.Lks} (h : LNetAt H a n r ls) (s : SX p H H') (hp : HandAt H p c) : LNetAt H' a n r ls := by
  obtain ⟨t, e, l⟩ := h
  obtain ⟨us, hu⟩ := hp.lst
  exact ⟨t, s a _ (ne_of e hu (by intro z; cases z)) e, s.lks l hp⟩
theorem SX.net {C p c a : Addr} {H H' : Hp} {n : Nat} {r : Int} {ls : Ff.Lks} (h : NetAt C H a n r ls) (s : SX p H H') (hp : HandAt H p c) : NetAt C H' a n r ls := by
  obtain ⟨dx, t, e, l⟩ := h
  obtain ⟨us, hu⟩ := hp.lst
  exact ⟨dx, t, s a _ (ne_of e hu (by intro z; cases z)) e, s.lks l hp⟩
/-- what is put in, in all -/
def dueN (n : Nat) (r : Int) (ls : Ff.Lks) (m : Int) : Int := Ff.sm (leastN n r ls m) (Ff.pls n r)
def pairsN (n : Nat) (r : Int) (ls : Ff.Lks) (m : Int) : Ff.Lks := Ff.pairsOf r (leastN n r ls m) (Ff.pls n r)
structure LawOk (n : Nat) (r : Int) (ls : Ff.Lks) (m : Int) : Prop where
  due : ∀ d, d ∈ ((Ff.lacksOf (Ff.pls n r)).map srt).map (Ff.wsum (Ff.lackI m ls)) → (∀ y, y ∈ ((Ff.lacksOf (Ff.pls n r)).map srt).map (Ff.wsum (Ff.lackI m ls)) → y ≤ d) → d = dueN n r ls m
  side : ∀ S, S ∈ greatJ n r ls m → Ff.Side n r S
  apart : Ff.Apart (greatJ n r ls m)
  srtd : srt (greatJ n r ls m) = greatJ n r ls m
  lt : (greatJ n r ls m).Pairwise fun a b => a < b
  weight : Ff.wsum (Ff.lackI m ls) (greatJ n r ls m) = dueN n r ls m
  none : dueN n r ls m = 0 → greatJ n r ls m = []
  len : ((pairsN n r ls m).length : Int) = dueN n r ls m
  few : (pairsN n r ls m).length ≤ 200
  links : LinksOk n (pairsN n r ls m)
  lenough : ∀ S, S ∈ lsides n r → m ≤ ((Ff.ent (ls ++ pairsN n r ls m) S : Nat) : Int)
  enough : enoughB n r ls m (pairsN n r ls m) = true
  short : ∀ i, i < (pairsN n r ls m).length → enoughB n r ls m ((pairsN n r ls m).take i ++ (pairsN n r ls m).drop (i + 1)) = false
theorem law_ok {n : Nat} {r : Int} {ls : Ff.Lks} {m : Int} (ok : NetOk n r ls) (h0 : 0 ≤ m) (h1 : m ≤ 20) : LawOk n r ls m := by
  have F := fit_leastN (r := r) (ls := ls) (m := m) ok h0
  have hsd := mem_sides (r := r) ok.lo ok.hi
  have j := F.lack hsd
  have hside : ∀ S, S ∈ Ff.joined ((sides n r).filter (Ff.tightB ls m (leastN n r ls m))) → Ff.Side n r S := fun S hS => (j.tight S hS).side
  have hp := srt_perm (Ff.joined ((sides n r).filter (Ff.tightB ls m (leastN n r ls m))))
  have pf : ∀ p, p ∈ Ff.pls n r → 0 ≤ p ∧ p < n ∧ p ≠ r := fun p h => Ff.mem_pls.mp h
  refine ⟨fun d hd hm => ?_, fun S hS => hside S (hp.mem_iff.mp hS), apart_perm hp j.apart, srt_srt _, srt_lt j.apart fun S hS => (hside S hS).ne, ?_, fun e => ?_, Ff.pairsOf_len r F.nn _, ?_, ?_, fun S hS => ?_, ?_, fun i hi => ?_⟩
  · have e : ((Ff.lacksOf (Ff.pls n r)).map srt).map (Ff.wsum (Ff.lackI m ls)) = (Ff.lacksOf (Ff.pls n r)).map (Ff.wsum (Ff.lackI m ls)) := by
      rw [List.map_map]
      exact List.map_congr_left fun L _ => Ff.wsum_perm (srt_perm L)
    rw [e] at hd hm
    exact F.due j hd hm
  · exact (Ff.wsum_perm hp).trans j.weight
  · have e2 : Ff.joined ((sides n r).filter (Ff.tightB ls m (leastN n r ls m))) = [] := by
      refine List.eq_nil_iff_forall_not_mem.mpr fun S hS => ?_
      have h1 := j.pos S hS
      have s := hside S hS
      have h2 : Ff.sm (leastN n r ls m) S ≤ Ff.sm (leastN n r ls m) (Ff.pls n r) := by
        have e3 := Ff.sm_split (leastN n r ls m) (fun q => decide (q ∈ S)) (Ff.pls n r)
        rw [← s.eq] at e3
        have : 0 ≤ Ff.sm (leastN n r ls m) ((Ff.pls n r).filter fun q => !decide (q ∈ S)) := Ff.sm_nn fun q _ => F.nn q
        omega
      unfold dueN at e
      omega
    unfold greatJ
    rw [e2]
    exact List.perm_nil.mp (srt_perm [])
  · have h2 := pairs_len (r := r) (fun q => Int.le_trans (F.le q) h1) (Ff.pls n r)
    have h3 := pls_len n r
    have h4 := ok.hi
    unfold pairsN
    omega
  · intro e he
    obtain ⟨e1, e2, _⟩ := Ff.mem_pairsOf he
    obtain ⟨a, b, c⟩ := pf _ e2
    have := ok.r0
    have := ok.r1
    rw [e1]
    exact ⟨⟨by omega, by omega⟩, ⟨a, b⟩, fun z => c z.symm⟩
  · have s := Ff.sidesOf_side hS
    have h2 := F.enough s
    rw [Ff.ent_app]
    unfold Ff.lackI at h2
    unfold pairsN
    rw [Int.natCast_add]
    omega
  · refine List.all_eq_true.mpr fun S hS => ?_
    have h2 := F.enough ((hsd S).mp hS)
    rw [Bool.not_eq_true', decide_eq_false_iff_not]
    unfold pairsN
    omega
  · obtain ⟨S, hS, hlt⟩ := F.short hi
    refine Bool.eq_false_iff.mpr fun hh => ?_
    have h2 := List.all_eq_true.mp hh S ((hsd S).mpr hS)
    rw [Bool.not_eq_true', decide_eq_false_iff_not] at h2
    exact h2 hlt
end Fw
end

section
set_option linter.all false
set_option maxRecDepth 100000
/-! The walk of the law itself. -/
namespace Fw
open PySem PySem.Spec PyProof.Rows L2
theorem dec_ne_int {i j : Int} (h : i = j) : (!decide (V.int i = V.int j)) = false := by
  rw [h, decide_eq_true rfl]
  rfl
/-- where the law stands once the lack is checked -/
def LawMid (C l : Addr) (σ : L2.St) (H : Hp) : Prop := ∃ (p c a xN tp tk : Addr) (m : Int) (n : Nat) (r : Int) (ls : Ff.Lks) (ps ks : List V) (y2 y9 y10 : Option V),
  σ = [some (.ref l), some (.ref p), y2, some (.ref a), some (.ref xN), some (.int m), some (.int (dueN n r ls m)), some (.ref tp), some (.ref tk), y9, y10] ∧ HandAt H p c ∧ LNetAt H a n r ls ∧ NetAt C H xN n r ls ∧ NetOk n r ls ∧ 0 ≤ m ∧ m ≤ 20 ∧
  H tp = some (.tup ps) ∧ IPs H ps (pairsN n r ls m)
section
variable {P : Program} {w : World} {K : PySem.W.Frag} {mg : Str → Option Value} {base : Heap} {C : Addr}
def spL (K : PySem.W.Frag) : Sp := fun vs H Q _ => ∃ (l : Addr) (ns : List Int), vs = [.ref l] ∧ SqL K H l (ns.map V.int) ∧ ∀ H', Q (.bl true) H'
theorem ok_law {f fi : Addr} {fd fid : FuncData} (T : NetC K mg C) (B : Bt mg) (F : Fun K "law" "law" s_law f fd) (M : Mk K C fi) (GI : FnOk P w K mg base CX0 4 fi fid ["self", "many", "root", "links"] (spNetInit C)) (bI : Binds K fid ["self", "many", "root", "links"] [])
    (Ghand : Fn P w K mg base 1 "_law_hand" ["_law_script"] (spHand K)) (Gnet : Fn P w K mg base 3 "_law_net" ["_law_hand_here", "_law_places", "_law_most"] spLNet) (Gany : Fn P w K mg base 2 "_law_any" ["_law_hand_here", "_law_items"] spAny)
    (Gdraw : Fn P w K mg base 1 "_law_draw" ["_law_hand_here", "_law_many"] spDraw) (Gw : Fn P w K mg base 2 "_law_weight" ["_law_net_here", "_law_many", "_law_lack"] spLWeight) (Glacks : Fn P w K mg base 1 "_law_lacks" ["_law_net_here"] spLLacks)
    (Gta : Fn P w K mg base 6 "to_add" ["net", "many"] (spToAdd C)) (Ggl : Fn P w K mg base 6 "greatest_lack" ["net", "many"] (spGreatest C)) (Gis : Fn P w K mg base 1 "_law_is" ["_law_given", "_law_due"] spLIs) (Glk : Fn P w K mg base 6 "lacking" ["net", "many"] (spLacking C))
    (Glil : Fn P w K mg base 4 "_law_is_lack" ["_law_net_here", "_law_thing"] spLIsLack) (Gil : Fn P w K mg base 5 "is_lack" ["net", "thing"] (spIsLack C)) (Glp : Fn P w K mg base 2 "_law_are_pairs" ["_law_many", "_law_thing"] spLPairs)
    (Gle : Fn P w K mg base 3 "_law_is_enough" ["_law_net_here", "_law_many", "_law_thing"] spLEnough) (Gie : Fn P w K mg base 5 "is_enough" ["net", "many", "thing"] (spIsEnough C)) : FnOk P w K mg base CX0 7 f fd ["_law_script"] (spL K) := by
  refine F.ok sc_law (fun vs H Q E h => ?_) (fun cdv A outer s H vs Q E hr h => ?_)
  · obtain ⟨l, ns, rfl, _⟩ := h
    rfl
  · obtain ⟨l, ns, rfl, hl, q⟩ := h
    have hr1 : Room 1 _ := hr.mono (by decide)
    have hr2 : Room 2 _ := hr.mono (by decide)
    have hr3 : Room 3 _ := hr.mono (by decide)
    have hr4 : Room 4 _ := hr.mono (by decide)
    have hr5 : Room 5 _ := hr.mono (by decide)
    refine ⟨_, pss_cons (ps_set (i := 1) sc_law.nd rfl (.inl rfl) (pe_fn Ghand hr1 (pa_cons (pv 0) pa_nil)))
      (pss_cons (ps_for PassesOwn.never rfl (pi_range1 (by rfl) B.range (pa_cons pe_int pa_nil)) (pg_name (i := 2) sc_law.nd rfl (.inl rfl))
        (pss_cons (ps_set (i := 3) sc_law.nd rfl (.inr rfl) (pe_fn Gnet hr3 (pa_cons (pv 1) (pa_cons pe_int (pa_cons pe_int pa_nil)))))
        (pss_cons (ps_asg (pe_tup (pa_cons (pe_make M GI hr5 rfl T.mgC bI .nil pass0 (pa_cons (pe_ix ix_tup (pv 3) pe_int (fun _ _ => rfl)) (pa_cons (pe_ix ix_tup (pv 3) pe_int (fun _ _ => rfl)) (pa_cons (pe_ix ix_tup (pv 3) pe_int (fun _ _ => rfl)) pa_nil))))
            (pa_cons (pe_fn Gany hr2 (pa_cons (pv 1) (pa_cons (pe_lst (pa_cons pe_int (pa_cons pe_int (pa_cons pe_int (pa_cons pe_int (pa_cons pe_int (pa_cons pe_int (pa_cons (pe_fn Gdraw hr1 (pa_cons (pv 1) (pa_cons pe_int pa_nil))) pa_nil)))))))) pa_nil))) pa_nil)))
          (pg_tup rfl (pgs_cons (pg_name (i := 4) sc_law.nd rfl (.inl rfl)) (pgs_cons (pg_name (i := 5) sc_law.nd rfl (.inr rfl)) pgs_nil))))
        (pss_cons (ps_set (i := 6) sc_law.nd rfl (.inl rfl) (pe_callB (cr_max rfl) (by rfl) B.max bt_max (pa_cons (pe_lc (own := [("_law_lack", 8)]) (g := gName 8) (tt := tYes) (te := tFn spLWeight (tCons (tVar 3) (tCons (tVar 5) (tCons (tVar 8) tNil)))) rfl sc_law.nd (pi_list (pe_fn Glacks hr1 (pa_cons (pv 3) pa_nil)))
            (blkOk_by (N := N_law) (sc := defScope s_law) (by decide +kernel)) (fun _ _ _ _ _ => pg_name (i := 8) sc_law.nd rfl (Or.inl rfl)) (fun _ _ _ _ _ => pts_nil) (fun _ _ _ _ _ => pe_fn Gw hr2 (pa_cons (pv 3) (pa_cons (pv 5) (pa_cons (pv 8) pa_nil))))) pa_nil)))
        (pss_cons (ps_par (i := 7) (j := 8) (by rfl) sc_law.nd rfl rfl (by decide) rfl rfl (pa_cons (pe_fn Gta hr (pa_cons (pv 4) (pa_cons (pv 5) pa_nil))) (pa_cons (pe_fn Ggl hr (pa_cons (pv 4) (pa_cons (pv 5) pa_nil))) pa_nil)) (by rfl))
        (pss_cons (ps_if (PW.pt (pw_or (pt_not (pt_val (pe_fn Gis hr1 (pa_cons (pe_fn Glk hr (pa_cons (pv 4) (pa_cons (pv 5) pa_nil))) (pa_cons (pv 6) pa_nil))))) (pw_or1 (pt_not (pt_val (pe_fn Glil hr4 (pa_cons (pv 3) (pa_cons (pv 8) pa_nil)))))))) (pss_one (ps_ret pe_bl)) pss_nil)
        (pss_cons (ps_cut (LawMid C l) (ps_if (PW.pt (pw_or (pt_cmpR op_ne (pe_fn Gw hr2 (pa_cons (pv 3) (pa_cons (pv 5) (pa_cons (pv 8) pa_nil)))) (pv 6) (nomark _)) (pw_or (PW.pt (pw_and (pt_cmpR op_eq (pv 6) pe_int (nomark _)) (pw_and1 (pt_cmpR (op_neD hr.units) (pv 8) (pe_tup pa_nil) (nomark _)))))
            (pw_or1 (pt_cmpR op_isnot_bl (pe_fn Gil hr5 (pa_cons (pv 4) (pa_cons (pv 8) pa_nil))) pe_bl (nomark _)))))) (pss_one (ps_ret pe_bl)) pss_nil))
        (pss_cons (ps_if (PW.pt (pw_or (pt_not (pt_val (pe_fn Glp hr2 (pa_cons (pe_ix ix_tup (pv 3) pe_int (fun _ _ => rfl)) (pa_cons (pv 7) pa_nil))))) (pw_or (pt_cmpR op_ne (pe_callB call_len_seq (by rfl) B.len bt_len (pa_cons (pv 7) pa_nil)) (pv 6) (nomark _))
            (pw_or1 (pt_not (pt_val (pe_fn Gle hr3 (pa_cons (pv 3) (pa_cons (pv 5) (pa_cons (pv 7) pa_nil)))))))))) (pss_one (ps_ret pe_bl)) pss_nil)
        (pss_cons (ps_if (PW.pt (pw_or (pt_cmpR op_isnot_bl (pe_fn Gie hr5 (pa_cons (pv 4) (pa_cons (pv 5) (pa_cons (pv 7) pa_nil)))) pe_bl (nomark _)) (pw_or1 (pt_cmpR (op_neD hr.units) (pe_fn Gta hr (pa_cons (pv 4) (pa_cons (pv 5) pa_nil))) (pv 7) (nomark _))))) (pss_one (ps_ret pe_bl)) pss_nil)
        (pss_one (ps_for PassesOwn.never rfl (pi_range1 (by rfl) B.range (pa_cons (pe_callB (call_min2 rfl) (by rfl) B.min bt_min (pa_cons (pe_callB call_len_seq (by rfl) B.len bt_len (pa_cons (pv 7) pa_nil)) (pa_cons pe_int pa_nil))) pa_nil)) (pg_name (i := 9) sc_law.nd rfl (.inl rfl))
          (pss_cons (ps_set (i := 10) sc_law.nd rfl (.inl rfl) (pe_op op_catS (pe_slice sl_cutT (pv 7) po_none (po_some (pv 9))) (pe_slice sl_cutT (pv 7) (po_some (pe_op op_add (pv 9) pe_int)) po_none)))
          (pss_one (ps_if (pt_cmpR op_isnot_bl (pe_fn Gie hr5 (pa_cons (pv 4) (pa_cons (pv 5) (pa_cons (pv 10) pa_nil)))) pe_bl (nomark _)) (pss_one (ps_ret pe_bl)) pss_nil))))))))))))))
      (pss_one (ps_ret pe_bl))), ?_⟩
    refine ⟨_, rfl, l, ns, rfl, hl, fun H1 p c s1 np nc hh => ?_⟩
    refine ⟨3, rfl, by omega, by omega, ?_⟩
    rw [show (3 : Int).toNat = 3 from rfl]
    refine for_range (fun i σ H' => ∃ p c y2 y3 y4 y5 y6 y7 y8 y9 y10, σ = [some (.ref l), some (.ref p), y2, y3, y4, y5, y6, y7, y8, y9, y10] ∧ HandAt H' p c) ⟨p, c, none, none, none, none, none, none, none, none, none, rfl, hh⟩ ?_ ?_
    · rintro i σ H2 hi ⟨p, c, y2, y3, y4, y5, y6, y7, y8, y9, y10, rfl, hh2⟩
      refine ⟨_, rfl, p, c, rfl, hh2, fun H3 a n r ls hh3 s3 hN3 ok => ?_⟩
      obtain ⟨tl, ha3, vs, hl3, hvs3⟩ := id hN3
      refine ⟨_, rfl, a, _, 0, _, rfl, rfl, SqT.of ha3, atI_nat (j := 0) rfl, ?_⟩
      refine ⟨_, rfl, a, _, 1, _, rfl, rfl, SqT.of ha3, atI_nat (j := 1) rfl, ?_⟩
      refine ⟨_, rfl, a, _, 2, _, rfl, rfl, SqT.of ha3, atI_nat (j := 2) rfl, fun xN dx nx ndx ndxx => ?_⟩
      have sA : Same H3 (upd H3 dx (.own xN)) := new_same ndx _
      have nx2 : (upd H3 dx (.own xN)) xN = none := by
        rw [upd_ne (Ne.symm ndxx)]
        exact nx
      have s34 := sA.trans (new_same nx2 (.ins C dx []))
      refine ⟨xN, dx, tl, n, r, ls, rfl, upd_same, LksAt.same ⟨vs, hl3, hvs3⟩ s34, ok, fun H5 hN5 k5 => ⟨rfl, ?_⟩⟩
      have s35 : Same H3 H5 := fun b o e => k5 b o (s34 b o e) fun z => by
        rw [z, nx] at e
        cases e
      have hh5 := hh3.same s35
      have hL5 := hN3.same s35
      refine ⟨_, rfl, _, rfl, p, c, 21, rfl, hh5, by omega, by omega, fun H6 d d0 d1 hh6 s6 => ⟨s1000 (by show 7 ≤ 1000; decide), fun lo nlo => ?_⟩⟩
      have hN6 := s6.net hN5 hh5
      have hL6 := s6.lnet hL5 hh5
      have lop : lo ≠ p := fun e => by
        obtain ⟨us, hu⟩ := hh6.lst
        rw [e, hu] at nlo
        cases nlo
      have sB : Same H6 (upd H6 lo (.lst [.int 0, .int 1, .int 2, .int 3, .int 4, .int 5, .int d])) := new_same nlo _
      refine ⟨p, c, lo, _, rfl, hh6.same sB, lop, upd_same, (fun z => by cases z), by show 7 < 1000; decide, fun H7 x hx hh7 s7 => ⟨s1000 (by show 2 ≤ 1000; decide), fun t nt => ?_⟩⟩
      have hN7 := s7.net (hN6.same sB) (hh6.same sB)
      have hL7 := s7.lnet (hL6.same sB) (hh6.same sB)
      obtain ⟨m, rfl, m0, m1⟩ : ∃ m, x = .int m ∧ 0 ≤ m ∧ m ≤ 20 := by
        simp only [List.mem_cons, List.not_mem_nil, or_false] at hx
        rcases hx with e | e | e | e | e | e | e
        · exact ⟨0, e, by omega, by omega⟩
        · exact ⟨1, e, by omega, by omega⟩
        · exact ⟨2, e, by omega, by omega⟩
        · exact ⟨3, e, by omega, by omega⟩
        · exact ⟨4, e, by omega, by omega⟩
        · exact ⟨5, e, by omega, by omega⟩
        · exact ⟨d, e, by omega, by omega⟩
      have sC : Same H7 (upd H7 t (.tup [.ref xN, .int m])) := new_same nt _
      refine ⟨t, _, rfl, SqT.of upd_same, rfl, _, _, rfl, _, _, rfl, rfl, ?_⟩
      have hh8 := hh7.same sC
      have hN8 := hN7.same sC
      have hL8 := hL7.same sC
      generalize upd H7 t (.tup [.ref xN, .int m]) = H8 at *
      have LO := law_ok (m := m) ok m0 m1
      have few := ok.few
      refine ⟨_, rfl, a, n, r, ls, rfl, hL8, ok.hi, ok.r0, ok.r1, fun H9 l9 us9 s9 nl9 hl9 hus9 => ?_⟩
      have lfew := lacks_few ok.hi ok.r0 ok.r1 (i := (Ff.pls n r).length) (by have := pls_len n r; have := ok.hi; omega)
      rw [List.take_length] at lfew
      have hu9 := Paired.length hus9
      have hu9' : us9.length = (Ff.lacksOf (Ff.pls n r)).length := by rw [hu9, List.length_map]
      refine ⟨l9, rfl, ⟨_, SqL.of hl9⟩, fun D nD => ?_⟩
      refine lc_list (xs := us9) (fun j H' => Same H9 H' ∧ H' D = some (.lst (((((Ff.lacksOf (Ff.pls n r)).map srt).take j).map (Ff.wsum (Ff.lackI m ls))).map V.int))) ⟨new_same nD _, upd_same⟩ (fun j H' _ p => SqL.of (p.1 _ _ hl9)) ?_ ?_
      · rintro j x HA hx ⟨sA, hD⟩
        obtain ⟨L, hL, hxL⟩ := Paired.at hus9 hx
        obtain ⟨b, ws, rfl, hb, hws⟩ := hxL.same sA
        have hj := (List.getElem?_eq_some_iff.mp hx).1
        obtain ⟨L0, hL0, rfl⟩ := List.mem_map.mp (List.mem_of_getElem? hL)
        obtain ⟨h1, h2⟩ := Ff.lacks_side hL0
        have h3 := flat_few h1 h2
        have h4 := apart_few h1
        have h5 := (srt_perm L0).length_eq
        have hi6 := ok.hi
        refine ⟨rfl, ?_⟩
        refine ⟨_, rfl, _, rfl, _, rfl, a, b, n, r, m, ls, ws, _, rfl, hL8.same (Same.trans s9 sA), by omega, hb, hws, by omega, fun HB sB => ⟨_, sB _ _ hD, ?_, upd_sameN nD (Same.trans sA sB) _, ?_⟩⟩
        · rw [List.length_map, List.length_map, List.length_take]
          exact small1000 (by omega)
        · rw [upd_same, List.take_add_one, hL, Option.toList_some, List.map_append, List.map_append]
          rfl
      rintro HA ⟨sA, hD⟩
      rw [hu9, List.take_length] at hD
      have hpos : 0 < (((Ff.lacksOf (Ff.pls n r)).map srt).map (Ff.wsum (Ff.lackI m ls))).length := by
        rw [List.length_map, List.length_map]
        obtain ⟨L, hL, _⟩ := Ff.lacks_all (F := []) (Ff.asc_pls n r) (fun _ h => nomatch h) .nil (Ff.pls n r).length (Nat.le_refl _)
        rw [List.take_length] at hL
        exact List.length_pos_of_mem hL
      refine ⟨D, _, rfl, SqL.of hD, hpos, fun due hd hm => ?_⟩
      have edue := LO.due due hd hm
      subst edue
      have s8A : Same H8 HA := Same.trans s9 sA
      refine ⟨_, rfl, _, rfl, xN, n, r, ls, m, rfl, hN8.same s8A, ok, m0, m1, fun HB tp ps sB ntp htp hps => ?_⟩
      have s8B := s8A.trans sB
      refine ⟨_, rfl, _, rfl, xN, n, r, ls, m, rfl, hN8.same s8B, ok, m0, m1, fun HC tk ks sC ntk htk hks => ⟨_, _, rfl, ?_⟩⟩
      have s8C := s8B.trans sC
      have htpC := sC _ _ htp
      have hpsC := IPs.same hps sC
      refine ⟨_, rfl, _, rfl, xN, n, r, ls, m, rfl, hN8.same s8C, ok, m0, m1, fun HD sD => ?_⟩
      refine ⟨_, rfl, _, _, rfl, fun HE sE => ⟨_, rfl, ?_⟩⟩
      rw [decide_eq_true (show Ff.sm (leastN n r ls m) (Ff.pls n r) = dueN n r ls m from rfl)]
      have sCE : Same HC HE := Same.trans sD sE
      have s8E := s8C.trans sCE
      have hf1 := flat_few LO.side LO.apart
      have hf2 := apart_few LO.side
      have hi6 := ok.hi
      refine ⟨_, rfl, _, rfl, a, tk, n, r, ls, ks, _, rfl, hL8.same s8E, ok.hi, sCE _ _ htk, ITs.same hks sCE, LO.side, LO.apart, LO.srtd, fun HF sF => ⟨_, rfl, iteN rfl ?_⟩⟩
      have sCF := sCE.trans sF
      have s8F := s8C.trans sCF
      refine ⟨?_, ?_⟩
      · refine ⟨_, rfl, _, rfl, _, rfl, a, tk, n, r, m, ls, ks, _, rfl, hL8.same s8F, by omega, sCF _ _ htk, ITs.same hks sCF, by omega, fun HG sG => ?_⟩
        have sCG := sCF.trans sG
        refine ⟨_, rfl, rfl, _, rfl, ?_⟩
        rw [dec_ne_int LO.weight]
        have last : ∀ HZ, Same HC HZ → LawMid C l [some (.ref l), some (.ref p), some (.int (0 + (i : Nat))), some (.ref a), some (.ref xN), some (.int m), some (.int (dueN n r ls m)), some (.ref tp), some (.ref tk), y9, y10] HZ := fun HZ sZ =>
          ⟨p, c, a, xN, tp, tk, m, n, r, ls, ps, ks, some (.int (0 + (i : Nat))), y9, y10, rfl, hh8.same (s8C.trans sZ), hL8.same (s8C.trans sZ), hN8.same (s8C.trans sZ), ok, m0, m1, sZ _ _ htpC, IPs.same hpsC sZ⟩
        refine ⟨_, rfl, rfl, _, rfl, ?_⟩
        refine ite2 (fun c1 => ?_) (fun c1 => ?_)
        · have e0 : dueN n r ls m = 0 := V.int.inj (of_decide_eq_true c1)
          have eJ := LO.none e0
          refine ⟨_, rfl, Nat.zero_le _, fun em nem => ?_⟩
          have sH := sCG.trans (new_same nem (.tup []))
          refine ⟨.tuple ((greatJ n r ls m).map pdI), .tuple (([] : List (List Int)).map pdI), dp_tuple (sH _ _ htk) (ITs.same hks sH), dp_tuple upd_same .nil, shaped_tuple _, shaped_tuple _, _, rfl, ?_⟩
          rw [eqv_tuples, decide_eq_true eJ]
          refine ⟨_, rfl, _, rfl, xN, tk, n, r, ls, ks, _, rfl, hN8.same (s8C.trans sH), ok, sH _ _ htk, ITs.same hks sH, LO.side, LO.apart, LO.lt, fun HI sI => ⟨true, true, rfl, rfl, _, rfl, iteO rfl ?_⟩⟩
          exact last HI (sH.trans sI)
        · refine ⟨_, rfl, _, rfl, xN, tk, n, r, ls, ks, _, rfl, hN8.same (s8C.trans sCG), ok, sCG _ _ htk, ITs.same hks sCG, LO.side, LO.apart, LO.lt, fun HI sI => ⟨true, true, rfl, rfl, _, rfl, iteO rfl ?_⟩⟩
          exact last HI (sCG.trans sI)
      · rintro σ H9 ⟨p, c, a, xN, tp, tk, m, n, r, ls, ps, ks, z2, z9, z10, rfl, hh9, hL9, hN9, ok, m0, m1, htp, hps⟩
        have LO := law_ok (m := m) ok m0 m1
        have few := ok.few
        obtain ⟨tl, ha9, vs, hl9, hvs9⟩ := id hL9
        have hpl : ps.length = (pairsN n r ls m).length := Paired.length hps
        have hfew := LO.few
        refine ⟨_, rfl, a, _, 0, _, rfl, rfl, SqT.of ha9, atI_nat (j := 0) rfl, _, rfl, n, tp, ps, _, rfl, htp, hps, LO.few, LO.links, fun HA sA => ⟨_, rfl, ?_⟩⟩
        refine ⟨_, rfl, tp, ps, rfl, .inr (SqT.of (sA _ _ htp)), _, rfl, rfl, _, rfl, ?_⟩
        rw [dec_ne_int (show ((ps.length : Nat) : Int) = dueN n r ls m by rw [hpl]; exact LO.len)]
        refine ⟨_, rfl, _, rfl, _, rfl, a, tp, n, r, m, ls, _, ps, rfl, hL9.same sA, ok.hi, by omega, sA _ _ htp, IPs.same hps sA, LO.few, LO.links, LO.lenough, fun HB sB => ⟨_, rfl, iteN rfl ?_⟩⟩
        have s9B := Same.trans sA sB
        refine ⟨_, rfl, _, rfl, _, rfl, xN, tp, n, r, ls, _, m, ps, rfl, hN9.same s9B, ok, m0, m1, s9B _ _ htp, IPs.same hps s9B, LO.few, LO.links, fun HC sC => ?_⟩
        rw [LO.enough]
        have s9C := s9B.trans sC
        refine ⟨true, true, rfl, rfl, _, rfl, ?_⟩
        refine ⟨_, rfl, _, rfl, xN, n, r, ls, m, rfl, hN9.same s9C, ok, m0, m1, fun HD tq qs sD ntq htq hqs => ?_⟩
        have s9D := s9C.trans sD
        refine ⟨_, rfl, .tuple (((pairsN n r ls m).map fun e => [e.1, e.2]).map pdI), .tuple (((pairsN n r ls m).map fun e => [e.1, e.2]).map pdI), dp_tuple htq (ips_its hqs), dp_tuple (s9D _ _ htp) (ips_its (IPs.same hps s9D)), shaped_tuple _, shaped_tuple _, _, rfl, ?_⟩
        rw [eqv_tuples, decide_eq_true rfl]
        refine iteO rfl ?_
        refine ⟨_, rfl, tp, ps, rfl, .inr (SqT.of (s9D _ _ htp)), _, 9, rfl, _, rfl, ?_⟩
        have hk : ∃ k : Nat, (if (9 : Int) < ((ps.length : Nat) : Int) then (9 : Int) else ((ps.length : Nat) : Int)) = (k : Int) ∧ k ≤ ps.length := by
          by_cases c9 : (9 : Int) < ((ps.length : Nat) : Int)
          · exact ⟨9, by rw [if_pos c9]; rfl, by omega⟩
          · exact ⟨ps.length, by rw [if_neg c9], Nat.le_refl _⟩
        obtain ⟨k, ek, hk⟩ := hk
        rw [ek]
        refine ⟨by omega, by omega, ?_⟩
        rw [Int.toNat_natCast]
        refine for_range (fun s σ H' => ∃ y9 y10, σ = [some (.ref l), some (.ref p), z2, some (.ref a), some (.ref xN), some (.int m), some (.int (dueN n r ls m)), some (.ref tp), some (.ref tk), y9, y10] ∧ Same H9 H') ⟨z9, z10, rfl, s9D⟩ ?_ ?_
        · rintro s σ HE hs ⟨y9, y10, rfl, sE⟩
          rw [Int.zero_add]
          have hsl : s < (pairsN n r ls m).length := by omega
          refine ⟨_, rfl, _, rfl, _, rfl, tp, ps, rfl, sE _ _ htp, fun HF b1 sF hb1 => ?_⟩
          rw [cut_pre] at hb1
          refine ⟨_, rfl, _, rfl, _, 1, rfl, rfl, _, rfl, tp, ps, rfl, sF _ _ (sE _ _ htp), fun HG b2 sG hb2 => ?_⟩
          rw [show ((s : Int) + 1) = ((s + 1 : Nat) : Int) from rfl, cut_suf] at hb2
          refine ⟨b1, b2, _, _, rfl, rfl, sG _ _ hb1, hb2, ?_, fun HH b3 sH hb3 => ?_⟩
          · rw [List.length_take, List.length_drop]
            exact s1000 (by omega)
          have s9H := Same.trans sE (Same.trans sF (Same.trans sG sH))
          have hpsH := IPs.same hps s9H
          refine ⟨_, rfl, _, rfl, _, rfl, xN, b3, n, r, ls, _, m, _, rfl, hN9.same s9H, ok, m0, m1, hb3, Paired.app (Paired.take s hpsH) (Paired.drop (s + 1) hpsH), ?_, ?_, fun HI sI => ?_⟩
          · rw [List.length_append, List.length_take, List.length_drop]
            omega
          · exact linksOk_app (fun e he => LO.links e (List.mem_of_mem_take he)) (fun e he => LO.links e (List.mem_of_mem_drop he))
          rw [LO.short s hsl]
          exact ⟨false, false, rfl, rfl, _, rfl, iteO rfl ⟨_, _, rfl, s9H.trans sI⟩⟩
        · rintro σ HE ⟨y9, y10, rfl, sE⟩
          exact ⟨p, c, _, _, _, _, _, _, _, _, _, rfl, hh9.same sE⟩
    · rintro σ H2 _
      exact q H2
end
end Fw
end

section
set_option linter.all false
set_option maxRecDepth 100000
/-! All promises together. -/
namespace Fw
open PySem PySem.Spec PyProof.Rows L2
section
variable {K : PySem.W.Frag} {mg : Str → Option Value}
theorem fun_at {h : Heap} {x : Str} {st : Stmt} {ps : List Str} {f : Addr} {oc : Value} {od an : Option Addr} {osl : Array (Option Value)} {kV doc pm cdv ct : Value} (X : K.In h) (G : h.Ns mainGlobals mg) (hb : ∀ (f : Addr) (fd : FuncData), Fun K x x st f fd → Binds K fd ps [])
    (a : PySem.W.nsIn K mainGlobals x = some (some (.ref f))) (l : K.lookup f = some ⟨oc, od, .func (PySem.W.fnOf x x (defArgs st) (defBody st) (defScope st) .none kV doc pm an cdv ct), osl⟩)
    (c : PySem.W.codeIn K cdv x = true) (k : PySem.W.keepIn K (.ref f) = true) : FunAt K mg x st ps := ⟨f, _, fun_mk l c k, hb _ _ (fun_mk l c k), PySem.W.mg_of X G a⟩
theorem bd_is_integer (f : Addr) (fd : FuncData) (F : Fun K "is_integer" "is_integer" s_is_integer f fd) : Binds K fd ["thing"] [] := F.binds (ps := ["thing"]) fun _ _ _ _ _ _ us hl => match us, hl with | [_], _ => rfl
theorem bd_is_within (f : Addr) (fd : FuncData) (F : Fun K "is_within" "is_within" s_is_within f fd) : Binds K fd ["thing", "least", "most"] [] := F.binds (ps := ["thing", "least", "most"]) fun _ _ _ _ _ _ us hl => match us, hl with | [_, _, _], _ => rfl
theorem bd_is_pair (f : Addr) (fd : FuncData) (F : Fun K "is_pair" "is_pair" s_is_pair f fd) : Binds K fd ["thing"] [] := F.binds (ps := ["thing"]) fun _ _ _ _ _ _ us hl => match us, hl with | [_], _ => rfl
theorem bd_is_lot (f : Addr) (fd : FuncData) (F : Fun K "is_lot" "is_lot" s_is_lot f fd) : Binds K fd ["thing", "many"] [] := F.binds (ps := ["thing", "many"]) fun _ _ _ _ _ _ us hl => match us, hl with | [_, _], _ => rfl
theorem bd_is_link (f : Addr) (fd : FuncData) (F : Fun K "is_link" "is_link" s_is_link f fd) : Binds K fd ["many", "thing"] [] := F.binds (ps := ["many", "thing"]) fun _ _ _ _ _ _ us hl => match us, hl with | [_, _], _ => rfl
theorem bd_check_net (f : Addr) (fd : FuncData) (F : Fun K "check_net" "check_net" s_check_net f fd) : Binds K fd ["net"] [] := F.binds (ps := ["net"]) fun _ _ _ _ _ _ us hl => match us, hl with | [_], _ => rfl
theorem bd_is_side (f : Addr) (fd : FuncData) (F : Fun K "is_side" "is_side" s_is_side f fd) : Binds K fd ["net", "thing"] [] := F.binds (ps := ["net", "thing"]) fun _ _ _ _ _ _ us hl => match us, hl with | [_, _], _ => rfl
theorem bd_all_lots (f : Addr) (fd : FuncData) (F : Fun K "all_lots" "all_lots" s_all_lots f fd) : Binds K fd ["many"] [] := F.binds (ps := ["many"]) fun _ _ _ _ _ _ us hl => match us, hl with | [_], _ => rfl
theorem bd_all_sides (f : Addr) (fd : FuncData) (F : Fun K "all_sides" "all_sides" s_all_sides f fd) : Binds K fd ["net"] [] := F.binds (ps := ["net"]) fun _ _ _ _ _ _ us hl => match us, hl with | [_], _ => rfl
theorem bd_does_enter (f : Addr) (fd : FuncData) (F : Fun K "does_enter" "does_enter" s_does_enter f fd) : Binds K fd ["net", "link", "places"] [] := F.binds (ps := ["net", "link", "places"]) fun _ _ _ _ _ _ us hl => match us, hl with | [_, _, _], _ => rfl
theorem bd_entering_of (f : Addr) (fd : FuncData) (F : Fun K "entering_of" "entering_of" s_entering_of f fd) : Binds K fd ["net", "lot", "places"] [] := F.binds (ps := ["net", "lot", "places"]) fun _ _ _ _ _ _ us hl => match us, hl with | [_, _, _], _ => rfl
theorem bd_every_link (f : Addr) (fd : FuncData) (F : Fun K "every_link" "every_link" s_every_link f fd) : Binds K fd ["net"] [] := F.binds (ps := ["net"]) fun _ _ _ _ _ _ us hl => match us, hl with | [_], _ => rfl
theorem bd_check_number (f : Addr) (fd : FuncData) (F : Fun K "check_number" "check_number" s_check_number f fd) : Binds K fd ["thing", "least", "most"] [] := F.binds (ps := ["thing", "least", "most"]) fun _ _ _ _ _ _ us hl => match us, hl with | [_, _, _], _ => rfl
theorem bd_are_apart (f : Addr) (fd : FuncData) (F : Fun K "are_apart" "are_apart" s_are_apart f fd) : Binds K fd ["lots"] [] := F.binds (ps := ["lots"]) fun _ _ _ _ _ _ us hl => match us, hl with | [_], _ => rfl
theorem bd_lack_of (f : Addr) (fd : FuncData) (F : Fun K "lack_of" "lack_of" s_lack_of f fd) : Binds K fd ["net", "many", "side"] [] := F.binds (ps := ["net", "many", "side"]) fun _ _ _ _ _ _ us hl => match us, hl with | [_, _, _], _ => rfl
theorem bd_holds (f : Addr) (fd : FuncData) (F : Fun K "holds" "holds" s_holds f fd) : Binds K fd ["net", "many", "added"] [] := F.binds (ps := ["net", "many", "added"]) fun _ _ _ _ _ _ us hl => match us, hl with | [_, _, _], _ => rfl
theorem bd_least_added (f : Addr) (fd : FuncData) (F : Fun K "least_added" "least_added" s_least_added f fd) : Binds K fd ["net", "many"] [] := F.binds (ps := ["net", "many"]) fun _ _ _ _ _ _ us hl => match us, hl with | [_, _], _ => rfl
theorem bd_check_wanted (f : Addr) (fd : FuncData) (F : Fun K "check_wanted" "check_wanted" s_check_wanted f fd) : Binds K fd ["net", "many"] [] := F.binds (ps := ["net", "many"]) fun _ _ _ _ _ _ us hl => match us, hl with | [_, _], _ => rfl
theorem bd_lacking (f : Addr) (fd : FuncData) (F : Fun K "lacking" "lacking" s_lacking f fd) : Binds K fd ["net", "many"] [] := F.binds (ps := ["net", "many"]) fun _ _ _ _ _ _ us hl => match us, hl with | [_, _], _ => rfl
theorem bd_to_add (f : Addr) (fd : FuncData) (F : Fun K "to_add" "to_add" s_to_add f fd) : Binds K fd ["net", "many"] [] := F.binds (ps := ["net", "many"]) fun _ _ _ _ _ _ us hl => match us, hl with | [_, _], _ => rfl
theorem bd_is_enough (f : Addr) (fd : FuncData) (F : Fun K "is_enough" "is_enough" s_is_enough f fd) : Binds K fd ["net", "many", "thing"] [] := F.binds (ps := ["net", "many", "thing"]) fun _ _ _ _ _ _ us hl => match us, hl with | [_, _, _], _ => rfl
theorem bd_joined (f : Addr) (fd : FuncData) (F : Fun K "joined" "joined" s_joined f fd) : Binds K fd ["lots"] [] := F.binds (ps := ["lots"]) fun _ _ _ _ _ _ us hl => match us, hl with | [_], _ => rfl
theorem bd_greatest_lack (f : Addr) (fd : FuncData) (F : Fun K "greatest_lack" "greatest_lack" s_greatest_lack f fd) : Binds K fd ["net", "many"] [] := F.binds (ps := ["net", "many"]) fun _ _ _ _ _ _ us hl => match us, hl with | [_, _], _ => rfl
theorem bd_is_lack (f : Addr) (fd : FuncData) (F : Fun K "is_lack" "is_lack" s_is_lack f fd) : Binds K fd ["net", "thing"] [] := F.binds (ps := ["net", "thing"]) fun _ _ _ _ _ _ us hl => match us, hl with | [_, _], _ => rfl
theorem bd_l_hand (f : Addr) (fd : FuncData) (F : Fun K "_law_hand" "_law_hand" s_l_hand f fd) : Binds K fd ["_law_script"] [] := F.binds (ps := ["_law_script"]) fun _ _ _ _ _ _ us hl => match us, hl with | [_], _ => rfl
theorem bd_l_draw (f : Addr) (fd : FuncData) (F : Fun K "_law_draw" "_law_draw" s_l_draw f fd) : Binds K fd ["_law_hand_here", "_law_many"] [] := F.binds (ps := ["_law_hand_here", "_law_many"]) fun _ _ _ _ _ _ us hl => match us, hl with | [_, _], _ => rfl
theorem bd_l_any (f : Addr) (fd : FuncData) (F : Fun K "_law_any" "_law_any" s_l_any f fd) : Binds K fd ["_law_hand_here", "_law_items"] [] := F.binds (ps := ["_law_hand_here", "_law_items"]) fun _ _ _ _ _ _ us hl => match us, hl with | [_, _], _ => rfl
theorem bd_l_is (f : Addr) (fd : FuncData) (F : Fun K "_law_is" "_law_is" s_l_is f fd) : Binds K fd ["_law_given", "_law_due"] [] := F.binds (ps := ["_law_given", "_law_due"]) fun _ _ _ _ _ _ us hl => match us, hl with | [_, _], _ => rfl
theorem bd_l_int (f : Addr) (fd : FuncData) (F : Fun K "_law_int" "_law_int" s_l_int f fd) : Binds K fd ["_law_thing", "_law_low", "_law_high"] [] := F.binds (ps := ["_law_thing", "_law_low", "_law_high"]) fun _ _ _ _ _ _ us hl => match us, hl with | [_, _, _], _ => rfl
theorem bd_l_mixed (f : Addr) (fd : FuncData) (F : Fun K "_law_mixed" "_law_mixed" s_l_mixed f fd) : Binds K fd ["_law_hand_here", "_law_items"] [] := F.binds (ps := ["_law_hand_here", "_law_items"]) fun _ _ _ _ _ _ us hl => match us, hl with | [_, _], _ => rfl
theorem bd_l_is_lot (f : Addr) (fd : FuncData) (F : Fun K "_law_is_lot" "_law_is_lot" s_l_is_lot f fd) : Binds K fd ["_law_thing", "_law_many"] [] := F.binds (ps := ["_law_thing", "_law_many"]) fun _ _ _ _ _ _ us hl => match us, hl with | [_, _], _ => rfl
theorem bd_l_are_apart (f : Addr) (fd : FuncData) (F : Fun K "_law_are_apart" "_law_are_apart" s_l_are_apart f fd) : Binds K fd ["_law_lots"] [] := F.binds (ps := ["_law_lots"]) fun _ _ _ _ _ _ us hl => match us, hl with | [_], _ => rfl
theorem bd_l_net (f : Addr) (fd : FuncData) (F : Fun K "_law_net" "_law_net" s_l_net f fd) : Binds K fd ["_law_hand_here", "_law_places", "_law_most"] [] := F.binds (ps := ["_law_hand_here", "_law_places", "_law_most"]) fun _ _ _ _ _ _ us hl => match us, hl with | [_, _, _], _ => rfl
theorem bd_l_sides (f : Addr) (fd : FuncData) (F : Fun K "_law_sides" "_law_sides" s_l_sides f fd) : Binds K fd ["_law_net_here"] [] := F.binds (ps := ["_law_net_here"]) fun _ _ _ _ _ _ us hl => match us, hl with | [_], _ => rfl
theorem bd_l_entered (f : Addr) (fd : FuncData) (F : Fun K "_law_entered" "_law_entered" s_l_entered f fd) : Binds K fd ["_law_links", "_law_side"] [] := F.binds (ps := ["_law_links", "_law_side"]) fun _ _ _ _ _ _ us hl => match us, hl with | [_, _], _ => rfl
theorem bd_l_weight (f : Addr) (fd : FuncData) (F : Fun K "_law_weight" "_law_weight" s_l_weight f fd) : Binds K fd ["_law_net_here", "_law_many", "_law_lack"] [] := F.binds (ps := ["_law_net_here", "_law_many", "_law_lack"]) fun _ _ _ _ _ _ us hl => match us, hl with | [_, _, _], _ => rfl
theorem bd_l_lacks (f : Addr) (fd : FuncData) (F : Fun K "_law_lacks" "_law_lacks" s_l_lacks f fd) : Binds K fd ["_law_net_here"] [] := F.binds (ps := ["_law_net_here"]) fun _ _ _ _ _ _ us hl => match us, hl with | [_], _ => rfl
theorem bd_l_is_side (f : Addr) (fd : FuncData) (F : Fun K "_law_is_side" "_law_is_side" s_l_is_side f fd) : Binds K fd ["_law_net_here", "_law_thing"] [] := F.binds (ps := ["_law_net_here", "_law_thing"]) fun _ _ _ _ _ _ us hl => match us, hl with | [_, _], _ => rfl
theorem bd_l_is_lack (f : Addr) (fd : FuncData) (F : Fun K "_law_is_lack" "_law_is_lack" s_l_is_lack f fd) : Binds K fd ["_law_net_here", "_law_thing"] [] := F.binds (ps := ["_law_net_here", "_law_thing"]) fun _ _ _ _ _ _ us hl => match us, hl with | [_, _], _ => rfl
theorem bd_l_are_pairs (f : Addr) (fd : FuncData) (F : Fun K "_law_are_pairs" "_law_are_pairs" s_l_are_pairs f fd) : Binds K fd ["_law_many", "_law_thing"] [] := F.binds (ps := ["_law_many", "_law_thing"]) fun _ _ _ _ _ _ us hl => match us, hl with | [_, _], _ => rfl
theorem bd_l_is_enough (f : Addr) (fd : FuncData) (F : Fun K "_law_is_enough" "_law_is_enough" s_l_is_enough f fd) : Binds K fd ["_law_net_here", "_law_many", "_law_thing"] [] := F.binds (ps := ["_law_net_here", "_law_many", "_law_thing"]) fun _ _ _ _ _ _ us hl => match us, hl with | [_, _, _], _ => rfl
theorem bd_l_flat (f : Addr) (fd : FuncData) (F : Fun K "_law_flat" "_law_flat" s_l_flat f fd) : Binds K fd ["_law_rows"] [] := F.binds (ps := ["_law_rows"]) fun _ _ _ _ _ _ us hl => match us, hl with | [_], _ => rfl
theorem bd_Net_init (f : Addr) (fd : FuncData) (F : Fun K "__init__" "Net.__init__" s_Net_init f fd) : Binds K fd ["self", "many", "root", "links"] [] := F.binds (ps := ["self", "many", "root", "links"]) fun _ _ _ _ _ _ us hl => match us, hl with | [_, _, _, _], _ => rfl
theorem all_ok {P : Program} {w : World} {base : Heap} {C f fi : Addr} {fd fid : FuncData} (T : NetC K mg C) (B : Bt mg) (M : Mk K C fi) (FI : Fun K "__init__" "Net.__init__" s_Net_init fi fid) (FL : Fun K "law" "law" s_law f fd)
    (hL : ∃ t, mg "LEAST_PLACES" = some (.int 2 t)) (hM : ∃ t, mg "MOST_PLACES" = some (.int 10 t)) (hK : ∃ t, mg "MOST_LINKS" = some (.int 60 t)) (hW : ∃ t, mg "MOST_WANTED" = some (.int 20 t)) (hA : ∃ t, mg "MOST_ADDED" = some (.int 200 t))
    (hC : mg "combinations" = some (.type "itertools.combinations")) (F_is_integer : FunAt K mg "is_integer" s_is_integer ["thing"]) (F_is_within : FunAt K mg "is_within" s_is_within ["thing", "least", "most"]) (F_is_pair : FunAt K mg "is_pair" s_is_pair ["thing"]) (F_is_lot : FunAt K mg "is_lot" s_is_lot ["thing", "many"]) (F_is_link : FunAt K mg "is_link" s_is_link ["many", "thing"]) (F_check_net : FunAt K mg "check_net" s_check_net ["net"]) (F_is_side : FunAt K mg "is_side" s_is_side ["net", "thing"]) (F_all_lots : FunAt K mg "all_lots" s_all_lots ["many"]) (F_all_sides : FunAt K mg "all_sides" s_all_sides ["net"]) (F_does_enter : FunAt K mg "does_enter" s_does_enter ["net", "link", "places"]) (F_entering_of : FunAt K mg "entering_of" s_entering_of ["net", "lot", "places"]) (F_every_link : FunAt K mg "every_link" s_every_link ["net"]) (F_check_number : FunAt K mg "check_number" s_check_number ["thing", "least", "most"]) (F_are_apart : FunAt K mg "are_apart" s_are_apart ["lots"]) (F_lack_of : FunAt K mg "lack_of" s_lack_of ["net", "many", "side"]) (F_holds : FunAt K mg "holds" s_holds ["net", "many", "added"]) (F_least_added : FunAt K mg "least_added" s_least_added ["net", "many"]) (F_check_wanted : FunAt K mg "check_wanted" s_check_wanted ["net", "many"]) (F_lacking : FunAt K mg "lacking" s_lacking ["net", "many"]) (F_to_add : FunAt K mg "to_add" s_to_add ["net", "many"]) (F_is_enough : FunAt K mg "is_enough" s_is_enough ["net", "many", "thing"]) (F_joined : FunAt K mg "joined" s_joined ["lots"]) (F_greatest_lack : FunAt K mg "greatest_lack" s_greatest_lack ["net", "many"]) (F_is_lack : FunAt K mg "is_lack" s_is_lack ["net", "thing"]) (F_l_hand : FunAt K mg "_law_hand" s_l_hand ["_law_script"]) (F_l_draw : FunAt K mg "_law_draw" s_l_draw ["_law_hand_here", "_law_many"]) (F_l_any : FunAt K mg "_law_any" s_l_any ["_law_hand_here", "_law_items"]) (F_l_is : FunAt K mg "_law_is" s_l_is ["_law_given", "_law_due"]) (F_l_int : FunAt K mg "_law_int" s_l_int ["_law_thing", "_law_low", "_law_high"]) (F_l_mixed : FunAt K mg "_law_mixed" s_l_mixed ["_law_hand_here", "_law_items"]) (F_l_is_lot : FunAt K mg "_law_is_lot" s_l_is_lot ["_law_thing", "_law_many"]) (F_l_are_apart : FunAt K mg "_law_are_apart" s_l_are_apart ["_law_lots"]) (F_l_net : FunAt K mg "_law_net" s_l_net ["_law_hand_here", "_law_places", "_law_most"]) (F_l_sides : FunAt K mg "_law_sides" s_l_sides ["_law_net_here"]) (F_l_entered : FunAt K mg "_law_entered" s_l_entered ["_law_links", "_law_side"]) (F_l_weight : FunAt K mg "_law_weight" s_l_weight ["_law_net_here", "_law_many", "_law_lack"]) (F_l_lacks : FunAt K mg "_law_lacks" s_l_lacks ["_law_net_here"]) (F_l_is_side : FunAt K mg "_law_is_side" s_l_is_side ["_law_net_here", "_law_thing"]) (F_l_is_lack : FunAt K mg "_law_is_lack" s_l_is_lack ["_law_net_here", "_law_thing"]) (F_l_are_pairs : FunAt K mg "_law_are_pairs" s_l_are_pairs ["_law_many", "_law_thing"]) (F_l_is_enough : FunAt K mg "_law_is_enough" s_l_is_enough ["_law_net_here", "_law_many", "_law_thing"]) (F_l_flat : FunAt K mg "_law_flat" s_l_flat ["_law_rows"]) : FnOk P w K mg base CX0 7 f fd ["_law_script"] (spL K) := by
  have g1 := ok_is_integer (P := P) (w := w) (base := base) B F_is_integer
  have g2 := ok_is_within F_is_within g1
  have g3 := ok_is_pair (P := P) (w := w) (base := base) B F_is_pair
  have g4 := ok_check_number F_check_number g2
  have g5 := ok_is_lot B F_is_lot g2
  have g6 := ok_is_link B F_is_link g2 g3
  have gi := ok_Net_init T B FI hL hM hK g2 g6
  have g7 := ok_check_net (P := P) (w := w) (base := base) T B F_check_net
  have g8 := ok_is_side T B F_is_side g5
  have g9 := ok_all_lots (P := P) (w := w) (base := base) B hC F_all_lots
  have g10 := ok_all_sides T F_all_sides g9
  have g11 := ok_does_enter (P := P) (w := w) (base := base) T F_does_enter
  have g12 := ok_entering_of F_entering_of g11
  have g13 := ok_every_link T B F_every_link g7
  have g14 := ok_lack_of B F_lack_of g12 g13
  have g15 := ok_check_wanted hW F_check_wanted g7 g4
  have g16 := ok_holds B F_holds g10 g14
  have g17 := ok_least_added T B F_least_added g16
  have g18 := ok_lacking B F_lacking g15 g17
  have g19 := ok_to_add T B F_to_add g15 g17
  have g20 := ok_is_enough T B hA F_is_enough g15 g6 g10 g14
  have g21 := ok_joined (P := P) (w := w) (base := base) B F_joined
  have g22 := ok_are_apart (P := P) (w := w) (base := base) B F_are_apart
  have g23 := ok_greatest_lack B F_greatest_lack g15 g17 g10 g14 g21
  have g24 := ok_is_lack B F_is_lack g7 g8 g22
  have h1 := ok_draw (P := P) (w := w) (base := base) B F_l_draw
  have h2 := ok_hand (P := P) (w := w) (base := base) B F_l_hand
  have h3 := ok_any B F_l_any h1
  have h4 := ok_mixed B F_l_mixed h1
  have h5 := ok_l_int (P := P) (w := w) (base := base) B F_l_int
  have h6 := ok_l_is (P := P) (w := w) (base := base) B F_l_is
  have h7 := ok_flat (P := P) (w := w) (base := base) B F_l_flat
  have h8 := ok_l_are_apart B F_l_are_apart h7
  have h9 := ok_l_is_lot B F_l_is_lot h5
  have h10 := ok_l_is_side F_l_is_side h9
  have h11 := ok_l_sides (P := P) (w := w) (base := base) B F_l_sides
  have h12 := ok_l_entered (P := P) (w := w) (base := base) B F_l_entered
  have h13 := ok_l_weight B F_l_weight h12
  have h14 := ok_l_is_lack B F_l_is_lack h10 h8
  have h15 := ok_l_are_pairs B F_l_are_pairs h5
  have h16 := ok_l_is_enough B F_l_is_enough h15 h11 h12
  have h17 := ok_l_lacks (P := P) (w := w) (base := base) B F_l_lacks
  have h18 := ok_l_net B F_l_net h1 h4 h3
  exact ok_law T B FL M gi (bd_Net_init _ _ FI) h2 h18 h3 h1 h13 h17 g19 g23 h6 g18 h14 g24 h15 h16 g20
end
section
variable {K : PySem.W.Frag} {mg : Str → Option Value}
theorem law_at {l : PySem.W.OpenLaw} {w : World} {h : Heap} {fa C fi : Addr} {f : Addr} (X : K.In h) (G : h.Ns mainGlobals mg) (hfa : mg "law" = some (.ref fa))
    {odi ani odl anl : Option Addr} {sli sll : Array (Option Value)} {oci kVi dci pmi cdi cti ocl kVl dcl pml cdl ctl : Value} {t1 t2 t3 t4 t5 : Tok}
    (aC : PySem.W.nsIn K mainGlobals "Net" = some (some (.ref C)))
    (ai : PySem.W.findIn K (.ref C) "__init__" = some (some (.ref fi))) (ii : PySem.W.isFn K (.ref fi) = true) (li : K.lookup fi = some ⟨oci, odi, .func (PySem.W.fnOf "__init__" "Net.__init__" (defArgs s_Net_init) (defBody s_Net_init) (defScope s_Net_init) .none kVi dci pmi ani cdi cti), sli⟩)
    (ci : PySem.W.codeIn K cdi "Net.__init__" = true) (ki : PySem.W.keepIn K (.ref fi) = true)
    (al : PySem.W.nsIn K mainGlobals "law" = some (some (.ref f))) (ll : K.lookup f = some ⟨ocl, odl, .func (PySem.W.fnOf "law" "law" (defArgs s_law) (defBody s_law) (defScope s_law) .none kVl dcl pml anl cdl ctl), sll⟩) (cl : PySem.W.codeIn K cdl "law" = true) (kl : PySem.W.keepIn K (.ref f) = true)
    (pg : PySem.W.plainGet K C Str.empty = true) (hd : PySem.W.hasDictIn K C = true) (po : PySem.W.plainOver K C = true) (sa : PySem.W.findIn K (.ref C) "__setattr__" = some (some (.builtin "object.__setattr__"))) (mk : PySem.W.makesIn K C = true) (kc : PySem.W.keepIn K (.ref C) = true)
    (nM : PySem.W.findIn K (.ref C) "many" = some none) (nR : PySem.W.findIn K (.ref C) "root" = some none) (nL : PySem.W.findIn K (.ref C) "links" = some none)
    (ca : PySem.W.findIn K (.ref C) "__class__" = some (some (.builtin "object.__class__"))) (cs : PySem.W.specialIn K (.builtin "object.__class__") "__get__" = some (some (.builtin "getset_descriptor.__get__"))) (ct : PySem.W.takesIn K (.builtin "object.__class__") = some true) (cm : PySem.W.mroIn K C (.type "object") = some true)
    (q1 : PySem.W.nsIn K mainGlobals "LEAST_PLACES" = some (some (.int 2 t1))) (q2 : PySem.W.nsIn K mainGlobals "MOST_PLACES" = some (some (.int 10 t2))) (q3 : PySem.W.nsIn K mainGlobals "MOST_LINKS" = some (some (.int 60 t3))) (q4 : PySem.W.nsIn K mainGlobals "MOST_WANTED" = some (some (.int 20 t4))) (q5 : PySem.W.nsIn K mainGlobals "MOST_ADDED" = some (some (.int 200 t5)))
    (q6 : PySem.W.nsIn K mainGlobals "combinations" = some (some (.type "itertools.combinations")))
    (B : Bt mg) (F_is_integer : FunAt K mg "is_integer" s_is_integer ["thing"]) (F_is_within : FunAt K mg "is_within" s_is_within ["thing", "least", "most"]) (F_is_pair : FunAt K mg "is_pair" s_is_pair ["thing"]) (F_is_lot : FunAt K mg "is_lot" s_is_lot ["thing", "many"]) (F_is_link : FunAt K mg "is_link" s_is_link ["many", "thing"]) (F_check_net : FunAt K mg "check_net" s_check_net ["net"]) (F_is_side : FunAt K mg "is_side" s_is_side ["net", "thing"]) (F_all_lots : FunAt K mg "all_lots" s_all_lots ["many"]) (F_all_sides : FunAt K mg "all_sides" s_all_sides ["net"]) (F_does_enter : FunAt K mg "does_enter" s_does_enter ["net", "link", "places"]) (F_entering_of : FunAt K mg "entering_of" s_entering_of ["net", "lot", "places"]) (F_every_link : FunAt K mg "every_link" s_every_link ["net"]) (F_check_number : FunAt K mg "check_number" s_check_number ["thing", "least", "most"]) (F_are_apart : FunAt K mg "are_apart" s_are_apart ["lots"]) (F_lack_of : FunAt K mg "lack_of" s_lack_of ["net", "many", "side"]) (F_holds : FunAt K mg "holds" s_holds ["net", "many", "added"]) (F_least_added : FunAt K mg "least_added" s_least_added ["net", "many"]) (F_check_wanted : FunAt K mg "check_wanted" s_check_wanted ["net", "many"]) (F_lacking : FunAt K mg "lacking" s_lacking ["net", "many"]) (F_to_add : FunAt K mg "to_add" s_to_add ["net", "many"]) (F_is_enough : FunAt K mg "is_enough" s_is_enough ["net", "many", "thing"]) (F_joined : FunAt K mg "joined" s_joined ["lots"]) (F_greatest_lack : FunAt K mg "greatest_lack" s_greatest_lack ["net", "many"]) (F_is_lack : FunAt K mg "is_lack" s_is_lack ["net", "thing"]) (F_l_hand : FunAt K mg "_law_hand" s_l_hand ["_law_script"]) (F_l_draw : FunAt K mg "_law_draw" s_l_draw ["_law_hand_here", "_law_many"]) (F_l_any : FunAt K mg "_law_any" s_l_any ["_law_hand_here", "_law_items"]) (F_l_is : FunAt K mg "_law_is" s_l_is ["_law_given", "_law_due"]) (F_l_int : FunAt K mg "_law_int" s_l_int ["_law_thing", "_law_low", "_law_high"]) (F_l_mixed : FunAt K mg "_law_mixed" s_l_mixed ["_law_hand_here", "_law_items"]) (F_l_is_lot : FunAt K mg "_law_is_lot" s_l_is_lot ["_law_thing", "_law_many"]) (F_l_are_apart : FunAt K mg "_law_are_apart" s_l_are_apart ["_law_lots"]) (F_l_net : FunAt K mg "_law_net" s_l_net ["_law_hand_here", "_law_places", "_law_most"]) (F_l_sides : FunAt K mg "_law_sides" s_l_sides ["_law_net_here"]) (F_l_entered : FunAt K mg "_law_entered" s_l_entered ["_law_links", "_law_side"]) (F_l_weight : FunAt K mg "_law_weight" s_l_weight ["_law_net_here", "_law_many", "_law_lack"]) (F_l_lacks : FunAt K mg "_law_lacks" s_l_lacks ["_law_net_here"]) (F_l_is_side : FunAt K mg "_law_is_side" s_l_is_side ["_law_net_here", "_law_thing"]) (F_l_is_lack : FunAt K mg "_law_is_lack" s_l_is_lack ["_law_net_here", "_law_thing"]) (F_l_are_pairs : FunAt K mg "_law_are_pairs" s_l_are_pairs ["_law_many", "_law_thing"]) (F_l_is_enough : FunAt K mg "_law_is_enough" s_l_is_enough ["_law_net_here", "_law_many", "_law_thing"]) (F_l_flat : FunAt K mg "_law_flat" s_l_flat ["_law_rows"]) :
    ∃ fd : FuncData, (∀ (s : Shared) (v : Value), BindsTo s fd ⟨[v], []⟩ [("_law_script", v)]) ∧ ∀ base : Heap, K.In base → base.Ns mainGlobals mg → FnOk l.prog w K mg base CX0 7 fa fd ["_law_script"] (spL K) := by
  have e := hfa.symm.trans (PySem.W.mg_of X G al)
  cases e
  have T : NetC K mg C := ⟨⟨pg, hd, po, sa⟩, nM, nR, nL, PySem.W.mg_of X G aC, ca, cs, ct, cm⟩
  have FI := fun_mk (st := s_Net_init) li ci ki
  have FL := fun_mk (st := s_law) ll cl kl
  exact ⟨PySem.W.fnOf "law" "law" (defArgs s_law) (defBody s_law) (defScope s_law) .none kVl dcl pml anl cdl ctl, fun s v => .of_eq rfl, fun base _ _ =>
    all_ok T B ⟨mk, ai, ii, kc⟩ FI FL ⟨_, PySem.W.mg_of X G q1⟩ ⟨_, PySem.W.mg_of X G q2⟩ ⟨_, PySem.W.mg_of X G q3⟩ ⟨_, PySem.W.mg_of X G q4⟩ ⟨_, PySem.W.mg_of X G q5⟩ (PySem.W.mg_of X G q6) F_is_integer F_is_within F_is_pair F_is_lot F_is_link F_check_net F_is_side F_all_lots F_all_sides F_does_enter F_entering_of F_every_link F_check_number F_are_apart F_lack_of F_holds F_least_added F_check_wanted F_lacking F_to_add F_is_enough F_joined F_greatest_lack F_is_lack F_l_hand F_l_draw F_l_any F_l_is F_l_int F_l_mixed F_l_is_lot F_l_are_apart F_l_net F_l_sides F_l_entered F_l_weight F_l_lacks F_l_is_side F_l_is_lack F_l_are_pairs F_l_is_enough F_l_flat⟩
end
theorem walk {l : PySem.W.OpenLaw} {q : Program} {loose : List Str} {XP : (Str → Option Value) → Heap → Prop} {YP : World → Heap → Prop} {d : DefRec} {K : Params → PySem.W.Frag} (hn : l.most = some 63) (hdf : d.params.defaults = []) (hY : ∀ (w : World) (h : Heap), YP w h → (K w.params).In h)
    (F : ∀ (w : World) (mg : Str → Option Value) (fa : Addr) (h : Heap), (K w.params).In h → h.Ns mainGlobals mg → mg d.name = some (.ref fa) →
      ∃ fd : FuncData, (∀ (s : Shared) (u : Value), BindsTo s fd ⟨[u], []⟩ [("_law_script", u)]) ∧ ∀ base : Heap, (K w.params).In base → base.Ns mainGlobals mg → FnOk l.prog w (K w.params) mg base CX0 7 fa fd ["_law_script"] (spL (K w.params))) :
    PySem.W.WalkO q loose XP YP l.row.toRowW d [] (fun f vs => PySem.call f vs) :=
  L2.walk_of (n := 63) (k := 7) (x := "_law_script") (CX := fun _ => CX0) (sp := fun w => spL (K w.params)) hn (by decide) hdf ⟨rfl, by decide, by decide⟩ hY F (fun _ _ a ns hl _ hS => ⟨a, ns, rfl, hS, fun _ => rfl⟩) fun _ _ _ _ _ z => z
end Fw
end

section
set_option linter.all false
open PySem PySem.W PyProof.Rows
set_option maxRecDepth 100000 in
set_option maxHeartbeats 0 in
theorem PySem.Challenge.cw_sparetrees_k30_whole_fewest_links_put_in_holds : PySem.Challenge.rw_sparetrees_k30_whole_fewest_links_put_in.Holds := by
  w_on; o_law; k_head; (case hw => w_witness2)
  k_fill
  refine Fw.walk (l := PySem.Challenge.rw_sparetrees_k30_whole_fewest_links_put_in) rfl rfl (fun w h Y => PySem.W.kIn_of Y) ?F
  case F =>
    intro w mg fa h KX G hmg
    refine' Fw.law_at KX G hmg ?aC ?ai ?ii ?li ?ci ?ki ?al ?ll ?cl ?kl ?pg ?hd ?po ?sa ?mk ?kc ?nM ?nR ?nL ?ca ?cs ?ct ?cm ?q1 ?q2 ?q3 ?q4 ?q5 ?q6 ⟨PySem.W.mg_none_of KX G ?b0, PySem.W.mg_none_of KX G ?b1, PySem.W.mg_none_of KX G ?b2, PySem.W.mg_none_of KX G ?b3, PySem.W.mg_none_of KX G ?b4, PySem.W.mg_none_of KX G ?b5, PySem.W.mg_none_of KX G ?b6, PySem.W.mg_none_of KX G ?b7, PySem.W.mg_none_of KX G ?b8, PySem.W.mg_none_of KX G ?b9, PySem.W.mg_none_of KX G ?b10, PySem.W.mg_none_of KX G ?b11, PySem.W.mg_none_of KX G ?b12, PySem.W.mg_none_of KX G ?b13, PySem.W.mg_none_of KX G ?b14, PySem.W.mg_none_of KX G ?b15, PySem.W.mg_none_of KX G ?b16, PySem.W.mg_none_of KX G ?b17⟩
      (Fw.fun_at KX G Fw.bd_is_integer ?a0 ?l0 ?c0 ?k0)
      (Fw.fun_at KX G Fw.bd_is_within ?a1 ?l1 ?c1 ?k1)
      (Fw.fun_at KX G Fw.bd_is_pair ?a2 ?l2 ?c2 ?k2)
      (Fw.fun_at KX G Fw.bd_is_lot ?a3 ?l3 ?c3 ?k3)
      (Fw.fun_at KX G Fw.bd_is_link ?a4 ?l4 ?c4 ?k4)
      (Fw.fun_at KX G Fw.bd_check_net ?a5 ?l5 ?c5 ?k5)
      (Fw.fun_at KX G Fw.bd_is_side ?a6 ?l6 ?c6 ?k6)
      (Fw.fun_at KX G Fw.bd_all_lots ?a7 ?l7 ?c7 ?k7)
      (Fw.fun_at KX G Fw.bd_all_sides ?a8 ?l8 ?c8 ?k8)
      (Fw.fun_at KX G Fw.bd_does_enter ?a9 ?l9 ?c9 ?k9)
      (Fw.fun_at KX G Fw.bd_entering_of ?a10 ?l10 ?c10 ?k10)
      (Fw.fun_at KX G Fw.bd_every_link ?a11 ?l11 ?c11 ?k11)
      (Fw.fun_at KX G Fw.bd_check_number ?a12 ?l12 ?c12 ?k12)
      (Fw.fun_at KX G Fw.bd_are_apart ?a13 ?l13 ?c13 ?k13)
      (Fw.fun_at KX G Fw.bd_lack_of ?a14 ?l14 ?c14 ?k14)
      (Fw.fun_at KX G Fw.bd_holds ?a15 ?l15 ?c15 ?k15)
      (Fw.fun_at KX G Fw.bd_least_added ?a16 ?l16 ?c16 ?k16)
      (Fw.fun_at KX G Fw.bd_check_wanted ?a17 ?l17 ?c17 ?k17)
      (Fw.fun_at KX G Fw.bd_lacking ?a18 ?l18 ?c18 ?k18)
      (Fw.fun_at KX G Fw.bd_to_add ?a19 ?l19 ?c19 ?k19)
      (Fw.fun_at KX G Fw.bd_is_enough ?a20 ?l20 ?c20 ?k20)
      (Fw.fun_at KX G Fw.bd_joined ?a21 ?l21 ?c21 ?k21)
      (Fw.fun_at KX G Fw.bd_greatest_lack ?a22 ?l22 ?c22 ?k22)
      (Fw.fun_at KX G Fw.bd_is_lack ?a23 ?l23 ?c23 ?k23)
      (Fw.fun_at KX G Fw.bd_l_hand ?a24 ?l24 ?c24 ?k24)
      (Fw.fun_at KX G Fw.bd_l_draw ?a25 ?l25 ?c25 ?k25)
      (Fw.fun_at KX G Fw.bd_l_any ?a26 ?l26 ?c26 ?k26)
      (Fw.fun_at KX G Fw.bd_l_is ?a27 ?l27 ?c27 ?k27)
      (Fw.fun_at KX G Fw.bd_l_int ?a28 ?l28 ?c28 ?k28)
      (Fw.fun_at KX G Fw.bd_l_mixed ?a29 ?l29 ?c29 ?k29)
      (Fw.fun_at KX G Fw.bd_l_is_lot ?a30 ?l30 ?c30 ?k30)
      (Fw.fun_at KX G Fw.bd_l_are_apart ?a31 ?l31 ?c31 ?k31)
      (Fw.fun_at KX G Fw.bd_l_net ?a32 ?l32 ?c32 ?k32)
      (Fw.fun_at KX G Fw.bd_l_sides ?a33 ?l33 ?c33 ?k33)
      (Fw.fun_at KX G Fw.bd_l_entered ?a34 ?l34 ?c34 ?k34)
      (Fw.fun_at KX G Fw.bd_l_weight ?a35 ?l35 ?c35 ?k35)
      (Fw.fun_at KX G Fw.bd_l_lacks ?a36 ?l36 ?c36 ?k36)
      (Fw.fun_at KX G Fw.bd_l_is_side ?a37 ?l37 ?c37 ?k37)
      (Fw.fun_at KX G Fw.bd_l_is_lack ?a38 ?l38 ?c38 ?k38)
      (Fw.fun_at KX G Fw.bd_l_are_pairs ?a39 ?l39 ?c39 ?k39)
      (Fw.fun_at KX G Fw.bd_l_is_enough ?a40 ?l40 ?c40 ?k40)
      (Fw.fun_at KX G Fw.bd_l_flat ?a41 ?l41 ?c41 ?k41)
    (case aC => k_is); (case ai => k_is); (case ii => k_is); (case li => k_is); (case ci => k_is); (case ki => k_is)
    (case al => k_is); (case ll => k_is); (case cl => k_is); (case kl => k_is); (case pg => k_is); (case hd => k_is)
    (case po => k_is); (case sa => k_is); (case mk => k_is); (case kc => k_is); (case nM => k_is); (case nR => k_is)
    (case nL => k_is); (case ca => k_is); (case cs => k_is); (case ct => k_is); (case cm => k_is); (case q1 => k_is)
    (case q2 => k_is); (case q3 => k_is); (case q4 => k_is); (case q5 => k_is); (case q6 => k_is)
    (case b0 => k_is); (case b1 => k_is); (case b2 => k_is); (case b3 => k_is); (case b4 => k_is); (case b5 => k_is)
    (case b6 => k_is); (case b7 => k_is); (case b8 => k_is); (case b9 => k_is); (case b10 => k_is); (case b11 => k_is)
    (case b12 => k_is); (case b13 => k_is); (case b14 => k_is); (case b15 => k_is); (case b16 => k_is); (case b17 => k_is)
    (case a0 => k_is); (case l0 => k_is); (case c0 => k_is); (case k0 => k_is)
    (case a1 => k_is); (case l1 => k_is); (case c1 => k_is); (case k1 => k_is)
    (case a2 => k_is); (case l2 => k_is); (case c2 => k_is); (case k2 => k_is)
    (case a3 => k_is); (case l3 => k_is); (case c3 => k_is); (case k3 => k_is)
    (case a4 => k_is); (case l4 => k_is); (case c4 => k_is); (case k4 => k_is)
    (case a5 => k_is); (case l5 => k_is); (case c5 => k_is); (case k5 => k_is)
    (case a6 => k_is); (case l6 => k_is); (case c6 => k_is); (case k6 => k_is)
    (case a7 => k_is); (case l7 => k_is); (case c7 => k_is); (case k7 => k_is)
    (case a8 => k_is); (case l8 => k_is); (case c8 => k_is); (case k8 => k_is)
    (case a9 => k_is); (case l9 => k_is); (case c9 => k_is); (case k9 => k_is)
    (case a10 => k_is); (case l10 => k_is); (case c10 => k_is); (case k10 => k_is)
    (case a11 => k_is); (case l11 => k_is); (case c11 => k_is); (case k11 => k_is)
    (case a12 => k_is); (case l12 => k_is); (case c12 => k_is); (case k12 => k_is)
    (case a13 => k_is); (case l13 => k_is); (case c13 => k_is); (case k13 => k_is)
    (case a14 => k_is); (case l14 => k_is); (case c14 => k_is); (case k14 => k_is)
    (case a15 => k_is); (case l15 => k_is); (case c15 => k_is); (case k15 => k_is)
    (case a16 => k_is); (case l16 => k_is); (case c16 => k_is); (case k16 => k_is)
    (case a17 => k_is); (case l17 => k_is); (case c17 => k_is); (case k17 => k_is)
    (case a18 => k_is); (case l18 => k_is); (case c18 => k_is); (case k18 => k_is)
    (case a19 => k_is); (case l19 => k_is); (case c19 => k_is); (case k19 => k_is)
    (case a20 => k_is); (case l20 => k_is); (case c20 => k_is); (case k20 => k_is)
    (case a21 => k_is); (case l21 => k_is); (case c21 => k_is); (case k21 => k_is)
    (case a22 => k_is); (case l22 => k_is); (case c22 => k_is); (case k22 => k_is)
    (case a23 => k_is); (case l23 => k_is); (case c23 => k_is); (case k23 => k_is)
    (case a24 => k_is); (case l24 => k_is); (case c24 => k_is); (case k24 => k_is)
    (case a25 => k_is); (case l25 => k_is); (case c25 => k_is); (case k25 => k_is)
    (case a26 => k_is); (case l26 => k_is); (case c26 => k_is); (case k26 => k_is)
    (case a27 => k_is); (case l27 => k_is); (case c27 => k_is); (case k27 => k_is)
    (case a28 => k_is); (case l28 => k_is); (case c28 => k_is); (case k28 => k_is)
    (case a29 => k_is); (case l29 => k_is); (case c29 => k_is); (case k29 => k_is)
    (case a30 => k_is); (case l30 => k_is); (case c30 => k_is); (case k30 => k_is)
    (case a31 => k_is); (case l31 => k_is); (case c31 => k_is); (case k31 => k_is)
    (case a32 => k_is); (case l32 => k_is); (case c32 => k_is); (case k32 => k_is)
    (case a33 => k_is); (case l33 => k_is); (case c33 => k_is); (case k33 => k_is)
    (case a34 => k_is); (case l34 => k_is); (case c34 => k_is); (case k34 => k_is)
    (case a35 => k_is); (case l35 => k_is); (case c35 => k_is); (case k35 => k_is)
    (case a36 => k_is); (case l36 => k_is); (case c36 => k_is); (case k36 => k_is)
    (case a37 => k_is); (case l37 => k_is); (case c37 => k_is); (case k37 => k_is)
    (case a38 => k_is); (case l38 => k_is); (case c38 => k_is); (case k38 => k_is)
    (case a39 => k_is); (case l39 => k_is); (case c39 => k_is); (case k39 => k_is)
    (case a40 => k_is); (case l40 => k_is); (case c40 => k_is); (case k40 => k_is)
    (case a41 => k_is); (case l41 => k_is); (case c41 => k_is); (case k41 => k_is)
end
