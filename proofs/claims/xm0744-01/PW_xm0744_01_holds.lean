import PyProof.Rows.All
import Wide.All
import OpenK.AllK
import Wide.FinOn
import Lean
import PySem.Challenge.RW_xm0744_01
open PySem PySem.W PyProof.Rows
set_option Elab.async false
set_option maxRecDepth 100000
set_option maxHeartbeats 8000000
namespace Mine
open_top hd for PySem.Challenge.rw_xm0744_01
/-- what a call of the def at address f with the arguments vs gives, over a ledger: its answer and the new ledger are in R -/
def Ctr (w : World) (f : Addr) (d : Nat) (vs : List Value) (news : List (Addr × Obj)) (R : Value → List (Addr × Obj) → Prop) : Prop :=
  ∀ (mean : ExcName → Option Value) (mg mb : Str → Option Value) (dp un : Nat) (gd : Option (List Code)) (cn : Str) (cs : Scope) (a : Addr) (ccd : Value) (cl : List (Str × Addr)) (outer : List Env) (A₀ : Around) (base h₀ : Heap) (L : Addr) (m : Str → Option Value) (s : Shared) (Q E : Value → Shared → Prop),
    Below A₀ base outer h₀ → Fr h₀ L s.heap m → (Mine.hd.heap_39 w.params).In h₀ → News h₀ L s.heap news →
    Top Mine.hd.view_39 (looseW Mine.hd.view_39 [Str.ofString "MIN_INT", Str.ofString "MAX_INT"]) mean mg mb h₀ → cs.kind = .function → dp + d < recursionLimit → un + 8 * d < cLine →
    (∀ v news' h' tk', R v news' → Fr h₀ L h' m → News h₀ L h' news' → Q v { s with heap := h', toks := tk' }) →
    wpAny (model Challenge.rw_xm0744_01.row.prog w) (ktrTop dp un gd cn cs L a ccd cl outer) (call (.ref f) vs) Q E s

theorem Ctr.use {w : World} {f : Addr} {d : Nat} {vs : List Value} {news : List (Addr × Obj)} {R : Value → List (Addr × Obj) → Prop} {mean : ExcName → Option Value} {mg mb : Str → Option Value} {dp un : Nat} {gd : Option (List Code)} {cn : Str} {cs : Scope} {a : Addr} {ccd : Value} {cl : List (Str × Addr)} {outer : List Env} {A₀ : Around} {base h₀ : Heap} {L : Addr} {m : Str → Option Value} {s : Shared} {Q E : Value → Shared → Prop}
    (C : Ctr w f d vs news R)
    (B : Below A₀ base outer h₀) (F : Fr h₀ L s.heap m) (X : (Mine.hd.heap_39 w.params).In h₀) (N : News h₀ L s.heap news)
    (T : Top Mine.hd.view_39 (looseW Mine.hd.view_39 [Str.ofString "MIN_INT", Str.ofString "MAX_INT"]) mean mg mb h₀) (hk : cs.kind = .function) (hd : dp + d < recursionLimit) (hu : un + 8 * d < cLine)
    (ret : ∀ v news' h' tk', R v news' → Fr h₀ L h' m → News h₀ L h' news' → Q v { s with heap := h', toks := tk' }) :
    wpAny (model Challenge.rw_xm0744_01.row.prog w) (ktrTop dp un gd cn cs L a ccd cl outer) (call (.ref f) vs) Q E s :=
  C _ _ _ _ _ _ _ _ _ _ _ _ _ _ _ _ _ _ _ _ B F X N T hk hd hu ret

/-- the two numbers that the law draws from -/
def SrcOk (o : Obj) : Prop := ∃ (a b : Int) (ta tb : Tok) (n : Nat), o = listOf #[.int a ta, .int b tb] n ∧ 0 ≤ a ∧ 0 ≤ b ∧ b < 2147483647

theorem Ctr.upd {w : World} {f : Addr} {d : Nat} {vs : List Value} {src : Addr} {o : Obj} {led : List (Addr × Obj)} {g : Obj → List (Addr × Obj)} {P : Value → Obj → Prop} (U : UpdF src o led g)
    (C : ∀ rest, (∀ p ∈ rest, p.1 ≠ src) → (∀ p ∈ led, p.1 ≠ src → p ∈ rest) → Ctr w f d vs ((src, o) :: rest) (fun v news' => ∃ o', P v o' ∧ news' = (src, o') :: rest)) :
    Ctr w f d vs led (fun v news' => ∃ o', P v o' ∧ news' = g o') := by
  obtain ⟨pre, post, e1, e2, h1, h2⟩ := U.split
  intro mean mg mb dp un gd cn cs a ccd cl outer A₀ base h₀ L m s Q E B F X N T hk hd hu hret
  refine C (pre ++ post) ?_ ?_ mean mg mb dp un gd cn cs a ccd cl outer A₀ base h₀ L m s Q E B F X ?_ T hk hd hu ?_
  · intro p hp
    rcases List.mem_append.mp hp with hp | hp
    · exact h1 p hp
    · exact h2 p hp
  · intro p hp hne
    rw [e1] at hp
    rcases List.mem_append.mp hp with hp | hp
    · exact List.mem_append_left _ hp
    · rcases List.mem_cons.mp hp with rfl | hp
      · exact absurd rfl hne
      · exact List.mem_append_right _ hp
  · intro p hp
    refine N p ?_
    rw [e1]
    rcases List.mem_cons.mp hp with rfl | hp
    · exact List.mem_append_right _ (.head _)
    · rcases List.mem_append.mp hp with hp | hp
      · exact List.mem_append_left _ hp
      · exact List.mem_append_right _ (.tail _ hp)
  · rintro v news' h' tk' ⟨o', hP, rfl⟩ F' N'
    refine hret v _ h' tk' ⟨o', hP, rfl⟩ F' fun p hp => N' p ?_
    rw [e2] at hp
    rcases List.mem_append.mp hp with hp | hp
    · exact List.mem_cons_of_mem _ (List.mem_append_left _ hp)
    · rcases List.mem_cons.mp hp with rfl | hp
      · exact .head _
      · exact List.mem_cons_of_mem _ (List.mem_append_right _ hp)

/-- as Ctr.upd, of a def that hands back one new object -/
theorem Ctr.updT {w : World} {f : Addr} {d : Nat} {vs : List Value} {src : Addr} {o : Obj} {led : List (Addr × Obj)} {g : Obj → List (Addr × Obj)} {P : Value → Obj → Addr → Obj → Prop} (U : UpdF src o led g)
    (C : ∀ rest, (∀ p ∈ rest, p.1 ≠ src) → (∀ p ∈ led, p.1 ≠ src → p ∈ rest) → Ctr w f d vs ((src, o) :: rest) (fun v news' => ∃ o' a t, P v o' a t ∧ (∀ p ∈ (src, o) :: rest, p.1 < a) ∧ news' = (a, t) :: (src, o') :: rest)) :
    Ctr w f d vs led (fun v news' => ∃ o' a t, P v o' a t ∧ (∀ p ∈ led, p.1 < a) ∧ news' = (a, t) :: g o') := by
  obtain ⟨pre, post, e1, e2, h1, h2⟩ := U.split
  intro mean mg mb dp un gd cn cs a ccd cl outer A₀ base h₀ L m s Q E B F X N T hk hd hu hret
  refine C (pre ++ post) ?_ ?_ mean mg mb dp un gd cn cs a ccd cl outer A₀ base h₀ L m s Q E B F X ?_ T hk hd hu ?_
  · intro p hp
    rcases List.mem_append.mp hp with hp | hp
    · exact h1 p hp
    · exact h2 p hp
  · intro p hp hne
    rw [e1] at hp
    rcases List.mem_append.mp hp with hp | hp
    · exact List.mem_append_left _ hp
    · rcases List.mem_cons.mp hp with rfl | hp
      · exact absurd rfl hne
      · exact List.mem_append_right _ hp
  · intro p hp
    refine N p ?_
    rw [e1]
    rcases List.mem_cons.mp hp with rfl | hp
    · exact List.mem_append_right _ (.head _)
    · rcases List.mem_append.mp hp with hp | hp
      · exact List.mem_append_left _ hp
      · exact List.mem_append_right _ (.tail _ hp)
  · rintro v news' h' tk' ⟨o', b, t, hP, hlt, rfl⟩ F' N'
    refine hret v _ h' tk' ⟨o', b, t, hP, fun p hp => ?_, rfl⟩ F' fun p hp => N' p ?_
    · rw [e1] at hp
      rcases List.mem_append.mp hp with hp | hp
      · exact hlt p (.tail _ (List.mem_append_left _ hp))
      · rcases List.mem_cons.mp hp with rfl | hp
        · exact hlt (src, o) (.head _)
        · exact hlt p (.tail _ (List.mem_append_right _ hp))
    · rw [e2] at hp
      rcases List.mem_cons.mp hp with rfl | hp
      · exact .head _
      · rcases List.mem_append.mp hp with hp | hp
        · exact .tail _ (List.mem_cons_of_mem _ (List.mem_append_left _ hp))
        · rcases List.mem_cons.mp hp with rfl | hp
          · exact .tail _ (.head _)
          · exact .tail _ (List.mem_cons_of_mem _ (List.mem_append_right _ hp))

theorem Ctr.mono {w : World} {f : Addr} {d : Nat} {vs : List Value} {news : List (Addr × Obj)} {R R' : Value → List (Addr × Obj) → Prop} (C : Ctr w f d vs news R) (h : ∀ v n, R v n → R' v n) : Ctr w f d vs news R' :=
  fun mean mg mb dp un gd cn cs a ccd cl outer A₀ base h₀ L m s Q E B F X N T hk hd hu hret => C mean mg mb dp un gd cn cs a ccd cl outer A₀ base h₀ L m s Q E B F X N T hk hd hu fun v n h' tk' r => hret v n h' tk' (h v n r)
def dig (c : Nat) : Bool := decide (48 ≤ c) && decide (c ≤ 57)
def spc (c : Nat) : Bool := c == 32 || (decide (9 ≤ c) && decide (c ≤ 13))
def lead (p : Nat → Bool) (l : List Nat) : Nat := (l.takeWhile p).length
def endOf (p : Nat → Bool) (x : Str) (k : Int) : Int := k + (lead p (x.cps.toList.drop k.toNat) : Nat)

theorem cps_digits : (Str.ofString "0123456789").cps.toList = [48,49,50,51,52,53,54,55,56,57] := by decide +kernel
theorem cps_spaces : (Str.ofString " \t\n\x0b\x0c\x0d").cps.toList = [32,9,10,11,12,13] := by decide +kernel
theorem cps_signs : (Str.ofString "+-").cps.toList = [43,45] := by decide +kernel

theorem mem_digits (c : Nat) : decide (c ∈ (Str.ofString "0123456789").cps.toList) = dig c := by
  rw [cps_digits, Bool.eq_iff_iff]
  simp only [decide_eq_true_eq, dig, Bool.and_eq_true, List.mem_cons, List.not_mem_nil, or_false]
  omega
theorem mem_spaces (c : Nat) : decide (c ∈ (Str.ofString " \t\n\x0b\x0c\x0d").cps.toList) = spc c := by
  rw [cps_spaces, Bool.eq_iff_iff]
  simp only [decide_eq_true_eq, spc, Bool.and_eq_true, Bool.or_eq_true, beq_iff_eq, List.mem_cons, List.not_mem_nil, or_false]
  omega

theorem item_at {x : Str} {k : Int} (h0 : 0 ≤ k) (hk : k < (x.length : Int)) : ∃ c, x.cps.toList[k.toNat]? = some c ∧ Txt.item x k = ⟨#[c]⟩ := by
  have hl : k.toNat < x.cps.size := by have : x.length = x.cps.size := rfl; omega
  refine ⟨x.cps[k.toNat], ?_, item_meets h0 (Array.getElem?_eq_getElem hl)⟩
  rw [Array.getElem?_toList, Array.getElem?_eq_getElem hl]

theorem drop_at {l : List Nat} {i c : Nat} (h : l[i]? = some c) : l.drop i = c :: l.drop (i + 1) := by
  obtain ⟨hl, rfl⟩ := List.getElem?_eq_some_iff.mp h
  exact List.drop_eq_getElem_cons hl

theorem endOf_step {p : Nat → Bool} {x y : Str} {k : Int} (hp : ∀ c, decide (c ∈ y.cps.toList) = p c) (h0 : 0 ≤ k) (hk : k < (x.length : Int))
    (h : (Builtin.Str.occurrences y (Txt.item x k) 0 y.length 1).isEmpty = false) : endOf p x (k + 1) = endOf p x k := by
  obtain ⟨c, hc, hi⟩ := item_at h0 hk
  rw [hi] at h
  have hd := StrLaws.found_one y c
  rw [h, hp] at hd
  unfold endOf lead
  rw [show (k + 1).toNat = k.toNat + 1 by omega, drop_at hc, List.takeWhile_cons, ← hd]
  simp only [Bool.not_false, if_true, List.length_cons]
  omega

theorem endOf_stop {p : Nat → Bool} {x y : Str} {k : Int} (hp : ∀ c, decide (c ∈ y.cps.toList) = p c) (h0 : 0 ≤ k) (hk : k < (x.length : Int))
    (h : (Builtin.Str.occurrences y (Txt.item x k) 0 y.length 1).isEmpty = true) : endOf p x k = k := by
  obtain ⟨c, hc, hi⟩ := item_at h0 hk
  rw [hi] at h
  have hd := StrLaws.found_one y c
  rw [h, hp] at hd
  unfold endOf lead
  rw [drop_at hc, List.takeWhile_cons, ← hd]
  simp

theorem endOf_out {p : Nat → Bool} {x : Str} {k : Int} (hk : ¬ k < (x.length : Int)) : endOf p x k = k := by
  have : x.length = x.cps.size := rfl
  unfold endOf lead
  rw [List.drop_eq_nil_of_le (by simp; omega)]
  simp
def numZ (l : List Int) : Int := l.foldl (fun n c => if 48 ≤ c ∧ c ≤ 57 then n * 10 + (c - 48) else n) 0
def numOf (x : Str) : Int := if x.cps.toList.head? = some 45 then - numZ (KStt.codes x) else numZ (KStt.codes x)

theorem occ_clash {l : List Nat} (h1 : l.isEmpty = false) (h2 : l.isEmpty = true) : False := by rw [h1] at h2; cases h2

theorem occ_dig {c : Nat} {b : Bool} (h : (Builtin.Str.occurrences (Str.ofString "0123456789") { cps := #[c] } 0 (Str.ofString "0123456789").length 1).isEmpty = b) : dig c = !b := by
  have hd := StrLaws.found_one (Str.ofString "0123456789") c
  rw [h, mem_digits] at hd
  exact hd.symm
theorem find_dig {c : Nat} (h : dig c = true) : Txt.find (Str.ofString "0123456789") { cps := #[c] } = (c : Int) - 48 := by
  simp only [dig, Bool.and_eq_true, decide_eq_true_eq] at h
  have : c = 48 ∨ c = 49 ∨ c = 50 ∨ c = 51 ∨ c = 52 ∨ c = 53 ∨ c = 54 ∨ c = 55 ∨ c = 56 ∨ c = 57 := by omega
  rcases this with rfl | rfl | rfl | rfl | rfl | rfl | rfl | rfl | rfl | rfl <;> decide +kernel
theorem numZ_skip {n : Int} {pre : List Int} {c : Nat} (h : n = numZ pre)
    (ho : (Builtin.Str.occurrences (Str.ofString "0123456789") { cps := #[c] } 0 (Str.ofString "0123456789").length 1).isEmpty = true) : n = numZ (pre ++ [(c : Int)]) := by
  have hd := occ_dig ho
  simp only [dig, Bool.not_true, Bool.and_eq_false_iff, decide_eq_false_iff_not] at hd
  unfold numZ at h ⊢
  rw [List.foldl_append, ← h]
  show n = if _ then _ else _
  rw [if_neg (by omega)]
theorem numZ_take {n : Int} {pre : List Int} {c : Nat} (h : n = numZ pre)
    (ho : (Builtin.Str.occurrences (Str.ofString "0123456789") { cps := #[c] } 0 (Str.ofString "0123456789").length 1).isEmpty = false) :
    n * 10 + Txt.find (Str.ofString "0123456789") { cps := #[c] } = numZ (pre ++ [(c : Int)]) := by
  have hd := occ_dig ho
  rw [find_dig hd]
  simp only [dig, Bool.not_false, Bool.and_eq_true, decide_eq_true_eq] at hd
  unfold numZ at h ⊢
  rw [List.foldl_append, ← h]
  show _ = if _ then _ else _
  rw [if_pos (by omega)]
theorem slice_one {x : Str} : (Txt.slice x none (some 1) == Str.ofString "-") = decide (x.cps.toList.head? = some 45) := by
  have hm : Str.ofString "-" = ⟨#[45]⟩ := by decide +kernel
  by_cases h : x.cps.toList.length = 0
  · have hx : x = ⟨#[]⟩ := by
      obtain ⟨⟨l⟩⟩ := x
      have : l = [] := List.eq_nil_of_length_eq_zero h
      subst this; rfl
    subst hx
    decide +kernel
  · have hs := eq_of_beq (slice_closes_to (x := x) (j := 1) ⟨by omega, by omega⟩)
    rw [hs, hm]
    obtain ⟨⟨l⟩⟩ := x
    cases l with
    | nil => exact absurd rfl h
    | cons a r =>
      rw [Bool.eq_iff_iff]
      simp
theorem numOf_neg {x : Str} {n : Int} (h : n = numZ (KStt.codes x)) (hs : (Txt.slice x none (some 1) == Str.ofString "-") = true) : -n = numOf x := by
  rw [slice_one, decide_eq_true_eq] at hs
  unfold numOf
  rw [if_pos hs, h]
theorem numOf_pos {x : Str} {n : Int} (h : n = numZ (KStt.codes x)) (hs : (Txt.slice x none (some 1) == Str.ofString "-") = false) : n = numOf x := by
  rw [slice_one, decide_eq_false_iff_not] at hs
  unfold numOf
  rw [if_neg hs, h]
def signAt (x : Str) (b : Int) : Bool := match x.cps.toList[b.toNat]? with | some c => c == 43 || c == 45 | none => false
def spanOf (x : Str) : Option (Int × Int) :=
  let b := endOf spc x 0
  let a := if signAt x b then b + 1 else b
  if endOf dig x a = a then none else some (b, endOf dig x a)

def SPred (text : Str) (k : Int) : Prop := 0 ≤ k ∧ endOf spc text k = endOf spc text 0
theorem spred_zero {x : Str} : SPred x 0 := ⟨Int.le_refl 0, rfl⟩
theorem spred_step {x : Str} {k : Int} (h : SPred x k) (hk : k < (x.length : Int))
    (ho : (Builtin.Str.occurrences (Str.ofString " \t\n\x0b\x0c\x0d") (Txt.item x k) 0 (Str.ofString " \t\n\x0b\x0c\x0d").length 1).isEmpty = false) : SPred x (k + 1) :=
  ⟨by have := h.1; omega, (endOf_step mem_spaces h.1 hk ho).trans h.2⟩
theorem spred_stop {x : Str} {k : Int} (h : SPred x k) (hk : k < (x.length : Int))
    (ho : (Builtin.Str.occurrences (Str.ofString " \t\n\x0b\x0c\x0d") (Txt.item x k) 0 (Str.ofString " \t\n\x0b\x0c\x0d").length 1).isEmpty = true) : k = endOf spc x 0 :=
  (endOf_stop mem_spaces h.1 hk ho).symm.trans h.2
theorem spred_out {x : Str} {k : Int} (h : SPred x k) (hk : ¬ k < (x.length : Int)) : k = endOf spc x 0 := (endOf_out hk).symm.trans h.2
theorem signAt_in {x : Str} {k : Int} {b : Bool} (h0 : 0 ≤ k) (hk : k < (x.length : Int))
    (ho : (Builtin.Str.occurrences (Str.ofString "+-") (Txt.item x k) 0 (Str.ofString "+-").length 1).isEmpty = b) : signAt x k = !b := by
  obtain ⟨c, hc, hi⟩ := item_at h0 hk
  rw [hi] at ho
  have hd := StrLaws.found_one (Str.ofString "+-") c
  rw [ho, cps_signs] at hd
  unfold signAt
  rw [hc, hd]
  show (c == 43 || c == 45) = decide (c ∈ [43, 45])
  rw [Bool.eq_iff_iff]
  simp
theorem signAt_out {x : Str} {k : Int} (hk : ¬ k < (x.length : Int)) : signAt x k = false := by
  have : x.length = x.cps.size := rfl
  unfold signAt
  rw [List.getElem?_eq_none (by simp; omega)]
theorem span_none1 {x : Str} {b : Int} (hb : b = endOf spc x 0) (hs : signAt x b = true) (he : endOf dig x (b + 1) = b + 1) : spanOf x = none := by
  unfold spanOf
  rw [← hb]
  simp [hs, he]
theorem span_none0 {x : Str} {b : Int} (hb : b = endOf spc x 0) (hs : signAt x b = false) (he : endOf dig x b = b) : spanOf x = none := by
  unfold spanOf
  rw [← hb]
  simp [hs, he]
theorem span_some1 {x : Str} {b : Int} (hb : b = endOf spc x 0) (hs : signAt x b = true) (he : ¬ endOf dig x (b + 1) = b + 1) : spanOf x = some (b, endOf dig x (b + 1)) := by
  unfold spanOf
  rw [← hb]
  simp [hs, he]
theorem span_some0 {x : Str} {b : Int} (hb : b = endOf spc x 0) (hs : signAt x b = false) (he : ¬ endOf dig x b = b) : spanOf x = some (b, endOf dig x b) := by
  unfold spanOf
  rw [← hb]
  simp [hs, he]
def wholeOf (x : Str) : Option Int := match spanOf x with
  | none => none
  | some p => if (KStt.codes (Txt.slice x (some p.2) none)).all (fun a => spc a.toNat) = true then
      (if (decide (-9223372036854775808 ≤ numOf (Txt.slice x (some p.1) (some p.2))) && decide (numOf (Txt.slice x (some p.1) (some p.2)) ≤ 9223372036854775807)) = true then some (numOf (Txt.slice x (some p.1) (some p.2))) else none)
    else none
theorem all_snoc {pre : List Int} {c : Nat} (h : ∀ a ∈ pre, spc a.toNat = true)
    (ho : (Builtin.Str.occurrences (Str.ofString " \t\n\x0b\x0c\x0d") { cps := #[c] } 0 (Str.ofString " \t\n\x0b\x0c\x0d").length 1).isEmpty = false) : ∀ a ∈ pre ++ [(c : Int)], spc a.toNat = true := by
  intro a ha
  rcases List.mem_append.mp ha with ha | ha
  · exact h a ha
  · rw [List.mem_singleton.mp ha, Int.toNat_natCast, ← mem_spaces, ← StrLaws.found_one, ho]; rfl
theorem whole_none0 {x : Str} (h : spanOf x = none) : wholeOf x = none := by unfold wholeOf; rw [h]
theorem whole_none1 {x : Str} {b e : Int} {pre post : List Int} {c : Nat} (h : spanOf x = some (b, e)) (hc : KStt.codes (Txt.slice x (some e) none) = pre ++ (c : Int) :: post)
    (ho : (Builtin.Str.occurrences (Str.ofString " \t\n\x0b\x0c\x0d") { cps := #[c] } 0 (Str.ofString " \t\n\x0b\x0c\x0d").length 1).isEmpty = true) : wholeOf x = none := by
  unfold wholeOf
  rw [h]
  dsimp only
  rw [hc, if_neg]
  have hd := StrLaws.found_one (Str.ofString " \t\n\x0b\x0c\x0d") c
  rw [ho, mem_spaces] at hd
  simp [← hd]
theorem whole_some {x : Str} {b e : Int} (h : spanOf x = some (b, e)) (ha : ∀ a ∈ KStt.codes (Txt.slice x (some e) none), spc a.toNat = true)
    (hr : (decide (-9223372036854775808 ≤ numOf (Txt.slice x (some b) (some e))) && decide (numOf (Txt.slice x (some b) (some e)) ≤ 9223372036854775807)) = true) : wholeOf x = some (numOf (Txt.slice x (some b) (some e))) := by
  unfold wholeOf
  rw [h]
  dsimp only
  rw [if_pos (List.all_eq_true.mpr ha), if_pos hr]
theorem whole_none2 {x : Str} {b e : Int} (h : spanOf x = some (b, e)) (ha : ∀ a ∈ KStt.codes (Txt.slice x (some e) none), spc a.toNat = true)
    (hr : (decide (-9223372036854775808 ≤ numOf (Txt.slice x (some b) (some e))) && decide (numOf (Txt.slice x (some b) (some e)) ≤ 9223372036854775807)) = false) : wholeOf x = none := by
  unfold wholeOf
  rw [h]
  dsimp only
  rw [if_pos (List.all_eq_true.mpr ha), if_neg (by rw [hr]; decide)]
section
variable {prog : Program} {w : World} {A : Around} {E : Value → Shared → Prop} {s : Shared} {h₀ : Heap} {L : Addr} {m : Str → Option Value} {env : Env}
/-- a comprehension by what holds between its turns: of the items made so far and of the ledger -/
theorem comp_inv {elt : Expr} {x : Str} {scope : Scope} {cl : List (Str × Addr)} {S : List (Addr × Obj) → Prop} {P : Nat → Value → Prop} {Fin : List Value → List (Addr × Obj) → Prop} {n : Nat}
    (J : Nat → List Value → List (Addr × Obj) → Prop)
    (turn : ∀ i ys nw v I oI C oC D m₂ h tk (E' : Value → Shared → Prop), i < n → J i ys nw → P i v → LCg.NsObj oC m₂ → m₂ x = some v → Fr h₀ L h m → News h₀ L h ((I, oI) :: (C, oC) :: (D, LCg.lst ys) :: nw) → LCg.Off3 I C D nw → ((@Ne Nat I C) ∧ (@Ne Nat I D) ∧ (@Ne Nat C D)) →
      wpAny (model prog w) A (eval elt (compEnvC scope cl C env)) (LCg.CompEnd h₀ L m { s with heap := h, toks := tk } I oI C oC D (LCg.lst ys) S (fun y nw' => J (i + 1) (ys ++ [y]) nw')) E' { s with heap := h, toks := tk })
    (fin : ∀ ys nw, J n ys nw → Fin ys nw) : ∀ k i ys nw, i + k = n → J i ys nw → LCg.CompRest prog w A h₀ L m env elt x scope cl s S P Fin k i ys nw := by
  intro k
  induction k with
  | zero => intro i ys nw hi hJ; exact LCg.CompRest.zero (fin ys nw (by rw [← hi]; exact hJ))
  | succ k ih =>
    intro i ys nw hi hJ
    refine LCg.CompRest.succ fun v I oI C oC D m₂ h tk E' hP hC hx F N off ne => ?_
    refine wpAny_mono (turn i ys nw v I oI C oC D m₂ h tk E' (by omega) hJ hP hC hx F N off ne) (fun y s₂ q => ?_) fun _ _ e => e
    obtain ⟨h', tk', nw', e, F', N', off', hS, r⟩ := q
    exact ⟨h', tk', nw', e, F', N', off', hS, ih (i + 1) _ _ (by omega) r⟩
end

theorem join_cps : ∀ xs : List Str, (Txt.join (Str.ofString "") xs).cps.toList = (xs.map (·.cps.toList)).flatten := by
  intro xs
  show (Builtin.Str.glued (Str.ofString "") xs).cps.toList = _
  rw [StrLaws.glued_eq_join]
  have he : Str.ofString "" = ⟨#[]⟩ := by decide +kernel
  rw [he]
  induction xs with
  | nil => rfl
  | cons a r ih =>
    cases r with
    | nil => simp [Str.join]
    | cons b r =>
      show (a ++ ⟨#[]⟩ ++ Str.join ⟨#[]⟩ (b :: r)).cps.toList = _
      rw [Str.cps_append, Str.cps_append, Array.toList_append, Array.toList_append, ih]
      simp
theorem join_spc {xs : List Str} (h : ∀ x ∈ xs, x.length = 1 ∧ ∀ c ∈ x.cps.toList, spc c = true) : ∀ c ∈ (Txt.join (Str.ofString "") xs).cps.toList, spc c = true := by
  intro c hc
  rw [join_cps] at hc
  obtain ⟨l, hl, hc⟩ := List.mem_flatten.mp hc
  obtain ⟨x, hx, rfl⟩ := List.mem_map.mp hl
  exact (h x hx).2 c hc
theorem sum_ones {xs : List Str} (h : ∀ x ∈ xs, x.length = 1 ∧ ∀ c ∈ x.cps.toList, spc c = true) : (xs.map (·.length)).sum = xs.length := by
  induction xs with
  | nil => rfl
  | cons a r ih =>
    rw [List.map_cons, List.sum_cons, ih fun x hx => h x (.tail _ hx), (h a (.head _)).1, List.length_cons]
    omega
theorem join_fits {xs : List Str} {i : Nat} (h : ∀ x ∈ xs, x.length = 1 ∧ ∀ c ∈ x.cps.toList, spc c = true) (hl : xs.length = i) (hi : i ≤ 1000) : (xs.map (·.length)).sum + xs.length ≤ 1048576 := by
  rw [sum_ones h]; omega
theorem join_len {xs : List Str} (h : ∀ x ∈ xs, x.length = 1 ∧ ∀ c ∈ x.cps.toList, spc c = true) : (Txt.join (Str.ofString "") xs).length = xs.length :=
  KT.join_ones xs fun a ha => (h a ha).1
theorem blank_mem {t1 t2 t3 t4 t5 t6 : Tok} {v : Value} (h : v ∈ [Value.str (Str.ofString " ") t1, Value.str (Str.ofString "\t") t2, Value.str (Str.ofString "\n") t3, Value.str (Str.ofString "\x0b") t4, Value.str (Str.ofString "\x0c") t5, Value.str (Str.ofString "\x0d") t6]) :
    ∃ (x : Str) (t : Tok), v = .str x t ∧ x.length = 1 ∧ ∀ c ∈ x.cps.toList, spc c = true := by
  simp only [List.mem_cons, List.not_mem_nil, or_false] at h
  rcases h with rfl | rfl | rfl | rfl | rfl | rfl <;> exact ⟨_, _, rfl, by decide +kernel, by decide +kernel⟩
/-- what the blanks' comprehension keeps -/
def BlankJ (SrcOk : Obj → Prop) (G : Obj → List (Addr × Obj)) (i : Nat) (ys : List Value) (nw : List (Addr × Obj)) : Prop :=
  ∃ o' xs, SrcOk o' ∧ StrsAre ys xs ∧ (∀ x ∈ xs, x.length = 1 ∧ ∀ c ∈ x.cps.toList, spc c = true) ∧ xs.length = i ∧ nw = G o'
theorem join_le {xs : List Str} {i : Nat} (h : ∀ x ∈ xs, x.length = 1 ∧ ∀ c ∈ x.cps.toList, spc c = true) (hl : xs.length = i) (hk : (i : Int) ≤ 3) : (Txt.join (Str.ofString "") xs).length ≤ 3 := by
  rw [join_len h]; omega
/-- which object the law draws from -/
def SrcIs (_a : Addr) : Prop := True
theorem BlankJ.start {SrcOk : Obj → Prop} {src : Addr} {o : Obj} {led : List (Addr × Obj)} {G : Obj → List (Addr × Obj)} (_hi : SrcIs src) (hs : SrcOk o) (U : UpdF src o led G) : BlankJ SrcOk G 0 [] led := by
  obtain ⟨pre, post, e1, e2, _, _⟩ := U.split
  exact ⟨o, [], hs, .nil, (fun _ h => nomatch h), rfl, (by rw [e1, e2])⟩
theorem BlankJ.next {SrcOk : Obj → Prop} {G : Obj → List (Addr × Obj)} {i : Nat} {ys : List Value} {xs : List Str} {t1 t2 t3 t4 t5 t6 : Tok} {v : Value} {o' : Obj}
    (hv : v ∈ [Value.str (Str.ofString " ") t1, Value.str (Str.ofString "\t") t2, Value.str (Str.ofString "\n") t3, Value.str (Str.ofString "\x0b") t4, Value.str (Str.ofString "\x0c") t5, Value.str (Str.ofString "\x0d") t6])
    (ho : SrcOk o') (hs : StrsAre ys xs) (hx : ∀ x ∈ xs, x.length = 1 ∧ ∀ c ∈ x.cps.toList, spc c = true) (hl : xs.length = i) : BlankJ SrcOk G (i + 1) (ys ++ [v]) (G o') := by
  obtain ⟨x, t, rfl, h1, h2⟩ := blank_mem hv
  refine ⟨o', xs ++ [x], ho, KStt.strs_snoc hs, fun y hy => ?_, by rw [List.length_append, hl]; rfl, rfl⟩
  rcases List.mem_append.mp hy with hy | hy
  · exact hx y hy
  · rw [List.mem_singleton.mp hy]; exact ⟨h1, h2⟩
/-- figures, and the number that they tell -/
def FigOk (x : Str) (n : Int) : Prop := (∀ c ∈ x.cps.toList, dig c = true) ∧ ((NumText.digitsVal x.cps.toList : Nat) : Int) = n ∧ x.length ≤ 64

theorem fig_nil : FigOk (Str.ofString "") 0 := ⟨by decide +kernel, by decide +kernel, by decide +kernel⟩
theorem pow30 : (10 : Int) ^ 30 = 1000000000000000000000000000000 := by decide
theorem fig_str {n : Int} (h0 : 0 ≤ n) (h1 : n < 1000000000000000000000000000000) : FigOk (Str.ofString (toString n)) n := by
  obtain ⟨m, rfl⟩ := Int.eq_ofNat_of_zero_le h0
  refine ⟨fun c hc => ?_, ?_, ?_⟩
  · rw [KIN.signs_num] at hc
    obtain ⟨ch, hch, e⟩ := List.mem_map.mp hc
    have r := digit_range (Nat.isDigit_of_mem_toDigits (by decide) (by decide) hch)
    rw [← e]
    simp only [dig, Bool.and_eq_true, decide_eq_true_eq]
    exact r
  · rw [KIN.signs_num, KIN.val_back]
  · have hm : m < 10 ^ 30 := by
      have : (10 : Nat) ^ 30 = 1000000000000000000000000000000 := by decide
      omega
    have h := digits10_le (k := 30) (by decide) hm
    have e : (Str.ofString (toString ((m : Nat) : Int))).length = ((Nat.toDigits 10 m).map Char.toNat).length := by
      rw [← KIN.signs_num]; simp [Str.length]
    rw [e, List.length_map]
    omega

theorem item_digit {k : Int} (h0 : 0 ≤ k) (h1 : k < 10) : Txt.item (Str.ofString "0123456789") k = ⟨#[48 + k.toNat]⟩ := by
  have : k = 0 ∨ k = 1 ∨ k = 2 ∨ k = 3 ∨ k = 4 ∨ k = 5 ∨ k = 6 ∨ k = 7 ∨ k = 8 ∨ k = 9 := by omega
  rcases this with rfl | rfl | rfl | rfl | rfl | rfl | rfl | rfl | rfl | rfl <;> decide +kernel

theorem dv_append (a b : List Nat) : NumText.digitsVal (a ++ b) = b.foldl (fun acc c => acc * 10 + (c - 48)) (NumText.digitsVal a) := by
  unfold NumText.digitsVal; rw [List.foldl_append]
theorem dv_zeros (z : Nat) : NumText.digitsVal (List.replicate z 48) = 0 := by
  induction z with
  | zero => rfl
  | succ z ih => rw [List.replicate_succ, NumText.digitsVal_zero, ih]
theorem dv_pad (z : Nat) (b : List Nat) : NumText.digitsVal (List.replicate z 48 ++ b) = NumText.digitsVal b := by
  rw [dv_append, dv_zeros]; rfl
theorem dv_rep (d m : Nat) : NumText.digitsVal (List.replicate m (48 + d)) = d * NumText.digitsVal (List.replicate m 49) := by
  induction m with
  | zero => rfl
  | succ m ih =>
    rw [List.replicate_succ', List.replicate_succ', NumText.digitsVal_snoc, NumText.digitsVal_snoc, ih, Nat.add_sub_cancel_left, Nat.mul_add, Nat.mul_assoc]
    omega
theorem dv_nines (m : Nat) : 9 * NumText.digitsVal (List.replicate m 49) + 1 = 10 ^ m := by
  induction m with
  | zero => rfl
  | succ m ih =>
    rw [List.replicate_succ', NumText.digitsVal_snoc, Nat.pow_succ, ← ih]
    omega
theorem rep_val (m : Nat) (k : Int) (h0 : 0 ≤ k) : ((10 : Int) ^ m - 1).fdiv 9 * k = ((NumText.digitsVal (List.replicate m (48 + k.toNat)) : Nat) : Int) := by
  have h := dv_nines m
  have e : (10 : Int) ^ m = ((10 ^ m : Nat) : Int) := by rw [Int.natCast_pow]; rfl
  rw [dv_rep, e, ← h]
  have e2 : (((9 * NumText.digitsVal (List.replicate m 49) + 1 : Nat) : Int) - 1) = 9 * ((NumText.digitsVal (List.replicate m 49) : Nat) : Int) := by omega
  rw [e2, Int.mul_fdiv_cancel_left _ (by decide), Int.natCast_mul, Int.mul_comm]
  congr 1
  omega
theorem fig_rep {one k : Int} (h0 : 0 ≤ one) (h1 : one < 10) (k0 : 0 ≤ k) (k1 : k < 23) : FigOk (Txt.mul (Txt.item (Str.ofString "0123456789") one) (18 + k)) (((10 : Int) ^ (18 + k).toNat - 1).fdiv 9 * one) := by
  rw [item_digit h0 h1]
  refine ⟨fun c hc => ?_, ?_, ?_⟩
  · rw [mul_one_list] at hc
    have := List.eq_of_mem_replicate hc
    simp only [dig, Bool.and_eq_true, decide_eq_true_eq]
    omega
  · rw [mul_one_list, rep_val _ _ h0]
  · have e : (Txt.mul ⟨#[48 + one.toNat]⟩ (18 + k)).length = (Txt.mul ⟨#[48 + one.toNat]⟩ (18 + k)).cps.toList.length := by simp [Str.length]
    rw [e, mul_one_list, List.length_replicate]
    omega
theorem fig_pad {z n : Int} (h0 : 0 ≤ n) (h1 : n < 1000000000000) (z1 : z ≤ 4) : FigOk (Txt.mul (Str.ofString "0") z ++ Str.ofString (toString n)) n := by
  obtain ⟨f1, f2, f3⟩ := fig_str h0 (by omega : n < 1000000000000000000000000000000)
  have hz : Str.ofString "0" = ⟨#[48]⟩ := by decide +kernel
  have hl : (Str.ofString (toString n)).length ≤ 30 := by
    obtain ⟨m, rfl⟩ := Int.eq_ofNat_of_zero_le h0
    have hm : m < 10 ^ 30 := by
      have : (10 : Nat) ^ 30 = 1000000000000000000000000000000 := by decide
      omega
    have h := digits10_le (k := 30) (by decide) hm
    have e : (Str.ofString (toString ((m : Nat) : Int))).length = ((Nat.toDigits 10 m).map Char.toNat).length := by
      rw [← KIN.signs_num]; simp [Str.length]
    rw [e, List.length_map]
    omega
  rw [hz]
  refine ⟨fun c hc => ?_, ?_, ?_⟩
  · rw [Str.cps_append, Array.toList_append, mul_one_list] at hc
    rcases List.mem_append.mp hc with hc | hc
    · rw [List.eq_of_mem_replicate hc]; decide
    · exact f1 c hc
  · rw [Str.cps_append, Array.toList_append, mul_one_list, dv_pad, f2]
  · have e : (Txt.mul ⟨#[48]⟩ z).length = (Txt.mul ⟨#[48]⟩ z).cps.toList.length := by simp [Str.length]
    rw [Str.length_append, e, mul_one_list, List.length_replicate]
    omega
theorem pad_bound {k way : Int} (h0 : 0 ≤ k) (h1 : k < 3) (w0 : 0 ≤ way) (w1 : way < 7) : 0 ≤ k * way.fdiv 3 ∧ k * way.fdiv 3 ≤ 4 := by
  rw [Int.fdiv_eq_ediv_of_nonneg _ (by decide)]
  have : way / 3 = 0 ∨ way / 3 = 1 ∨ way / 3 = 2 := by omega
  rcases this with h | h | h <;> rw [h] <;> omega
theorem int_mem {t1 t2 t3 t4 t5 : Tok} {k : Int} {v : Value} (h : v ∈ [Value.int 0 t1, Value.int 7 t2, Value.int 10 t3, Value.int 65536 t4, Value.int k t5]) (h0 : 0 ≤ k) (h1 : k < 1000) : ∃ (n : Int) (t : Tok), v = .int n t ∧ 0 ≤ n ∧ n ≤ 65536 := by
  simp only [List.mem_cons, List.not_mem_nil, or_false] at h
  rcases h with rfl | rfl | rfl | rfl | rfl <;> exact ⟨_, _, rfl, by omega, by omega⟩
theorem p63 : (2 : Int) ^ Int.toNat 63 = 9223372036854775808 := by decide
def isSign (c : Nat) : Bool := c == 43 || c == 45
def headIs (p : Nat → Bool) (l : List Nat) : Bool := match l with | c :: _ => p c | [] => false
def spanL (l : List Nat) : Option (Int × Int) :=
  if lead dig ((l.drop (lead spc l)).drop (if headIs isSign (l.drop (lead spc l)) = true then 1 else 0)) = 0 then none
  else some (((lead spc l : Nat) : Int), ((lead spc l : Nat) : Int) + ((if headIs isSign (l.drop (lead spc l)) = true then 1 else 0 : Nat) : Int) + ((lead dig ((l.drop (lead spc l)).drop (if headIs isSign (l.drop (lead spc l)) = true then 1 else 0)) : Nat) : Int))

theorem headIs_drop (p : Nat → Bool) (l : List Nat) (i : Nat) : headIs p (l.drop i) = (match l[i]? with | some c => p c | none => false) := by
  have e : l[i]? = (l.drop i)[0]? := by rw [List.getElem?_drop]; rfl
  rw [e]
  cases l.drop i <;> rfl
theorem spanOf_eq (x : Str) : spanOf x = spanL x.cps.toList := by
  have hb : endOf spc x 0 = ((lead spc x.cps.toList : Nat) : Int) := by unfold endOf; simp
  have hs : signAt x ((lead spc x.cps.toList : Nat) : Int) = headIs isSign (x.cps.toList.drop (lead spc x.cps.toList)) := by
    rw [headIs_drop]
    unfold signAt isSign
    rw [Int.toNat_natCast]
    all_goals (cases x.cps.toList[lead spc x.cps.toList]? <;> rfl)
  unfold spanOf spanL
  rw [hb]
  dsimp only
  rw [hs]
  generalize lead spc x.cps.toList = b
  cases hh : headIs isSign (x.cps.toList.drop b) with
  | true =>
    simp only [if_true]
    unfold endOf
    have e1 : (((b : Nat) : Int) + 1).toNat = b + 1 := by omega
    rw [e1, List.drop_drop]
    by_cases h0 : lead dig (x.cps.toList.drop (b + 1)) = 0
    · rw [h0]; simp
    · rw [if_neg (by omega), if_neg h0]
      congr 2
  | false =>
    simp only [Bool.false_eq_true, if_false]
    unfold endOf
    rw [Int.toNat_natCast, List.drop_zero]
    by_cases h0 : lead dig (x.cps.toList.drop b) = 0
    · rw [h0]; simp
    · rw [if_neg (by omega), if_neg h0]
      simp only [Int.ofNat_zero, Int.add_zero]

theorem lead_cons_no {p : Nat → Bool} {c : Nat} {r : List Nat} (h : p c = false) : lead p (c :: r) = 0 := by unfold lead; rw [List.takeWhile_cons, h]; rfl
theorem lead_nil {p : Nat → Bool} : lead p [] = 0 := rfl
theorem lead_no {p : Nat → Bool} {l : List Nat} (h : headIs p l = false) : lead p l = 0 := by
  cases l with
  | nil => rfl
  | cons c r => exact lead_cons_no h
theorem lead_append {p : Nat → Bool} {a b : List Nat} (h : ∀ c ∈ a, p c = true) : lead p (a ++ b) = a.length + lead p b := by
  induction a with
  | nil => simp
  | cons c r ih =>
    have hc := h c (.head _)
    have := ih fun x hx => h x (.tail _ hx)
    unfold lead at this ⊢
    rw [List.cons_append, List.takeWhile_cons, hc]
    simp only [if_true, List.length_cons, this]
    omega
theorem drop_len {a b : List Nat} : (a ++ b).drop a.length = b := by simp

/-- blanks, then a text whose first sign is none -/
theorem spanL_blanks {a m : List Nat} (h : ∀ c ∈ a, spc c = true) (hm : headIs spc m = false) : spanL (a ++ m) =
    if lead dig (m.drop (if headIs isSign m = true then 1 else 0)) = 0 then none
    else some (((a.length : Nat) : Int), ((a.length : Nat) : Int) + ((if headIs isSign m = true then 1 else 0 : Nat) : Int) + ((lead dig (m.drop (if headIs isSign m = true then 1 else 0)) : Nat) : Int)) := by
  unfold spanL
  have e : lead spc (a ++ m) = a.length := by rw [lead_append h, lead_no hm]; rfl
  rw [e, drop_len]
theorem spanL_none {a m : List Nat} (h : ∀ c ∈ a, spc c = true) (hm : headIs spc m = false) (h0 : headIs dig (m.drop (if headIs isSign m = true then 1 else 0)) = false) : spanL (a ++ m) = none := by
  rw [spanL_blanks h hm, if_pos (lead_no h0)]

theorem span_strange {x : Str} {c : Nat} {r : List Nat} (hx : x.cps.toList = c :: r) (h1 : spc c = false) (h2 : isSign c = false) (h3 : dig c = false) : spanOf x = none := by
  rw [spanOf_eq, hx]
  refine spanL_none (a := []) (m := c :: r) (fun _ h => nomatch h) h1 ?_
  show headIs dig ((c :: r).drop (if isSign c = true then 1 else 0)) = false
  rw [h2]
  exact h3
theorem span_two {x : Str} {c d : Nat} {r : List Nat} (hx : x.cps.toList = c :: d :: r) (h1 : spc c = false) (h2 : isSign c = true) (h3 : dig d = false) : spanOf x = none := by
  rw [spanOf_eq, hx]
  refine spanL_none (a := []) (m := c :: d :: r) (fun _ h => nomatch h) h1 ?_
  show headIs dig ((c :: d :: r).drop (if isSign c = true then 1 else 0)) = false
  rw [h2]
  exact h3
theorem span_x (t : Str) : spanOf (Str.ofString "x" ++ t) = none := by
  refine span_strange (c := 120) (r := t.cps.toList) ?_ (by decide) (by decide) (by decide)
  rw [Str.cps_append, Array.toList_append]
  have e : (Str.ofString "x").cps.toList = [120] := by decide +kernel
  rw [e]; rfl
theorem span_pm (t : Str) : spanOf (Str.ofString "+-" ++ t) = none := by
  refine span_two (c := 43) (d := 45) (r := t.cps.toList) ?_ (by decide) (by decide) (by decide)
  rw [Str.cps_append, Array.toList_append, cps_signs]; rfl
theorem span_160 {y : Str} (t : Str) (hy : y.cps.toList = [160]) : spanOf (y ++ t) = none := by
  refine span_strange (c := 160) (r := t.cps.toList) ?_ (by decide) (by decide) (by decide)
  rw [Str.cps_append, Array.toList_append, hy]; rfl
def SignOk (x : Str) : Prop := x = Str.ofString "" ∨ x = Str.ofString "-" ∨ x = Str.ofString "+"
def Blank3 (x : Str) : Prop := x.length ≤ 3 ∧ ∀ c ∈ x.cps.toList, spc c = true
/-- what may stand where the figures are none -/
def RestOk (x : Str) : Prop := x.length ≤ 3 ∧ x.cps.toList ∈ [[], [97, 49], [46, 53], [45], [43, 32, 49], [1635, 49], [160, 49]]
/-- what stands behind the figures -/
def BehOk (x : Str) : Prop := x.length ≤ 3 ∧ x.cps.toList ∈ [[], [97], [46, 53], [45], [32, 55], [1635], [95, 49], [160], [43]]

theorem sign_mem {t1 t2 t3 t4 t5 : Tok} {v : Value} (h : v ∈ [Value.str (Str.ofString "") t1, Value.str (Str.ofString "") t2, Value.str (Str.ofString "-") t3, Value.str (Str.ofString "-") t4, Value.str (Str.ofString "+") t5]) : ∃ (x : Str) (t : Tok), v = .str x t ∧ SignOk x := by
  simp only [List.mem_cons, List.not_mem_nil, or_false] at h
  rcases h with rfl | rfl | rfl | rfl | rfl
  · exact ⟨_, _, rfl, .inl rfl⟩
  · exact ⟨_, _, rfl, .inl rfl⟩
  · exact ⟨_, _, rfl, .inr (.inl rfl)⟩
  · exact ⟨_, _, rfl, .inr (.inl rfl)⟩
  · exact ⟨_, _, rfl, .inr (.inr rfl)⟩
theorem str_mem {P : Str → Prop} {vs : List Value} {v : Value} (h : v ∈ vs) (hs : ∀ u ∈ vs, ∃ (x : Str) (t : Tok), u = .str x t ∧ P x) : ∃ (x : Str) (t : Tok), v = .str x t ∧ P x := hs v h
theorem all_str_nil {P : Str → Prop} : ∀ u ∈ ([] : List Value), ∃ (x : Str) (t : Tok), u = .str x t ∧ P x := fun _ h => nomatch h
theorem all_str_cons {P : Str → Prop} {x : Str} {t : Tok} {vs : List Value} (hx : P x) (hs : ∀ u ∈ vs, ∃ (x : Str) (t : Tok), u = .str x t ∧ P x) : ∀ u ∈ Value.str x t :: vs, ∃ (x : Str) (t : Tok), u = .str x t ∧ P x := fun u hu => by
  rcases List.mem_cons.mp hu with rfl | hu
  · exact ⟨x, t, rfl, hx⟩
  · exact hs u hu

theorem SignOk.len {x : Str} (h : SignOk x) : x.length ≤ 1 := by
  rcases h with rfl | rfl | rfl <;> decide +kernel
theorem SignOk.cps {x : Str} (h : SignOk x) : x.cps.toList = [] ∨ x.cps.toList = [45] ∨ x.cps.toList = [43] := by
  rcases h with rfl | rfl | rfl
  · exact .inl (by decide +kernel)
  · exact .inr (.inl (by decide +kernel))
  · exact .inr (.inr (by decide +kernel))
theorem cps_app (x y : Str) : (x ++ y).cps.toList = x.cps.toList ++ y.cps.toList := by rw [Str.cps_append, Array.toList_append]
theorem str_len (x : Str) : x.length = x.cps.toList.length := by simp [Str.length]

theorem span_A {b s r : Str} (hb : Blank3 b) (hs : SignOk s) (hr : RestOk r) : spanOf (b ++ s ++ r) = none := by
  rw [spanOf_eq, cps_app, cps_app, List.append_assoc]
  obtain ⟨_, hr⟩ := hr
  simp only [List.mem_cons, List.not_mem_nil, or_false] at hr
  refine spanL_none hb.2 ?_ ?_
  · rcases hs.cps with h | h | h <;> rcases hr with g | g | g | g | g | g | g <;> rw [h, g] <;> decide
  · rcases hs.cps with h | h | h <;> rcases hr with g | g | g | g | g | g | g <;> rw [h, g] <;> decide

theorem head_no {r t : Str} (hr : BehOk r) (ht : Blank3 t) : headIs dig (r.cps.toList ++ t.cps.toList) = false := by
  obtain ⟨_, hr⟩ := hr
  have h0 : headIs dig t.cps.toList = false := by
    have := ht.2
    cases hc : t.cps.toList with
    | nil => rfl
    | cons c l =>
      have h := this c (by rw [hc]; exact .head _)
      show dig c = false
      simp only [spc, dig, Bool.or_eq_true, beq_iff_eq, Bool.and_eq_true, decide_eq_true_eq, Bool.and_eq_false_iff, decide_eq_false_iff_not] at h ⊢
      omega
  simp only [List.mem_cons, List.not_mem_nil, or_false] at hr
  rcases hr with g | g | g | g | g | g | g | g | g <;> rw [g] <;> first | exact h0 | rfl
theorem span_B {b s f r t : Str} {n : Int} (hb : Blank3 b) (hs : SignOk s) (hf : FigOk f n) (hne : 0 < f.length) (hr : BehOk r) (ht : Blank3 t) :
    spanOf (b ++ s ++ f ++ r ++ t) = some (((b.length : Nat) : Int), ((b.length : Nat) : Int) + ((s.length : Nat) : Int) + ((f.length : Nat) : Int)) := by
  rw [spanOf_eq, cps_app, cps_app, cps_app, cps_app]
  have hd := head_no hr ht
  have hlead : lead dig (f.cps.toList ++ (r.cps.toList ++ t.cps.toList)) = f.length := by
    rw [lead_append hf.1, lead_no hd, str_len]; rfl
  have e : b.cps.toList ++ s.cps.toList ++ f.cps.toList ++ r.cps.toList ++ t.cps.toList = b.cps.toList ++ (s.cps.toList ++ (f.cps.toList ++ (r.cps.toList ++ t.cps.toList))) := by simp only [List.append_assoc]
  rw [e]
  obtain ⟨c, l, hc⟩ : ∃ c l, f.cps.toList = c :: l := by
    cases h : f.cps.toList with
    | nil => rw [str_len, h] at hne; cases hne
    | cons c l => exact ⟨c, l, rfl⟩
  have hcd : dig c = true := hf.1 c (by rw [hc]; exact .head _)
  have h1 : spc c = false := by
    simp only [spc, dig, Bool.or_eq_false_iff, beq_eq_false_iff_ne, Bool.and_eq_true, decide_eq_true_eq, Bool.and_eq_false_iff, decide_eq_false_iff_not] at hcd ⊢
    omega
  have h2 : isSign c = false := by
    simp only [isSign, dig, Bool.or_eq_false_iff, beq_eq_false_iff_ne, Bool.and_eq_true, decide_eq_true_eq] at hcd ⊢
    omega
  rw [str_len b, str_len s]
  rcases hs.cps with h | h | h
  · rw [h, spanL_blanks hb.2 (by rw [hc]; exact h1)]
    have hh : headIs isSign ([] ++ (f.cps.toList ++ (r.cps.toList ++ t.cps.toList))) = false := by rw [hc]; exact h2
    rw [hh]
    simp only [Bool.false_eq_true, if_false, List.nil_append, List.drop_zero, hlead]
    rw [if_neg (by omega)]
    simp
  · rw [h, spanL_blanks hb.2 (by rfl)]
    have hh : headIs isSign ([45] ++ (f.cps.toList ++ (r.cps.toList ++ t.cps.toList))) = true := rfl
    rw [hh]
    simp only [if_true, List.cons_append, List.nil_append, List.drop_succ_cons, List.drop_zero, hlead]
    rw [if_neg (by omega)]
    simp
  · rw [h, spanL_blanks hb.2 (by rfl)]
    have hh : headIs isSign ([43] ++ (f.cps.toList ++ (r.cps.toList ++ t.cps.toList))) = true := rfl
    rw [hh]
    simp only [if_true, List.cons_append, List.nil_append, List.drop_succ_cons, List.drop_zero, hlead]
    rw [if_neg (by omega)]
    simp
theorem cps_minus : (Str.ofString "-").cps.toList = [45] := by decide +kernel
theorem cps_none : (Str.ofString "").cps.toList = [] := by decide +kernel
theorem str_ext {x y : Str} (h : x.cps.toList = y.cps.toList) : x = y := PySem.Str.ext' (Array.toList_inj.mp h)

theorem numZ_digits : ∀ (l : List Nat) (a : Nat), (∀ c ∈ l, dig c = true) → (l.map fun (c : Nat) => (c : Int)).foldl (fun n c => if 48 ≤ c ∧ c ≤ 57 then n * 10 + (c - 48) else n) ((a : Nat) : Int) = ((l.foldl (fun acc c => acc * 10 + (c - 48)) a : Nat) : Int) := by
  intro l
  induction l with
  | nil => intro a _; rfl
  | cons c r ih =>
    intro a h
    have hc := h c (.head _)
    simp only [dig, Bool.and_eq_true, decide_eq_true_eq] at hc
    rw [List.map_cons, List.foldl_cons, List.foldl_cons, if_pos (by omega)]
    have e : ((a : Nat) : Int) * 10 + ((c : Int) - 48) = ((a * 10 + (c - 48) : Nat) : Int) := by omega
    rw [e]
    exact ih _ fun x hx => h x (.tail _ hx)
theorem codes_app (x y : Str) : KStt.codes (x ++ y) = KStt.codes x ++ KStt.codes y := by
  unfold KStt.codes; rw [cps_app, List.map_append]
theorem numZ_sign {s f : Str} {n : Int} (hs : SignOk s) (hf : FigOk f n) : numZ (KStt.codes (s ++ f)) = n := by
  have h0 : numZ (KStt.codes f) = n := by
    rw [← hf.2.1]
    exact numZ_digits f.cps.toList 0 hf.1
  rw [codes_app]
  unfold numZ at h0 ⊢
  rw [List.foldl_append]
  have e : (KStt.codes s).foldl (fun n c => if 48 ≤ c ∧ c ≤ 57 then n * 10 + (c - 48) else n) 0 = 0 := by
    unfold KStt.codes
    rcases hs.cps with h | h | h <;> rw [h] <;> rfl
  rw [e, h0]
theorem num_neg {s f : Str} {n : Int} (hs : SignOk s) (hf : FigOk f n) (h : (s == Str.ofString "-") = true) : numOf (s ++ f) = -n := by
  have hd : (s ++ f).cps.toList.head? = some 45 := by rw [cps_app, eq_of_beq h, cps_minus]; rfl
  unfold numOf
  rw [if_pos hd, numZ_sign hs hf]
theorem num_pos {s f : Str} {n : Int} (hs : SignOk s) (hf : FigOk f n) (h : (s == Str.ofString "-") = false) : numOf (s ++ f) = n := by
  have hd : ¬ (s ++ f).cps.toList.head? = some 45 := by
    rw [cps_app]
    rcases hs.cps with g | g | g
    · rw [g, List.nil_append]
      intro e
      cases hc : f.cps.toList with
      | nil => rw [hc] at e; cases e
      | cons c l =>
        rw [hc] at e
        have hcd := hf.1 c (by rw [hc]; exact .head _)
        have : c = 45 := Option.some.inj e
        subst this
        exact absurd hcd (by decide)
    · have : s = Str.ofString "-" := str_ext (by rw [g, cps_minus])
      subst this
      rw [beq_self_eq_true] at h; cases h
    · rw [g]
      intro e
      exact absurd (Option.some.inj e) (by decide)
  unfold numOf
  rw [if_neg hd, numZ_sign hs hf]

section
variable {b s f r t : Str} {n : Int}
theorem text_cps : (b ++ s ++ f ++ r ++ t).cps.toList = b.cps.toList ++ (s.cps.toList ++ (f.cps.toList ++ (r.cps.toList ++ t.cps.toList))) := by
  rw [cps_app, cps_app, cps_app, cps_app]; simp only [List.append_assoc]
theorem text_drop : (b ++ s ++ f ++ r ++ t).cps.toList.drop (b.length + s.length) = f.cps.toList ++ (r.cps.toList ++ t.cps.toList) := by
  have e : b.cps.toList ++ (s.cps.toList ++ (f.cps.toList ++ (r.cps.toList ++ t.cps.toList))) = (b.cps.toList ++ s.cps.toList) ++ (f.cps.toList ++ (r.cps.toList ++ t.cps.toList)) := by simp only [List.append_assoc]
  rw [text_cps, e, str_len b, str_len s, ← List.length_append, drop_len]
theorem text_drop2 : (b ++ s ++ f ++ r ++ t).cps.toList.drop (b.length + s.length + f.length) = r.cps.toList ++ t.cps.toList := by
  have e : b.cps.toList ++ (s.cps.toList ++ (f.cps.toList ++ (r.cps.toList ++ t.cps.toList))) = (b.cps.toList ++ (s.cps.toList ++ f.cps.toList)) ++ (r.cps.toList ++ t.cps.toList) := by simp only [List.append_assoc]
  have el : b.cps.toList.length + s.cps.toList.length + f.cps.toList.length = (b.cps.toList ++ (s.cps.toList ++ f.cps.toList)).length := by simp only [List.length_append]; omega
  rw [text_cps, e, str_len b, str_len s, str_len f, el, drop_len]
theorem text_len : (b ++ s ++ f ++ r ++ t).cps.toList.length = b.length + s.length + f.length + r.length + t.length := by
  rw [text_cps, str_len b, str_len s, str_len f, str_len r, str_len t]; simp only [List.length_append]; omega

theorem dend_B {k : Int} (hf : FigOk f n) (hr : BehOk r) (ht : Blank3 t) (h0 : ((b.length : Nat) : Int) + ((s.length : Nat) : Int) ≤ k) (h1 : k ≤ ((b.length : Nat) : Int) + ((s.length : Nat) : Int) + ((f.length : Nat) : Int)) :
    endOf dig (b ++ s ++ f ++ r ++ t) k = ((b.length : Nat) : Int) + ((s.length : Nat) : Int) + ((f.length : Nat) : Int) := by
  have hd := head_no hr ht
  obtain ⟨j, hj⟩ : ∃ j : Nat, k = ((b.length + s.length + j : Nat) : Int) := ⟨(k - b.length - s.length).toNat, by omega⟩
  subst hj
  unfold endOf
  rw [Int.toNat_natCast, ← List.drop_drop, text_drop]
  have hjf : j ≤ f.cps.toList.length := by rw [← str_len]; omega
  have e : (f.cps.toList ++ (r.cps.toList ++ t.cps.toList)).drop j = f.cps.toList.drop j ++ (r.cps.toList ++ t.cps.toList) := by rw [List.drop_append_of_le_length hjf]
  rw [e, lead_append fun c hc => hf.1 c (List.mem_of_mem_drop hc), lead_no hd, List.length_drop, ← str_len]
  omega

theorem slice_end : Txt.slice (b ++ s ++ f ++ r ++ t) (some (((b.length : Nat) : Int) + ((s.length : Nat) : Int) + ((f.length : Nat) : Int))) none = r ++ t := by
  have h := eq_of_beq (slice_closes_from (x := b ++ s ++ f ++ r ++ t) (i := ((b.length : Nat) : Int) + ((s.length : Nat) : Int) + ((f.length : Nat) : Int)) ⟨by omega, by rw [text_len]; omega⟩)
  rw [h]
  refine str_ext ?_
  have e : (((b.length : Nat) : Int) + ((s.length : Nat) : Int) + ((f.length : Nat) : Int)).toNat = b.length + s.length + f.length := by omega
  rw [e, text_drop2, text_len, cps_app]
  show List.take _ _ = _
  refine List.take_of_length_le ?_
  rw [List.length_append, ← str_len, ← str_len]
  omega
theorem slice_num : Txt.slice (b ++ s ++ f ++ r ++ t) (some ((b.length : Nat) : Int)) (some (((b.length : Nat) : Int) + ((s.length : Nat) : Int) + ((f.length : Nat) : Int))) = s ++ f := by
  have h := eq_of_beq (slice_closes (x := b ++ s ++ f ++ r ++ t) (i := ((b.length : Nat) : Int)) (j := ((b.length : Nat) : Int) + ((s.length : Nat) : Int) + ((f.length : Nat) : Int)) ⟨by omega, by omega, by rw [text_len]; omega⟩)
  rw [h]
  refine str_ext ?_
  rw [Int.toNat_natCast, text_cps, str_len b, drop_len, cps_app]
  show List.take _ _ = _
  have e : (((b.cps.toList.length : Nat) : Int) + ((s.length : Nat) : Int) + ((f.length : Nat) : Int) - ((b.cps.toList.length : Nat) : Int)).toNat = (s.cps.toList ++ f.cps.toList).length := by rw [List.length_append, ← str_len s, ← str_len f]; omega
  rw [e, ← List.append_assoc, List.take_left']
  rfl

theorem beh_nil (h : (r == Str.ofString "") = true) : r.cps.toList = [] := by rw [eq_of_beq h, cps_none]
theorem beh_some (hr : BehOk r) (h : (r == Str.ofString "") = false) : r.cps.toList.all spc = false := by
  obtain ⟨_, hr⟩ := hr
  simp only [List.mem_cons, List.not_mem_nil, or_false] at hr
  rcases hr with g | g | g | g | g | g | g | g | g
  · have : r = Str.ofString "" := str_ext (by rw [g, cps_none])
    subst this
    rw [beq_self_eq_true] at h; cases h
  all_goals (rw [g]; decide)
theorem codes_all (x : Str) : (KStt.codes x).all (fun a => spc a.toNat) = x.cps.toList.all spc := by
  unfold KStt.codes; rw [List.all_map]; rfl

theorem whole_ok {N : Int} (hb : Blank3 b) (hs : SignOk s) (hf : FigOk f n) (hne : 0 < f.length) (hr : BehOk r) (ht : Blank3 t) (h : (r == Str.ofString "") = true) (hN : numOf (s ++ f) = N) (h1 : -9223372036854775808 ≤ N) (h2 : N < 9223372036854775808) :
    wholeOf (b ++ s ++ f ++ r ++ t) = some N := by
  unfold wholeOf
  rw [span_B hb hs hf hne hr ht]
  dsimp only
  rw [slice_end, slice_num, codes_all, cps_app, beh_nil h, List.nil_append, if_pos (List.all_eq_true.mpr ht.2), hN, if_pos]
  rw [decide_eq_true h1, decide_eq_true (show N ≤ 9223372036854775807 by omega)]; rfl
theorem whole_far {N : Int} (hb : Blank3 b) (hs : SignOk s) (hf : FigOk f n) (hne : 0 < f.length) (hr : BehOk r) (ht : Blank3 t) (h : (r == Str.ofString "") = true) (hN : numOf (s ++ f) = N) (h1 : ¬ (-9223372036854775808 ≤ N ∧ N < 9223372036854775808)) :
    wholeOf (b ++ s ++ f ++ r ++ t) = none := by
  unfold wholeOf
  rw [span_B hb hs hf hne hr ht]
  dsimp only
  rw [slice_end, slice_num, codes_all, cps_app, beh_nil h, List.nil_append, if_pos (List.all_eq_true.mpr ht.2), hN, if_neg]
  intro hc
  simp only [Bool.and_eq_true, decide_eq_true_eq] at hc
  omega
theorem whole_beh (hb : Blank3 b) (hs : SignOk s) (hf : FigOk f n) (hne : 0 < f.length) (hr : BehOk r) (ht : Blank3 t) (h : (r == Str.ofString "") = false) :
    wholeOf (b ++ s ++ f ++ r ++ t) = none := by
  unfold wholeOf
  rw [span_B hb hs hf hne hr ht]
  dsimp only
  rw [slice_end, codes_all, cps_app, List.all_append, beh_some hr h, Bool.false_and, if_neg (by decide)]
end
section
variable {prog : Program} {w : World} {A : Around} {E : Value → Shared → Prop} {s : Shared} {h₀ : Heap} {L : Addr} {m : Str → Option Value} {env : Env}
/-- a comprehension whose test takes no item, and which leaves the ledger as it was -/
theorem compT_none {ct elt : Expr} {x : Str} {scope : Scope} {cl : List (Str × Addr)} {S : List (Addr × Obj) → Prop} {P : Nat → Value → Prop} {Fin : List Value → List (Addr × Obj) → Prop} {n : Nat} {nw : List (Addr × Obj)}
    (turn : ∀ i v I oI C oC D m₂ h tk (E' : Value → Shared → Prop), i < n → P i v → LCg.NsObj oC m₂ → m₂ x = some v → Fr h₀ L h m → News h₀ L h ((I, oI) :: (C, oC) :: (D, LCg.lst []) :: nw) → LCg.Off3 I C D nw → ((@Ne Nat I C) ∧ (@Ne Nat I D) ∧ (@Ne Nat C D)) →
      wpAny (model prog w) A (isTrue ct (compEnvC scope cl C env) (eval ct (compEnvC scope cl C env))) (fun b s' => b = false ∧ LCg.CompEnd h₀ L m { s with heap := h, toks := tk } I oI C oC D (LCg.lst []) S (fun _ nw' => nw' = nw) Value.none s') E' { s with heap := h, toks := tk })
    (fin : Fin [] nw) : ∀ k i, i + k = n → LCt.CompRestT prog w A h₀ L m env ct elt x scope cl s S P Fin k i [] nw := by
  intro k
  induction k with
  | zero => intro i _; exact LCt.CompRestT.zero fin
  | succ k ih =>
    intro i hi
    refine LCt.CompRestT.succ fun v I oI C oC D m₂ h tk E' hP hC hx F N off ne => ?_
    refine wpAny_mono (turn i v I oI C oC D m₂ h tk E' (by omega) hP hC hx F N off ne) (fun b s₂ q => ?_) fun _ _ e => e
    obtain ⟨hb, h', tk', nw', e, F', N', off', hS, r⟩ := q
    subst hb
    rw [r] at N' off' hS
    simp only [Bool.false_eq_true, if_false]
    exact ⟨h', tk', nw, e, F', N', off', hS, ih (i + 1) (by omega)⟩
end
theorem rest_mem {a1 a2 a3 a4 a5 a6 a7 : Str} {t1 t2 t3 t4 t5 t6 t7 : Tok} {v : Value} (h : v ∈ [Value.str a1 t1, Value.str a2 t2, Value.str a3 t3, Value.str a4 t4, Value.str a5 t5, Value.str a6 t6, Value.str a7 t7])
    (h1 : RestOk a1) (h2 : RestOk a2) (h3 : RestOk a3) (h4 : RestOk a4) (h5 : RestOk a5) (h6 : RestOk a6) (h7 : RestOk a7) : ∃ (x : Str) (t : Tok), v = .str x t ∧ RestOk x :=
  str_mem h (all_str_cons h1 (all_str_cons h2 (all_str_cons h3 (all_str_cons h4 (all_str_cons h5 (all_str_cons h6 (all_str_cons h7 all_str_nil)))))))
theorem beh_mem {a1 a2 a3 a4 a5 a6 a7 a8 a9 a0 : Str} {t1 t2 t3 t4 t5 t6 t7 t8 t9 t0 : Tok} {v : Value} (h : v ∈ [Value.str a1 t1, Value.str a2 t2, Value.str a3 t3, Value.str a4 t4, Value.str a5 t5, Value.str a6 t6, Value.str a7 t7, Value.str a8 t8, Value.str a9 t9, Value.str a0 t0])
    (h1 : BehOk a1) (h2 : BehOk a2) (h3 : BehOk a3) (h4 : BehOk a4) (h5 : BehOk a5) (h6 : BehOk a6) (h7 : BehOk a7) (h8 : BehOk a8) (h9 : BehOk a9) (h0 : BehOk a0) : ∃ (x : Str) (t : Tok), v = .str x t ∧ BehOk x :=
  str_mem h (all_str_cons h1 (all_str_cons h2 (all_str_cons h3 (all_str_cons h4 (all_str_cons h5 (all_str_cons h6 (all_str_cons h7 (all_str_cons h8 (all_str_cons h9 (all_str_cons h0 all_str_nil))))))))))
theorem fig_zero {f : Str} {n : Int} (_hf : FigOk f n) (_h : (f == Str.ofString "") = true) : True := trivial
theorem fig_pos {f : Str} (h : (f == Str.ofString "") = false) : 0 < f.length := by
  rw [str_len]
  cases hc : f.cps.toList with
  | nil =>
    have : f = Str.ofString "" := str_ext (by rw [hc, cps_none])
    subst this
    rw [beq_self_eq_true] at h; cases h
  | cons c l => simp
section
variable {b s f r t : Str} {n N k : Int}
theorem end_none_bad (hw : wholeOf (b ++ s ++ f ++ r ++ t) = none) (hb : Blank3 b) (hs : SignOk s) (hf : FigOk f n) (hne : (f == Str.ofString "") = false) (hr : BehOk r) (ht : Blank3 t) (h : (r == Str.ofString "") = true) (hN : numOf (s ++ f) = N) (h1 : -2 ^ Int.toNat 63 ≤ N) (h2 : N < 2 ^ Int.toNat 63) : False := by
  rw [p63] at h1 h2
  rw [whole_ok hb hs hf (fig_pos hne) hr ht h hN h1 h2] at hw
  cases hw
theorem end_some_eq (hw : wholeOf (b ++ s ++ f ++ r ++ t) = some k) (hb : Blank3 b) (hs : SignOk s) (hf : FigOk f n) (hne : (f == Str.ofString "") = false) (hr : BehOk r) (ht : Blank3 t) (h : (r == Str.ofString "") = true) (hN : numOf (s ++ f) = N) (h1 : -2 ^ Int.toNat 63 ≤ N) (h2 : N < 2 ^ Int.toNat 63) : Value.bool (k == N) = Value.bool true := by
  rw [p63] at h1 h2
  rw [whole_ok hb hs hf (fig_pos hne) hr ht h hN h1 h2] at hw
  cases hw
  rw [beq_self_eq_true]
theorem end_some_hi (hw : wholeOf (b ++ s ++ f ++ r ++ t) = some k) (hb : Blank3 b) (hs : SignOk s) (hf : FigOk f n) (hne : (f == Str.ofString "") = false) (hr : BehOk r) (ht : Blank3 t) (h : (r == Str.ofString "") = true) (hN : numOf (s ++ f) = N) (h2 : ¬ N < 2 ^ Int.toNat 63) : False := by
  rw [p63] at h2
  rw [whole_far hb hs hf (fig_pos hne) hr ht h hN fun hc => h2 hc.2] at hw
  cases hw
theorem end_some_lo (hw : wholeOf (b ++ s ++ f ++ r ++ t) = some k) (hb : Blank3 b) (hs : SignOk s) (hf : FigOk f n) (hne : (f == Str.ofString "") = false) (hr : BehOk r) (ht : Blank3 t) (h : (r == Str.ofString "") = true) (hN : numOf (s ++ f) = N) (h1 : ¬ -2 ^ Int.toNat 63 ≤ N) : False := by
  rw [p63] at h1
  rw [whole_far hb hs hf (fig_pos hne) hr ht h hN fun hc => h1 hc.1] at hw
  cases hw
theorem end_some_beh (hw : wholeOf (b ++ s ++ f ++ r ++ t) = some k) (hb : Blank3 b) (hs : SignOk s) (hf : FigOk f n) (hne : (f == Str.ofString "") = false) (hr : BehOk r) (ht : Blank3 t) (h : (r == Str.ofString "") = false) : False := by
  rw [whole_beh hb hs hf (fig_pos hne) hr ht h] at hw
  cases hw
end
section
def DPred (text : Str) (i₀ k : Int) : Prop := 0 ≤ k ∧ endOf dig text k = endOf dig text i₀
theorem dpred_step {x : Str} {i₀ k : Int} (h : DPred x i₀ k) (hk : k < (x.length : Int))
    (ho : (Builtin.Str.occurrences (Str.ofString "0123456789") (Txt.item x k) 0 (Str.ofString "0123456789").length 1).isEmpty = false) : DPred x i₀ (k + 1) :=
  ⟨by have := h.1; omega, (endOf_step mem_digits h.1 hk ho).trans h.2⟩
theorem dpred_stop {x : Str} {i₀ k : Int} (h : DPred x i₀ k) (hk : k < (x.length : Int))
    (ho : (Builtin.Str.occurrences (Str.ofString "0123456789") (Txt.item x k) 0 (Str.ofString "0123456789").length 1).isEmpty = true) : k = endOf dig x i₀ :=
  (endOf_stop mem_digits h.1 hk ho).symm.trans h.2
theorem dpred_out {x : Str} {i₀ k : Int} (h : DPred x i₀ k) (hk : ¬ k < (x.length : Int)) : k = endOf dig x i₀ := (endOf_out hk).symm.trans h.2

theorem digits_end_c {w : World} {x : Str} {t ti : Tok} {i : Int} {news} (hx : x.length ≤ 1000) (h0 : 0 ≤ i) :
   Ctr w 28 1 [.str x t, .int i ti] news (fun v news' => news' = news ∧ ∃ t, v = .int (endOf dig x i) t) := by
  unfold Ctr
  intro mean mg mb dp un gd cn cs a ccd cl outer A₀ base h₀ L m s Q E B F X N T hk hd hu hret
  k_with_none
  w_top off
  revert X; k_fill; intro X
  have hst : DPred x i i := ⟨h0, rfl⟩
  k_with "exec While BoolOp cons nil" => k_while_given ["text", "at!"] (fun text i₀ _ k => 0 ≤ k ∧ DPred text i₀ k) (fun text i₀ _ k => (text.length - k.toNat)) "at"
  k_with "state" => first | exact ⟨h0, hst⟩ | exact ⟨by omega, dpred_step (by assumption) (by assumption) (by assumption)⟩
  refine wpAny_call ?_
  k_dflt cell_enter
  k_steps
  all_goals (refine hret _ _ _ _ ⟨rfl, _, congrArg (fun k => Value.int k _) ?_⟩ (by assumption) (by assumption))
  · exact dpred_stop (by assumption) (by assumption) (by assumption)
  · exact dpred_out (by assumption) (by assumption)
end
section
theorem number_of_c {w : World} {x : Str} {t : Tok} {news} (hx : x.length ≤ 1000) :
   Ctr w 42 1 [.str x t] news (fun v news' => news' = news ∧ ∃ t, v = .int (numOf x) t) := by
  unfold Ctr
  intro mean mg mb dp un gd cn cs a ccd cl outer A₀ base h₀ L m s Q E B F X N T hk hd hu hret
  k_with_none
  w_top off
  revert X; k_fill; intro X
  k_with "pyIter str" => k_state (fun pre n => n = numZ pre) "number"
  k_with "state" => first | rfl | exact numZ_skip (by assumption) (by assumption) | exact numZ_take (by assumption) (by assumption)
  refine wpAny_call ?_
  k_dflt cell_enter
  k_steps
  · exact (occ_clash (by assumption) (by assumption)).elim
  · refine hret _ _ _ _ ⟨rfl, _, congrArg (fun k => Value.int k _) ?_⟩ (by assumption) (by assumption)
    exact numOf_neg (by assumption) (by assumption)
  · refine hret _ _ _ _ ⟨rfl, _, congrArg (fun k => Value.int k _) ?_⟩ (by assumption) (by assumption)
    exact numOf_pos (by assumption) (by assumption)
end
section
local macro_rules | `(tactic| walk_at "call ref") => `(tactic| (k_here; k_dflt (
  refine' Ctr.use (digits_end_c ?p1 ?p2) ?k1 ?k2 ?k3 ?k4 ?k5 ?kK ?kd ?ku ?_
  (case k1 => k_asm); (case k2 => k_asm); (case k3 => k_asm); (case k4 => k_asm); (case k5 => k_asm); (case kK => first | exact rfl | assumption); (case kd => ktr_room); (case ku => ktr_units); (case p1 => first | assumption | omega); (case p2 => first | assumption | omega)
  intro v9 news9 h9 tk9 R9 F9 N9
  obtain ⟨hn9, t9, hv9⟩ := R9
  subst hn9 hv9
  (try dsimp only); (try k_fold))))

theorem number_span_c {w : World} {x : Str} {t : Tok} {news} (hx : x.length ≤ 1000) :
   Ctr w 35 2 [.str x t] news (fun v news' => (spanOf x = none ∧ v = .none ∧ news' = news) ∨ (∃ b e a t1 t2 n, spanOf x = some (b, e) ∧ v = .ref a ∧ news' = (a, { cls := .type "tuple", data := .seq #[.int b t1, .int e t2] n }) :: news ∧ ∀ p ∈ news, p.1 < a)) := by
  unfold Ctr
  intro mean mg mb dp un gd cn cs a ccd cl outer A₀ base h₀ L m s Q E B F X N T hk hd hu hret
  k_with_none
  w_top off
  revert X; k_fill; intro X
  k_with "exec While BoolOp cons nil" => k_while_given ["text"] (fun text _ k => 0 ≤ k ∧ SPred text k) (fun text _ k => (text.length - k.toNat)) "begin"
  k_with "state" => first | exact ⟨Int.le_refl 0, spred_zero⟩ | exact ⟨by omega, spred_step (by assumption) (by assumption) (by assumption)⟩
  refine wpAny_call ?_
  k_dflt cell_enter
  k_steps
  all_goals first
    | (refine hret _ _ _ _ (.inl ⟨?_, rfl, rfl⟩) (by assumption) (by assumption)
       first
         | refine span_none1 (b := _) ?_ ?_ (by assumption)
         | refine span_none0 (b := _) ?_ ?_ (by assumption))
    | (refine hret _ _ _ _ (.inr ⟨_, _, _, _, _, _, ?_, rfl, rfl, by assumption⟩) (by assumption) (by assumption)
       first
         | refine span_some1 (b := _) ?_ ?_ (by assumption)
         | refine span_some0 (b := _) ?_ ?_ (by assumption))
  all_goals first
    | exact spred_stop (by assumption) (by assumption) (by assumption)
    | exact spred_out (by assumption) (by assumption)
    | exact signAt_in (b := false) (by assumption) (by assumption) (by assumption)
    | exact signAt_in (b := true) (by assumption) (by assumption) (by assumption)
    | exact signAt_out (by assumption)
end
section
theorem inr_lo {i : Int} {b : Bool} (h : ¬ (-9223372036854775808 ≤ i)) : false = (decide (-9223372036854775808 ≤ i) && b) := by simp [h]
theorem inr_no {i : Int} {b : Bool} (h : ¬ (-9223372036854775808 ≤ i)) : decide (-9223372036854775808 ≤ i) = (decide (-9223372036854775808 ≤ i) && b) := by simp [h]
theorem inr_hi {i : Int} (h : -9223372036854775808 ≤ i) : decide (i ≤ 9223372036854775807) = (decide (-9223372036854775808 ≤ i) && decide (i ≤ 9223372036854775807)) := by simp [h]

theorem is_in_range_c {w : World} {i : Int} {ti : Tok} {news} :
   Ctr w 21 1 [.int i ti] news (fun v news' => news' = news ∧ v = .bool (decide (-9223372036854775808 ≤ i) && decide (i ≤ 9223372036854775807))) := by
  unfold Ctr
  intro mean mg mb dp un gd cn cs a ccd cl outer A₀ base h₀ L m s Q E B F X N T hk hd hu hret
  k_with_none
  w_top off
  revert X; k_fill; intro X
  refine wpAny_call ?_
  k_dflt cell_enter
  k_steps
  all_goals (refine hret _ _ _ _ ⟨rfl, congrArg Value.bool ?_⟩ (by assumption) (by assumption))
  all_goals first | exact inr_lo (by omega) | exact inr_no (by omega) | exact inr_hi (by omega)

local macro_rules | `(tactic| walk_at "call ref") => `(tactic| (k_here; k_dflt (
  refine' Ctr.use (number_span_c ?p1) ?k1 ?k2 ?k3 ?k4 ?k5 ?kK ?kd ?ku ?_
  (case k1 => k_asm); (case k2 => k_asm); (case k3 => k_asm); (case k4 => k_asm); (case k5 => k_asm); (case kK => first | exact rfl | assumption); (case kd => ktr_room); (case ku => ktr_units); (case p1 => first | assumption | omega)
  intro v9 news9 h9 tk9 R9 F9 N9
  rcases R9 with ⟨hs9, hv9, hn9⟩ | ⟨b9, e9, a9, t9, t9', n9, hs9, hv9, hn9, l9⟩
  all_goals (subst hn9 hv9; (try dsimp only); (try k_fold)))))
local macro_rules | `(tactic| walk_at "call ref") => `(tactic| (k_here; k_dflt (
  refine' Ctr.use (number_of_c ?p1) ?k1 ?k2 ?k3 ?k4 ?k5 ?kK ?kd ?ku ?_
  (case k1 => k_asm); (case k2 => k_asm); (case k3 => k_asm); (case k4 => k_asm); (case k5 => k_asm); (case kK => first | exact rfl | assumption); (case kd => ktr_room); (case ku => ktr_units); (case p1 => first | assumption | omega)
  intro v9 news9 h9 tk9 R9 F9 N9
  obtain ⟨hn9, t9, hv9⟩ := R9
  subst hn9 hv9; (try dsimp only); (try k_fold))))
local macro_rules | `(tactic| walk_at "call ref") => `(tactic| (k_here; k_dflt (
  refine' Ctr.use is_in_range_c ?k1 ?k2 ?k3 ?k4 ?k5 ?kK ?kd ?ku ?_
  (case k1 => k_asm); (case k2 => k_asm); (case k3 => k_asm); (case k4 => k_asm); (case k5 => k_asm); (case kK => first | exact rfl | assumption); (case kd => ktr_room); (case ku => ktr_units)
  intro v9 news9 h9 tk9 R9 F9 N9
  obtain ⟨hn9, hv9⟩ := R9
  subst hn9 hv9; (try dsimp only); (try k_fold))))


local macro_rules | `(tactic| walk_at "exec For Name Subscript cons nil") => `(tactic| (k_here; (rename Fr _ _ _ _ => lF'); (with_unfolding_all refine' For_invVF lF' ?k1 ?k2 ?_; (case k1 => exact rfl); (case k2 => exact rfl); k_whole)))
local macro_rules | `(tactic| walk_at "pyIter str") => `(tactic| ((with_reducible show wpAny _ _ (pyIter (Value.str _ _)) (fun it s₂ => LoopAtV _ _ _ _ _ _ _ _ _ it s₂) _ _); k_here; (rename Fr _ _ _ _ => lF'); (rename News _ _ _ _ => lN'); (with_unfolding_all refine' KStt.kst_text (σ := Unit) (fun _ => _) (fun _ => []) (fun _ => True) [] (fun pre _ => ∀ a ∈ pre, spc a.toNat = true) () (by rfl) lF' lN' trivial (fun _ h => nomatch h) (fun _ h => nomatch h) ?_ ?_); (try clear lF' lN'); (rotate_left; ((intro c9 u9 h9 tk9 hf9 kInv kFr kNews); (have kMark := kstMark); (dsimp only [kstB] at kFr); (try dsimp only at kNews)); rotate_left; ((intro c9 pre9 post9 n9 t9 u9 h9 tk9 own9 kEq kOff hf9 kInv kFr kNews); (have kMark := kstMark); (dsimp only [kstB] at kFr); (try dsimp only at kNews); (try simp only [List.nil_append, List.cons_append, List.append_nil] at kNews); (try dsimp only at kOff); (try simp only [List.map_cons, List.map_nil] at kOff))); (all_goals (try k_fold))))

theorem whole_number_c {w : World} {x : Str} {t : Tok} {news} (hx : x.length ≤ 1000) :
   Ctr w 49 3 [.str x t] news (fun v news' => news' = news ∧ ((wholeOf x = none ∧ v = .none) ∨ (∃ n t, wholeOf x = some n ∧ v = .int n t))) := by
  unfold Ctr
  intro mean mg mb dp un gd cn cs a ccd cl outer A₀ base h₀ L m s Q E B F X N T hk hd hu hret
  k_with_none
  w_top off
  revert X; k_fill; intro X
  k_with "state" => exact all_snoc (by assumption) (by assumption)
  refine wpAny_call ?_
  k_dflt cell_enter
  k_steps
  · exact hret _ _ _ _ ⟨rfl, .inl ⟨whole_none0 (by assumption), rfl⟩⟩ (by assumption) (by assumption)
  · exact hret _ _ _ _ ⟨rfl, .inl ⟨whole_none1 (by assumption) (by assumption) (by assumption), rfl⟩⟩ (by assumption) (cb_drop (by assumption) (fun _ hp => List.mem_cons_of_mem _ (List.mem_append_left _ hp)))
  · exact hret _ _ _ _ ⟨rfl, .inr ⟨_, _, whole_some (by assumption) (by assumption) (by assumption), rfl⟩⟩ (by assumption) (cb_drop (by assumption) (fun _ hp => List.mem_cons_of_mem _ hp))
  · exact hret _ _ _ _ ⟨rfl, .inl ⟨whole_none2 (by assumption) (by assumption) (by assumption), rfl⟩⟩ (by assumption) (cb_drop (by assumption) (fun _ hp => List.mem_cons_of_mem _ hp))
end
section
local macro_rules | `(tactic| k_all) => `(tactic| (first | assumption | (intro p9 h9; exact Ne.symm (by assumption))))

theorem getD0 (a b d : Int) : [a, b].getD (Int.toNat 0) d = a := rfl
theorem getD1 (a b d : Int) : [a, b].getD (Int.toNat 1) d = b := rfl
local macro_rules | `(tactic| walk_at "binaryOp Mult int int") => `(tactic| (k_here; simp only [getD0, getD1]; walk_at "binaryOp Mult int int"))

theorem law_take_raw {w : World} {src : Addr} {a0 b top : Int} {ta tb tt : Tok} {n : Nat} {rest} (ha : 0 ≤ a0) (hb : 0 ≤ b) (hb' : b < 2147483647) (ht : 0 < top) (ht' : top ≤ 1000000) (hr : ∀ p ∈ rest, p.1 ≠ src) :
   Ctr w 63 1 [.ref src, .int top tt] ((src, listOf #[.int a0 ta, .int b tb] n) :: rest) (fun v news' => ∃ k tk a' b' ta' tb' n', v = .int k tk ∧ 0 ≤ k ∧ k < top ∧ 0 ≤ a' ∧ 0 ≤ b' ∧ b' < 2147483647 ∧ news' = (src, listOf #[.int a' ta', .int b' tb'] n') :: rest) := by
  unfold Ctr
  intro mean mg mb dp un gd cn cs a ccd cl outer A₀ base h₀ L m s Q E B F X N T hk hd hu hret
  k_with_none
  w_top off
  revert X; k_fill; intro X
  refine wpAny_call ?_
  k_dflt cell_enter
  k_steps
  · (rename News _ _ _ _ => kN)
    refine hret _ _ _ _ ?_ (by assumption) kN
    exact ⟨_, _, _, _, _, _, _, rfl, fmod_lo _ ht, fmod_hi _ ht, Int.fdiv_nonneg (a := a0) ha (by omega), hb, hb', rfl⟩
  · (rename News _ _ _ _ => kN)
    refine hret _ _ _ _ ?_ (by assumption) kN
    exact ⟨_, _, _, _, _, _, _, rfl, fmod_lo _ ht, fmod_hi _ ht, ha, fmod_lo _ (by omega), fmod_hi _ (by omega), rfl⟩

theorem law_take_c {w : World} {src : Addr} {o : Obj} {top : Int} {tt : Tok} {led : List (Addr × Obj)} {g : Obj → List (Addr × Obj)} (hs : SrcOk o) (U : UpdF src o led g) (ht : 0 < top) (ht' : top ≤ 1000000) :
    Ctr w 63 1 [.ref src, .int top tt] led (fun v news' => ∃ o', (SrcOk o' ∧ ∃ (k : Int) (tk : Tok), v = .int k tk ∧ 0 ≤ k ∧ k < top) ∧ news' = g o') := by
  refine Ctr.upd (P := fun v o' => SrcOk o' ∧ ∃ (k : Int) (tk : Tok), v = .int k tk ∧ 0 ≤ k ∧ k < top) U fun rest hr _ => ?_
  obtain ⟨a, b, ta, tb, n, rfl, ha, hb, hb'⟩ := hs
  refine (law_take_raw ha hb hb' ht ht' hr).mono ?_
  rintro v news' ⟨k, tk, a', b', ta', tb', n', rfl, hk, hk', ha', hb1, hb2, rfl⟩
  exact ⟨_, ⟨⟨_, _, _, _, _, rfl, ha', hb1, hb2⟩, _, _, rfl, hk, hk'⟩, rfl⟩
end
section
theorem item_any {prog : Program} {w : World} {A : Around} {E : Value → Shared → Prop} {s : Shared} {value slice : PySem.Expr} {l : Addr} {vs : List Value} {k : Int} {u : Tok} {Q : Value → Shared → Prop}
    (hl : s.heap.IsList l vs.toArray) (h0 : 0 ≤ k) (h1 : k < (vs.length : Int)) (hfit : vs.length ≤ 1000000) (h : ∀ v, vs[k.toNat]? = some v → Q v s)
    (hs : subscripted slice false (.ref l) (.int k u) = operate [.ref l, .int k u] (getItem (.ref l) (.int k u)) := by with_unfolding_all rfl) :
    wpAny (model prog w) A (subscriptTail value slice (.ref l) (.int k u)) Q E s := by
  have hl1 : k.toNat < vs.length := by omega
  exact tail_any hl.typeIs slot_list_getitem.lookup (wpAny_getItem_list hl h0 (by omega) (by simp [List.getElem?_eq_getElem hl1]) (h _ (List.getElem?_eq_getElem hl1))) hs
theorem list_of_news {h₀ h : Heap} {L l : Addr} {news : List (Addr × Obj)} {vs : List Value} {n : Nat} (N : News h₀ L h news) (hm : (l, listOf vs.toArray n) ∈ news) : h.IsList l vs.toArray := ⟨_, (N _ hm).1, rfl, n, rfl⟩

local macro_rules | `(tactic| walk_at "call ref") => `(tactic| (k_here; k_dflt (
  refine' Ctr.use (law_take_c ?p1 ?p2 ?p3 ?p4) ?k1 ?k2 ?k3 ?k4 ?k5 ?kK ?kd ?ku ?_
  (case k1 => k_asm); (case k2 => k_asm); (case k3 => k_asm); (case k4 => k_asm); (case k5 => k_asm); (case kK => first | exact rfl | assumption); (case kd => ktr_room); (case ku => ktr_units)
  (case p1 => assumption); (case p2 => k_updF); (case p3 => first | assumption | omega); (case p4 => first | assumption | omega)
  intro v9 news9 h9 tk9 R9 F9 N9
  obtain ⟨o9, ⟨so9, k9, t9, hv9, hk9, hk9'⟩, hn9⟩ := R9
  subst hv9 hn9; (try dsimp only at N9); (try dsimp only); (try k_fold))))
local macro_rules | `(tactic| walk_at "call builtin:len") => `(tactic| (k_here; (with_reducible show wpAny _ _ (call (Value.builtin "len") [Value.ref _]) _ _ _); k_dflt (refine' kst_len ?k1 ?k2 rfl ?k4 ?_; (case k1 => k_asm); (case k2 => first | assumption | exact List.mem_cons_of_mem _ (by assumption)); (case k4 => omega); k_whole)))
local macro_rules | `(tactic| walk_at "subscriptTail Name Call ref int") => `(tactic| (k_here; (with_reducible show wpAny _ _ (subscriptTail _ _ (Value.ref _) (Value.int _ _)) _ _ _); (with_unfolding_all refine' item_any (list_of_news ?k1 ?k2) ?k3 ?k4 ?k5 ?_ ?k6; (case k1 => k_asm); (case k2 => first | assumption | exact List.mem_cons_of_mem _ (by assumption)); (case k3 => omega); (case k4 => omega); (case k5 => omega); (case k6 => with_unfolding_all rfl); k_whole); intro v9 hv9))

local macro_rules | `(tactic| k_all) => `(tactic| assumption)
theorem law_one_raw {w : World} {src th : Addr} {o : Obj} {items : List Value} {nn : Nat} {rest} (hs : SrcOk o) (hi : 0 < items.length) (hi' : items.length ≤ 1000) (hr : ∀ p ∈ rest, p.1 ≠ src) (hth : (th, listOf items.toArray nn) ∈ rest) :
   Ctr w 70 2 [.ref src, .ref th] ((src, o) :: rest) (fun v news' => ∃ o', (SrcOk o' ∧ v ∈ items) ∧ news' = (src, o') :: rest) := by
  unfold Ctr
  intro mean mg mb dp un gd cn cs a ccd cl outer A₀ base h₀ L m s Q E B F X N T hk hd hu hret
  k_with_none
  w_top off
  revert X; k_fill; intro X
  refine wpAny_call ?_
  k_dflt cell_enter
  k_steps
  · (rename News _ _ _ _ => kN)
    exact hret _ _ _ _ ⟨_, ⟨by assumption, List.mem_of_getElem? (by assumption)⟩, rfl⟩ (by assumption) kN
theorem law_one_c {w : World} {src th : Addr} {o : Obj} {items : List Value} {nn : Nat} {led : List (Addr × Obj)} {g : Obj → List (Addr × Obj)} (hs : SrcOk o) (U : UpdF src o led g) (hth : (th, listOf items.toArray nn) ∈ led) (hne : th ≠ src) (hi : 0 < items.length) (hi' : items.length ≤ 1000) :
    Ctr w 70 2 [.ref src, .ref th] led (fun v news' => ∃ o', (SrcOk o' ∧ v ∈ items) ∧ news' = g o') :=
  Ctr.upd (P := fun v o' => SrcOk o' ∧ v ∈ items) U fun _ hr hin => law_one_raw hs hi hi' hr (hin _ hth hne)
end
section
local macro_rules | `(tactic| walk_at "call ref") => `(tactic| (k_here; k_dflt (
  refine' Ctr.use (law_take_c ?p1 ?p2 ?p3 ?p4) ?k1 ?k2 ?k3 ?k4 ?k5 ?kK ?kd ?ku ?_
  (case k1 => k_asm); (case k2 => k_asm); (case k3 => k_asm); (case k4 => k_asm); (case k5 => k_asm); (case kK => first | exact rfl | assumption); (case kd => ktr_room); (case ku => ktr_units)
  (case p1 => assumption); (case p2 => k_updF); (case p3 => first | decide | assumption | omega); (case p4 => first | decide | assumption | omega)
  intro v9 news9 h9 tk9 R9 F9 N9
  obtain ⟨o9, ⟨so9, k9, t9, hv9, hk9, hk9'⟩, hn9⟩ := R9
  subst hv9 hn9; (try dsimp only at N9); (try dsimp only); (try k_fold))))
local macro_rules | `(tactic| walk_at "call ref") => `(tactic| (k_here; k_dflt (
  refine' Ctr.use (law_one_c ?p1 ?p2 ?p3 ?p4 ?p5 ?p6) ?k1 ?k2 ?k3 ?k4 ?k5 ?kK ?kd ?ku ?_
  (case k1 => k_asm); (case k2 => k_asm); (case k3 => k_asm); (case k4 => k_asm); (case k5 => k_asm); (case kK => first | exact rfl | assumption); (case kd => ktr_room); (case ku => ktr_units)
  (case p1 => assumption); (case p2 => k_updF); (case p3 => k_mem); (case p4 => k_ne); (case p5 => exact Nat.le_of_ble_eq_true rfl); (case p6 => exact Nat.le_of_ble_eq_true rfl)
  intro v9 news9 h9 tk9 R9 F9 N9
  obtain ⟨o9, ⟨so9, hv9⟩, hn9⟩ := R9
  subst hn9; (try dsimp only at N9); (try dsimp only); (try k_fold))))
theorem allLt_tail {x : Addr × Obj} {rest : List (Addr × Obj)} {d : Addr} (h : ∀ p ∈ x :: rest, p.1 < d) : AllLt d rest := allLt_of fun p hp => h p (.tail _ hp)
theorem allLt_ne {rest : List (Addr × Obj)} {d e : Addr} (h : AllLt d rest) (he : @LE.le Nat _ d e) : ∀ p ∈ rest, p.1 ≠ e := fun p hp => Nat.ne_of_lt (Nat.lt_of_lt_of_le (kst_ltOf h p hp) he)
local macro_rules | `(tactic| k_all) => `(tactic| first | assumption | exact allLt_ne (by assumption) (by omega))

local macro_rules | `(tactic| walk_at "CompSrc") => `(tactic| (k_here; k_dflt ((refine LCg.CompSrc.range (by rfl) (by k_asm) (by k_asm) (by assumption) (by exact small_one (by omega) (by omega) (by omega) (by omega)) (by exact rangeSize_nat _ _) (by rw [PySem.sizeLine_eq]; omega) ?_); intro g9; (refine' comp_inv (BlankJ SrcOk _) ?_ ?_ _ 0 [] _ (Nat.zero_add _) (BlankJ.start ?hi ?hs ?hU)); (case hi => assumption); (case hs => assumption); (case hU => k_updF); ((intro i9 ys9 nw9 v9 I9 oI9 C9 oC9 D9 m9 h9 tk9 E9 hi9 hJ9 hP9 hC9 hx9 F9 N9 off9 ne9); (obtain ⟨o9, xs9, so9, sa9, hx9', hl9, hw9⟩ := hJ9); subst hw9; (dsimp only at N9 off9); (simp only [LCg.Off3] at off9)); rotate_left; ((intro ys9 nw9 hJ9); (obtain ⟨o9, xs9, so9, sa9, hx9', hl9, hw9⟩ := hJ9); subst hw9; dsimp only); rotate_left; (all_goals (try k_fold)))))
local macro_rules | `(tactic| walk_at "CompEnd") => `(tactic| (k_dflt ((refine LCg.CompEnd.intro (by assumption) (by assumption) _ (fun _ hp => hp) (by assumption) trivial ?_); exact BlankJ.next (by assumption) (by assumption) (by assumption) (by assumption) (by assumption))))
local macro_rules | `(tactic| walk_at "call builtin:str.join") => `(tactic| (k_here; (with_reducible show wpAny _ _ (call (Value.builtin "str.join") [Value.str _ _, Value.ref _]) _ _ _); k_dflt (refine' join_listW (list_of_news ?k1 ?k2) ?k3 ?k4 ?k5 ?_; (case k1 => k_asm); (case k2 => k_mem); (case k3 => assumption); (case k4 => decide +kernel); (case k5 => exact join_fits (by assumption) (by assumption) (by omega))); intro _ _))

theorem law_blanks_raw {w : World} {src : Addr} {o : Obj} {rest} (hs : SrcOk o) (hr : ∀ p ∈ rest, p.1 ≠ src) :
   Ctr w 75 3 [.ref src] ((src, o) :: rest) (fun v news' => ∃ o', (SrcOk o' ∧ ∃ (x : Str) (t : Tok), v = .str x t ∧ x.length ≤ 3 ∧ ∀ c ∈ x.cps.toList, spc c = true) ∧ news' = (src, o') :: rest) := by
  unfold Ctr
  intro mean mg mb dp un gd cn cs a ccd cl outer A₀ base h₀ L m s Q E B F X N T hk hd hu hret
  k_with_none
  w_top off
  revert X; k_fill; intro X
  have hsrc : SrcIs src := trivial
  refine wpAny_call ?_
  k_dflt (refine' code_defC ?k1 ?k2 ?k3 ?k4 ?k5 ?kA ?kF ?kK ?k6 ?k7 ?k8 ?k9 ?kB ?kD ?_ ?c2 ?c3 ?c4; (case kA => exact rfl); (case kF => exact rfl); (case kK => assumption); (case k1 => k_asm); (case k2 => k_asm); (case k3 => k_asm); (case k4 => k_asm); (case k5 => k_asm); (case k6 => k_is); (case k7 => k_is); (case k8 => ktr_room); (case k9 => exact BindsTo.of_eq rfl); (case kB => exact rfl); (case kD => decide +kernel); (case c2 => exact rfl); (case c3 => exact rfl); (case c4 => exact rfl); k_whole; intro g' L' h' tk' cells' FG' F' N' Y' B' X' T' l1; (have lR9 := allLt_tail l1); (try k_lt l1); k_cells Y'; (try simp only [List.cons_append, List.nil_append] at N'); (try dsimp only); (try k_lift B'); (try k_fold))
  k_steps
  · (rename News _ _ _ _ => kN)
    refine hret _ _ _ _ ⟨_, ⟨by assumption, _, _, rfl, join_le (by assumption) (by assumption) (by omega), join_spc (by assumption)⟩, rfl⟩ (by assumption) (cb_drop kN (fun _ hp => .tail _ (.tail _ (.tail _ (.tail _ hp)))))

theorem law_blanks_c {w : World} {src : Addr} {o : Obj} {led : List (Addr × Obj)} {g : Obj → List (Addr × Obj)} (hs : SrcOk o) (U : UpdF src o led g) :
    Ctr w 75 3 [.ref src] led (fun v news' => ∃ o', (SrcOk o' ∧ ∃ (x : Str) (t : Tok), v = .str x t ∧ x.length ≤ 3 ∧ ∀ c ∈ x.cps.toList, spc c = true) ∧ news' = g o') :=
  Ctr.upd (P := fun v o' => SrcOk o' ∧ ∃ (x : Str) (t : Tok), v = .str x t ∧ x.length ≤ 3 ∧ ∀ c ∈ x.cps.toList, spc c = true) U fun _ hr _ => law_blanks_raw hs hr
end
section
local macro_rules | `(tactic| walk_at "call ref") => `(tactic| (k_here; k_dflt (
  refine' Ctr.use (law_take_c ?p1 ?p2 ?p3 ?p4) ?k1 ?k2 ?k3 ?k4 ?k5 ?kK ?kd ?ku ?_
  (case k1 => k_asm); (case k2 => k_asm); (case k3 => k_asm); (case k4 => k_asm); (case k5 => k_asm); (case kK => first | exact rfl | assumption); (case kd => ktr_room); (case ku => ktr_units)
  (case p1 => assumption); (case p2 => k_updF); (case p3 => first | decide | assumption | omega); (case p4 => first | decide | assumption | omega)
  intro v9 news9 h9 tk9 R9 F9 N9
  obtain ⟨o9, ⟨so9, k9, t9, hv9, hk9, hk9'⟩, hn9⟩ := R9
  subst hv9 hn9; (try dsimp only at N9); (try dsimp only); (try k_fold))))
local macro_rules | `(tactic| walk_at "call ref") => `(tactic| (k_here; k_dflt (
  refine' Ctr.use (law_one_c ?p1 ?p2 ?p3 ?p4 ?p5 ?p6) ?k1 ?k2 ?k3 ?k4 ?k5 ?kK ?kd ?ku ?_
  (case k1 => k_asm); (case k2 => k_asm); (case k3 => k_asm); (case k4 => k_asm); (case k5 => k_asm); (case kK => first | exact rfl | assumption); (case kd => ktr_room); (case ku => ktr_units)
  (case p1 => assumption); (case p2 => k_updF); (case p3 => k_mem); (case p4 => k_ne); (case p5 => exact Nat.le_of_ble_eq_true rfl); (case p6 => exact Nat.le_of_ble_eq_true rfl)
  intro v9 news9 h9 tk9 R9 F9 N9
  obtain ⟨o9, ⟨so9, hv9⟩, hn9⟩ := R9
  subst hn9; (try dsimp only at N9); (try dsimp only); (try k_fold))))
local macro_rules | `(tactic| k_all) => `(tactic| first | assumption | exact allLt_ne (by assumption) (by omega))
local macro_rules | `(tactic| walk_at "call type:str") => `(tactic| (k_here; (with_reducible show wpAny _ _ (call (Value.type "str") [Value.int _ _]) _ _ _); k_dflt (refine P.str_of_int (shown (N := 2 ^ 1920) (by first | omega | (simp only [p63]; omega)) (by first | (exact Int.lt_of_lt_of_le (b := 1000000000000000000000000000000) (by first | omega | (simp only [p63]; omega)) (by decide +kernel))) (Int.le_refl _)) ?_)))
local macro_rules | `(tactic| walk_at "binaryOp Mult str int") => `(tactic| (k_here; (with_reducible show wpAny _ _ (binaryOp Operator.Mult (Value.str _ _) (Value.int (_ * _) _)) _ _ _); k_dflt ((refine SB.mul (mulOk_of 16 1048576 (by decide +kernel) (Int.le_trans (pad_bound ?p1 ?p2 ?p3 ?p4).2 (by decide)) (Int.le_trans (by decide) (pad_bound ?p1 ?p2 ?p3 ?p4).1) (by decide) (by decide)) ?_); (case p1 => assumption); (case p2 => assumption); (case p3 => assumption); (case p4 => assumption); intro t9 k9)))
local macro_rules | `(tactic| walk_at "storeName") => `(tactic| (k_here; (with_reducible rename _ ∈ [Value.int 0 _, Value.int 7 _, Value.int 10 _, Value.int 65536 _, Value.int _ _] => hm9); (obtain ⟨n9, t9, e9, l9, g9⟩ := int_mem hm9 (by assumption) (by assumption)); subst e9; clear hm9; walk_at "storeName"))

local macro_rules | `(tactic| walk_at "binaryOp Add str str") => `(tactic| (k_here; (with_reducible show wpAny _ _ (binaryOp Operator.Add (Value.str _ _) (Value.str _ _)) _ _ _); k_dflt ((refine' SB.add ?_ ?hsz); (case hsz => (rw [← Str.length_append]; exact Nat.le_trans (fig_pad (by assumption) (by omega) (pad_bound (by assumption) (by assumption) (by assumption) (by assumption)).2).2.2 (Nat.le_of_ble_eq_true rfl))); intro t9 k9)))
theorem sub3 {x y : Addr × Obj} {z : List (Addr × Obj)} : ∀ p ∈ x :: z, p ∈ x :: y :: z := fun p hp => by
  rcases List.mem_cons.mp hp with rfl | hp
  · exact .head _
  · exact .tail _ (.tail _ hp)
theorem all_lt2 {src D : Addr} {o : Obj} {rest : List (Addr × Obj)} (h : @LT.lt Nat _ src D ∧ AllLt D rest) : ∀ p ∈ (src, o) :: rest, p.1 < D := kst_ltOf (l := (src, o) :: rest) h

theorem law_figures_raw {w : World} {src : Addr} {o : Obj} {rest} (hs : SrcOk o) (hr : ∀ p ∈ rest, p.1 ≠ src) :
   Ctr w 82 3 [.ref src] ((src, o) :: rest) (fun v news' => ∃ o' a T, (SrcOk o' ∧ ∃ (x : Str) (t : Tok) (n : Int) (u : Tok) (k : Nat), v = .ref a ∧ T = { cls := .type "tuple", data := .seq #[.str x t, .int n u] k } ∧ FigOk x n) ∧ (∀ p ∈ (src, o) :: rest, p.1 < a) ∧ news' = (a, T) :: (src, o') :: rest) := by
  unfold Ctr
  intro mean mg mb dp un gd cn cs a ccd cl outer A₀ base h₀ L m s Q E B F X N T hk hd hu hret
  k_with_none
  w_top off
  revert X; k_fill; intro X
  refine wpAny_call ?_
  k_dflt cell_enter
  k_steps
  all_goals (rename News _ _ _ _ => kN)
  · refine hret _ _ _ _ ⟨_, _, _, ⟨by assumption, _, _, _, _, _, rfl, rfl, fig_nil⟩, all_lt2 (by assumption), rfl⟩ (by assumption) kN
  · refine hret _ _ _ _ ⟨_, _, _, ⟨by assumption, _, _, _, _, _, rfl, rfl, fig_str ?_ ?_⟩, all_lt2 (by assumption), rfl⟩ (by assumption) kN
    · simp only [p63]; omega
    · simp only [p63]; omega
  · refine hret _ _ _ _ ?_ (by assumption) (cb_drop kN sub3)
    exact ⟨_, _, _, ⟨by assumption, _, _, _, _, _, rfl, rfl, fig_rep (by assumption) (by assumption) (by assumption) (by assumption)⟩, all_lt2 (And.right (by assumption)), rfl⟩
  · refine hret _ _ _ _ ?_ (by assumption) (cb_drop kN sub3)
    exact ⟨_, _, _, ⟨by assumption, _, _, _, _, _, rfl, rfl, fig_pad (by assumption) (by omega) (pad_bound (by assumption) (by assumption) (by assumption) (by assumption)).2⟩, all_lt2 (And.right (by assumption)), rfl⟩

theorem law_figures_c {w : World} {src : Addr} {o : Obj} {led : List (Addr × Obj)} {g : Obj → List (Addr × Obj)} (hs : SrcOk o) (U : UpdF src o led g) :
    Ctr w 82 3 [.ref src] led (fun v news' => ∃ o' a T, (SrcOk o' ∧ ∃ (x : Str) (t : Tok) (n : Int) (u : Tok) (k : Nat), v = .ref a ∧ T = { cls := .type "tuple", data := .seq #[.str x t, .int n u] k } ∧ FigOk x n) ∧ (∀ p ∈ led, p.1 < a) ∧ news' = (a, T) :: g o') :=
  Ctr.updT (P := fun v o' a T => SrcOk o' ∧ ∃ (x : Str) (t : Tok) (n : Int) (u : Tok) (k : Nat), v = .ref a ∧ T = { cls := .type "tuple", data := .seq #[.str x t, .int n u] k } ∧ FigOk x n) U fun _ hr _ => law_figures_raw hs hr
end
section
theorem number_span_none {w : World} {x : Str} {t : Tok} {news} (hx : x.length ≤ 1000) (h : spanOf x = none) : Ctr w 35 2 [.str x t] news (fun v news' => v = .none ∧ news' = news) :=
  (number_span_c hx).mono fun v n r => by
    rcases r with ⟨_, hv, hn⟩ | ⟨b, e, a, t1, t2, k, hs, _⟩
    · exact ⟨hv, hn⟩
    · rw [h] at hs; cases hs
theorem number_span_some {w : World} {x : Str} {t : Tok} {b e : Int} {news} (hx : x.length ≤ 1000) (h : spanOf x = some (b, e)) : Ctr w 35 2 [.str x t] news (fun v news' => ∃ (a : Addr) (t1 t2 : Tok) (n : Nat), v = .ref a ∧ news' = (a, { cls := .type "tuple", data := .seq #[.int b t1, .int e t2] n }) :: news ∧ ∀ p ∈ news, p.1 < a) :=
  (number_span_c hx).mono fun v n r => by
    rcases r with ⟨hs, _⟩ | ⟨b', e', a, t1, t2, k, hs, hv, hn, hl⟩
    · rw [h] at hs; cases hs
    · rw [h] at hs
      cases hs
      exact ⟨a, t1, t2, k, hv, hn, hl⟩
theorem whole_number_none {w : World} {x : Str} {t : Tok} {news} (hx : x.length ≤ 1000) (h : wholeOf x = none) : Ctr w 49 3 [.str x t] news (fun v news' => v = .none ∧ news' = news) :=
  (whole_number_c hx).mono fun v n r => by
    obtain ⟨hn, ⟨_, hv⟩ | ⟨k, u, hs, _⟩⟩ := r
    · exact ⟨hv, hn⟩
    · rw [h] at hs; cases hs
theorem whole_number_some {w : World} {x : Str} {t : Tok} {k : Int} {news} (hx : x.length ≤ 1000) (h : wholeOf x = some k) : Ctr w 49 3 [.str x t] news (fun v news' => (∃ u : Tok, v = .int k u) ∧ news' = news) :=
  (whole_number_c hx).mono fun v n r => by
    obtain ⟨hn, ⟨hs, _⟩ | ⟨k', u, hs, hv⟩⟩ := r
    · rw [h] at hs; cases hs
    · rw [h] at hs
      cases hs
      exact ⟨⟨u, hv⟩, hn⟩

theorem len_x (t : Str) (h : t.length ≤ 500) : (Str.ofString "x" ++ t).length ≤ 1000 := by
  have e : (Str.ofString "x").length = 1 := by decide +kernel
  rw [Str.length_append, e]; omega
theorem len_pm (t : Str) (h : t.length ≤ 500) : (Str.ofString "+-" ++ t).length ≤ 1000 := by
  have e : (Str.ofString "+-").length = 2 := by decide +kernel
  rw [Str.length_append, e]; omega
theorem len_any (y t : Str) (h : t.length ≤ 500) (hy : y.length = 1) : (y ++ t).length ≤ 1000 := by
  rw [Str.length_append, hy]; omega

local macro_rules | `(tactic| walk_at "call ref") => `(tactic| (k_here; k_dflt (
  refine' Ctr.use (number_span_none ?p1 ?p2) ?k1 ?k2 ?k3 ?k4 ?k5 ?kK ?kd ?ku ?_
  (case k1 => k_asm); (case k2 => k_asm); (case k3 => k_asm); (case k4 => k_asm); (case k5 => k_asm); (case kK => first | exact rfl | assumption); (case kd => ktr_room); (case ku => ktr_units)
  (case p1 => first | exact len_x _ (by assumption) | exact len_pm _ (by assumption)); (case p2 => first | exact span_x _ | exact span_pm _)
  intro v9 news9 h9 tk9 R9 F9 N9
  obtain ⟨hv9, hn9⟩ := R9
  subst hv9 hn9; (try dsimp only); (try k_fold))))
local macro_rules | `(tactic| walk_at "call ref") => `(tactic| (k_here; k_dflt (
  refine' Ctr.use (whole_number_none ?p1 ?p2) ?k1 ?k2 ?k3 ?k4 ?k5 ?kK ?kd ?ku ?_
  (case k1 => k_asm); (case k2 => k_asm); (case k3 => k_asm); (case k4 => k_asm); (case k5 => k_asm); (case kK => first | exact rfl | assumption); (case kd => ktr_room); (case ku => ktr_units)
  (case p1 => exact len_any _ _ (by assumption) (by decide +kernel)); (case p2 => exact whole_none0 (span_160 _ (by decide +kernel)))
  intro v9 news9 h9 tk9 R9 F9 N9
  obtain ⟨hv9, hn9⟩ := R9
  subst hv9 hn9; (try dsimp only); (try k_fold))))
local macro_rules | `(tactic| walk_at "binaryOp Add str str") => `(tactic| (k_here; (with_reducible show wpAny _ _ (binaryOp Operator.Add (Value.str _ _) (Value.str _ _)) _ _ _); k_dflt ((refine' SB.add ?_ ?hsz); (case hsz => (rw [← Str.length_append]; refine Nat.le_trans (m := 1000) ?_ (Nat.le_of_ble_eq_true rfl); first | exact len_x _ (by assumption) | exact len_pm _ (by assumption) | exact len_any _ _ (by assumption) (by decide +kernel))); intro t9 k9)))

theorem law_is_strange_c {w : World} {x : Str} {t : Tok} {news} (hx : x.length ≤ 500) :
   Ctr w 94 4 [.str x t] news (fun v news' => v = .bool false ∧ news' = news) := by
  unfold Ctr
  intro mean mg mb dp un gd cn cs a ccd cl outer A₀ base h₀ L m s Q E B F X N T hk hd hu hret
  k_with_none
  w_top off
  revert X; k_fill; intro X
  refine wpAny_call ?_
  k_dflt cell_enter
  k_steps
  · exact hret _ _ _ _ ⟨rfl, rfl⟩ (by assumption) (by assumption)
end
section
local macro_rules | `(tactic| k_all) => `(tactic| first | assumption | exact allLt_ne (by assumption) (by omega))
local macro_rules | `(tactic| walk_at "call ref") => `(tactic| (k_here; (with_reducible show wpAny _ _ (call (Value.ref 75) _) _ _ _); k_dflt (
  refine' Ctr.use (law_blanks_c ?p1 ?p2) ?k1 ?k2 ?k3 ?k4 ?k5 ?kK ?kd ?ku ?_
  (case k1 => k_asm); (case k2 => k_asm); (case k3 => k_asm); (case k4 => k_asm); (case k5 => k_asm); (case kK => first | exact rfl | assumption); (case kd => ktr_room); (case ku => ktr_units)
  (case p1 => assumption); (case p2 => k_updF)
  intro v9 news9 h9 tk9 R9 F9 N9
  obtain ⟨o9, ⟨so9, x9, t9, hv9, hl9, hs9⟩, hn9⟩ := R9
  have hB9 : Blank3 x9 := ⟨hl9, hs9⟩
  subst hv9 hn9; (try dsimp only at N9); (try dsimp only); (try k_fold))))
local macro_rules | `(tactic| walk_at "call ref") => `(tactic| (k_here; (with_reducible show wpAny _ _ (call (Value.ref 82) _) _ _ _); k_dflt (
  refine' Ctr.use (law_figures_c ?p1 ?p2) ?k1 ?k2 ?k3 ?k4 ?k5 ?kK ?kd ?ku ?_
  (case k1 => k_asm); (case k2 => k_asm); (case k3 => k_asm); (case k4 => k_asm); (case k5 => k_asm); (case kK => first | exact rfl | assumption); (case kd => ktr_room); (case ku => ktr_units)
  (case p1 => assumption); (case p2 => k_updF)
  intro v9 news9 h9 tk9 R9 F9 N9
  obtain ⟨o9, a9, T9, ⟨so9, x9, t9, n9, u9, k9, hv9, hT9, hf9⟩, hlt9, hn9⟩ := R9
  have hl9 := hf9.2.2
  subst hv9 hT9 hn9; (try k_lt hlt9); (try dsimp only at N9); (try dsimp only); (try k_fold))))
local macro_rules | `(tactic| walk_at "call ref") => `(tactic| (k_here; (with_reducible show wpAny _ _ (call (Value.ref 70) _) _ _ _); k_dflt (
  refine' Ctr.use (law_one_c ?p1 ?p2 ?p3 ?p4 ?p5 ?p6) ?k1 ?k2 ?k3 ?k4 ?k5 ?kK ?kd ?ku ?_
  (case k1 => k_asm); (case k2 => k_asm); (case k3 => k_asm); (case k4 => k_asm); (case k5 => k_asm); (case kK => first | exact rfl | assumption); (case kd => ktr_room); (case ku => ktr_units)
  (case p1 => assumption); (case p2 => k_updF); (case p3 => k_mem); (case p4 => k_ne); (case p5 => exact Nat.le_of_ble_eq_true rfl); (case p6 => exact Nat.le_of_ble_eq_true rfl)
  intro v9 news9 h9 tk9 R9 F9 N9
  obtain ⟨o9, ⟨so9, hv9⟩, hn9⟩ := R9
  subst hn9; (try dsimp only at N9); (try dsimp only)
  first
    | (obtain ⟨x9, t9, e9, s9⟩ := sign_mem hv9; have hl9 := s9.len; subst e9; clear hv9)
    | (obtain ⟨x9, t9, e9, s9⟩ := rest_mem hv9 ⟨by decide +kernel, by decide +kernel⟩ ⟨by decide +kernel, by decide +kernel⟩ ⟨by decide +kernel, by decide +kernel⟩ ⟨by decide +kernel, by decide +kernel⟩ ⟨by decide +kernel, by decide +kernel⟩ ⟨by decide +kernel, by decide +kernel⟩ ⟨by decide +kernel, by decide +kernel⟩; have hl9 := s9.1; subst e9; clear hv9)
    | (obtain ⟨x9, t9, e9, s9⟩ := beh_mem hv9 ⟨by decide +kernel, by decide +kernel⟩ ⟨by decide +kernel, by decide +kernel⟩ ⟨by decide +kernel, by decide +kernel⟩ ⟨by decide +kernel, by decide +kernel⟩ ⟨by decide +kernel, by decide +kernel⟩ ⟨by decide +kernel, by decide +kernel⟩ ⟨by decide +kernel, by decide +kernel⟩ ⟨by decide +kernel, by decide +kernel⟩ ⟨by decide +kernel, by decide +kernel⟩ ⟨by decide +kernel, by decide +kernel⟩; have hl9 := s9.1; subst e9; clear hv9)
    | skip
  (try k_fold))))
local macro_rules | `(tactic| walk_at "call ref") => `(tactic| (k_here; (with_reducible show wpAny _ _ (call (Value.ref 35) _) _ _ _); k_dflt (
  have hg9 := fig_zero (by assumption) (by assumption)
  refine' Ctr.use (number_span_none ?p1 ?p2) ?k1 ?k2 ?k3 ?k4 ?k5 ?kK ?kd ?ku ?_
  (case k1 => k_asm); (case k2 => k_asm); (case k3 => k_asm); (case k4 => k_asm); (case k5 => k_asm); (case kK => first | exact rfl | assumption); (case kd => ktr_room); (case ku => ktr_units)
  (case p1 => (simp only [Str.length_append]; omega)); (case p2 => exact span_A (by assumption) (by assumption) (by assumption))
  intro v9 news9 h9 tk9 R9 F9 N9
  obtain ⟨hv9, hn9⟩ := R9
  subst hv9 hn9; (try dsimp only); (try k_fold))))
local macro_rules | `(tactic| walk_at "call ref") => `(tactic| (k_here; (with_reducible show wpAny _ _ (call (Value.ref 49) _) _ _ _); k_dflt (
  have hg9 := fig_zero (by assumption) (by assumption)
  refine' Ctr.use (whole_number_none ?p1 ?p2) ?k1 ?k2 ?k3 ?k4 ?k5 ?kK ?kd ?ku ?_
  (case k1 => k_asm); (case k2 => k_asm); (case k3 => k_asm); (case k4 => k_asm); (case k5 => k_asm); (case kK => first | exact rfl | assumption); (case kd => ktr_room); (case ku => ktr_units)
  (case p1 => (simp only [Str.length_append]; omega)); (case p2 => exact whole_none0 (span_A (by assumption) (by assumption) (by assumption)))
  intro v9 news9 h9 tk9 R9 F9 N9
  obtain ⟨hv9, hn9⟩ := R9
  subst hv9 hn9; (try dsimp only); (try k_fold))))
local macro_rules | `(tactic| walk_at "call ref") => `(tactic| (k_here; (with_reducible show wpAny _ _ (call (Value.ref 35) _) _ _ _); k_dflt (
  have hg9 := fig_pos (by assumption)
  refine' Ctr.use (number_span_some ?p1 ?p2) ?k1 ?k2 ?k3 ?k4 ?k5 ?kK ?kd ?ku ?_
  (case k1 => k_asm); (case k2 => k_asm); (case k3 => k_asm); (case k4 => k_asm); (case k5 => k_asm); (case kK => first | exact rfl | assumption); (case kd => ktr_room); (case ku => ktr_units)
  (case p1 => (simp only [Str.length_append]; omega)); (case p2 => exact span_B (by assumption) (by assumption) (by assumption) (by assumption) (by assumption) (by assumption))
  intro v9 news9 h9 tk9 R9 F9 N9
  obtain ⟨a9, t9, u9, k9, hv9, hn9, hlt9⟩ := R9
  subst hv9 hn9; (try k_lt hlt9); (try dsimp only); (try k_fold))))
local macro_rules | `(tactic| walk_at "call ref") => `(tactic| (k_here; (with_reducible show wpAny _ _ (call (Value.ref 42) _) _ _ _); k_dflt (
  refine' Ctr.use (number_of_c ?p1) ?k1 ?k2 ?k3 ?k4 ?k5 ?kK ?kd ?ku ?_
  (case k1 => k_asm); (case k2 => k_asm); (case k3 => k_asm); (case k4 => k_asm); (case k5 => k_asm); (case kK => first | exact rfl | assumption); (case kd => ktr_room); (case ku => ktr_units)
  (case p1 => (simp only [Str.length_append]; omega))
  intro v9 news9 h9 tk9 R9 F9 N9
  obtain ⟨hn9, t9, hv9⟩ := R9
  first | (rw [num_neg (by assumption) (by assumption) (by assumption)] at hv9) | (rw [num_pos (by assumption) (by assumption) (by assumption)] at hv9)
  subst hv9 hn9; (try dsimp only); (try k_fold))))
local macro_rules | `(tactic| walk_at "call ref") => `(tactic| (k_here; (with_reducible show wpAny _ _ (call (Value.ref 94) _) _ _ _); k_dflt (
  refine' Ctr.use (law_is_strange_c ?p1) ?k1 ?k2 ?k3 ?k4 ?k5 ?kK ?kd ?ku ?_
  (case k1 => k_asm); (case k2 => k_asm); (case k3 => k_asm); (case k4 => k_asm); (case k5 => k_asm); (case kK => first | exact rfl | assumption); (case kd => ktr_room); (case ku => ktr_units)
  (case p1 => (simp only [Str.length_append]; omega))
  intro v9 news9 h9 tk9 R9 F9 N9
  obtain ⟨hv9, hn9⟩ := R9
  subst hv9 hn9; (try dsimp only); (try k_fold))))
local macro_rules | `(tactic| walk_at "call ref") => `(tactic| (k_here; (with_reducible show wpAny _ _ (call (Value.ref 28) _) _ _ _); k_dflt (
  refine' Ctr.use (digits_end_c ?p1 ?p2) ?k1 ?k2 ?k3 ?k4 ?k5 ?kK ?kd ?ku ?_
  (case k1 => k_asm); (case k2 => k_asm); (case k3 => k_asm); (case k4 => k_asm); (case k5 => k_asm); (case kK => first | exact rfl | assumption); (case kd => ktr_room); (case ku => ktr_units)
  (case p1 => (simp only [Str.length_append]; omega)); (case p2 => omega)
  intro v9 news9 h9 tk9 R9 F9 N9
  obtain ⟨hn9, t9, hv9⟩ := R9
  replace hv9 := hv9.trans (congrArg (fun z => Value.int z t9) (dend_B (by assumption) (by assumption) (by assumption) (by omega) (by omega)))
  subst hv9 hn9; (try dsimp only); (try k_fold))))
local macro_rules | `(tactic| walk_at "call ref") => `(tactic| (k_here; (with_reducible show wpAny _ _ (call (Value.ref 49) _) _ _ _); k_dflt (
  have hg9 := fig_pos (by assumption)
  refine' Ctr.use (whole_number_c ?p1) ?k1 ?k2 ?k3 ?k4 ?k5 ?kK ?kd ?ku ?_
  (case k1 => k_asm); (case k2 => k_asm); (case k3 => k_asm); (case k4 => k_asm); (case k5 => k_asm); (case kK => first | exact rfl | assumption); (case kd => ktr_room); (case ku => ktr_units)
  (case p1 => (simp only [Str.length_append]; omega))
  intro v9 news9 h9 tk9 R9 F9 N9
  obtain ⟨hn9, hc9⟩ := R9
  subst hn9
  rcases hc9 with ⟨hw9, hv9⟩ | ⟨k9, t9, hw9, hv9⟩
  all_goals (subst hv9; clear hg9; (try dsimp only); (try k_fold)))))
local macro_rules | `(tactic| walk_at "eval ListComp") => `(tactic| (k_here; k_dflt (refine LCt.ListComp_T (F₀ := by k_asm) (by with_unfolding_all rfl) (by decide) (by rfl) (by decide) (by rfl) ?_)))
local macro_rules | `(tactic| walk_at "CompSrcT") => `(tactic| (k_here; k_dflt ((refine LCt.CompSrcT.range (by rfl) (by k_asm) (by k_asm) (by assumption) (by exact small_one (by omega) (by omega) (by omega) (by omega)) (by exact rangeSize_nat _ _) (by rw [PySem.sizeLine_eq]; omega) ?_); intro g9; (refine' compT_none ?_ ?_ _ 0 (Nat.zero_add _)); ((intro i9 v9 I9 oI9 C9 oC9 D9 m9 h9 tk9 E9 hi9 hP9 hC9 hx9 F9 N9 off9 ne9); (obtain ⟨t9, hv9⟩ := hP9); subst hv9; clear ne9); (all_goals (try k_fold)))))
local macro_rules | `(tactic| walk_at "binaryOp Add str str") => `(tactic| (k_here; (with_reducible show wpAny _ _ (binaryOp Operator.Add (Value.str _ _) (Value.str _ _)) _ _ _); k_dflt ((refine' SB.add ?_ ?hsz); (case hsz => first | (exact Nat.le_of_ble_eq_true (by with_unfolding_all rfl)) | (simp only [Str.length_append, sizeLine_eq]; omega)); intro t9 k9)))

local macro_rules | `(tactic| walk_at "compareOp NotEq ref ref") => `(tactic| (k_here; (with_reducible show wpAny _ _ (compareOp CmpOp.NotEq (Value.ref _) (Value.ref _)) _ _ _); k_dflt (refine ne_dataH (by ke_read) (by ke_read) (by ke_shaped) (by ke_shaped) (by ktr_units) ?_); ke_norm))

theorem bne_me (a : Int) : (a != a) = false := by simp
local macro_rules | `(tactic| walk_at "And") => `(tactic| (k_dflt ((refine And.intro (bne_me _) ?_); (refine LCg.CompEnd.intro (by assumption) (by assumption) _ (fun _ hp => hp) (by assumption) trivial rfl))))

theorem law_right_raw {w : World} {src : Addr} {o : Obj} {rest} (hs : SrcOk o) (hr : ∀ p ∈ rest, p.1 ≠ src) :
   Ctr w 87 12 [.ref src] ((src, o) :: rest) (fun v news' => ∃ o', (SrcOk o' ∧ v = .bool true) ∧ news' = (src, o') :: rest) := by
  unfold Ctr
  intro mean mg mb dp un gd cn cs a ccd cl outer A₀ base h₀ L m s Q E B F X N T hk hd hu hret
  k_with_none
  w_top off
  revert X; k_fill; intro X
  refine wpAny_call ?_
  k_dflt (refine' code_defC ?k1 ?k2 ?k3 ?k4 ?k5 ?kA ?kF ?kK ?k6 ?k7 ?k8 ?k9 ?kB ?kD ?_ ?c2 ?c3 ?c4; (case kA => exact rfl); (case kF => exact rfl); (case kK => assumption); (case k1 => k_asm); (case k2 => k_asm); (case k3 => k_asm); (case k4 => k_asm); (case k5 => k_asm); (case k6 => k_is); (case k7 => k_is); (case k8 => ktr_room); (case k9 => exact BindsTo.of_eq rfl); (case kB => exact rfl); (case kD => decide +kernel); (case c2 => exact rfl); (case c3 => exact rfl); (case c4 => exact rfl); k_whole; intro g' L' h' tk' cells' FG' F' N' Y' B' X' T' l1; (have lR9 := allLt_tail l1); (try k_lt l1); k_cells Y'; (try simp only [List.cons_append, List.nil_append] at N'); (try dsimp only); (try k_lift B'); (try k_fold))
  k_steps
  all_goals first
    | exact absurd rfl (by assumption)
    | exact (end_some_beh (by assumption) (by assumption) (by assumption) (by assumption) (by assumption) (by assumption) (by assumption) (by assumption) ).elim
    | exact (end_none_bad (by assumption) (by assumption) (by assumption) (by assumption) (by assumption) (by assumption) (by assumption) (by assumption) (num_neg (by assumption) (by assumption) (by assumption) ) (by assumption) (by assumption) ).elim
    | exact (end_none_bad (by assumption) (by assumption) (by assumption) (by assumption) (by assumption) (by assumption) (by assumption) (by assumption) (num_pos (by assumption) (by assumption) (by assumption) ) (by assumption) (by assumption) ).elim
    | exact (end_some_hi (by assumption) (by assumption) (by assumption) (by assumption) (by assumption) (by assumption) (by assumption) (by assumption) (num_neg (by assumption) (by assumption) (by assumption) ) (by assumption) ).elim
    | exact (end_some_hi (by assumption) (by assumption) (by assumption) (by assumption) (by assumption) (by assumption) (by assumption) (by assumption) (num_pos (by assumption) (by assumption) (by assumption) ) (by assumption) ).elim
    | exact (end_some_lo (by assumption) (by assumption) (by assumption) (by assumption) (by assumption) (by assumption) (by assumption) (by assumption) (num_neg (by assumption) (by assumption) (by assumption) ) (by assumption) ).elim
    | exact (end_some_lo (by assumption) (by assumption) (by assumption) (by assumption) (by assumption) (by assumption) (by assumption) (by assumption) (num_pos (by assumption) (by assumption) (by assumption) ) (by assumption) ).elim
    | ((rename News _ _ _ _ => kN)
       first
         | refine hret _ ((src, _) :: rest) _ _ ⟨_, ⟨by assumption, rfl⟩, rfl⟩ (by assumption) (cb_drop kN ?_)
         | refine hret _ ((src, _) :: rest) _ _ ⟨_, ⟨by assumption, end_some_eq (by assumption) (by assumption) (by assumption) (by assumption) (by assumption) (by assumption) (by assumption) (by assumption) (num_neg (by assumption) (by assumption) (by assumption) ) (by assumption) (by assumption) ⟩, rfl⟩ (by assumption) (cb_drop kN ?_)
         | refine hret _ ((src, _) :: rest) _ _ ⟨_, ⟨by assumption, end_some_eq (by assumption) (by assumption) (by assumption) (by assumption) (by assumption) (by assumption) (by assumption) (by assumption) (num_pos (by assumption) (by assumption) (by assumption) ) (by assumption) (by assumption) ⟩, rfl⟩ (by assumption) (cb_drop kN ?_)
       intro p hp
       repeat' (first | exact hp | refine List.Mem.tail _ ?_))
end
section
theorem law_right_c {w : World} {src : Addr} {o : Obj} {led : List (Addr × Obj)} {g : Obj → List (Addr × Obj)} (hs : SrcOk o) (U : UpdF src o led g) :
    Ctr w 87 12 [.ref src] led (fun v news' => ∃ o', (SrcOk o' ∧ v = .bool true) ∧ news' = g o') :=
  Ctr.upd (P := fun v o' => SrcOk o' ∧ v = .bool true) U fun _ hr _ => law_right_raw hs hr
theorem src_made {c X : Int} {p : Prop} [Decidable p] {t u : Tok} {n : Nat} : SrcOk (listOf #[Value.int ((if -1 - c > c then -1 - c else c) * (if p then 1 else 0)) t, Value.int (X.fmod 2147483647) u] n) := by
  refine ⟨_, _, _, _, _, rfl, ?_, fmod_lo _ (by decide), fmod_hi _ (by decide)⟩
  split <;> split <;> omega
theorem whole_big : wholeOf (Str.ofString "9223372036854775808") = none := by decide +kernel
theorem whole_least : wholeOf (Str.ofString "-9223372036854775808") = some (-9223372036854775808) := by decide +kernel

local macro_rules | `(tactic| walk_at "call ref") => `(tactic| (k_here; (with_reducible show wpAny _ _ (call (Value.ref 49) _) _ _ _); k_dflt (
  refine' Ctr.use (whole_number_none ?p1 ?p2) ?k1 ?k2 ?k3 ?k4 ?k5 ?kK ?kd ?ku ?_
  (case k1 => k_asm); (case k2 => k_asm); (case k3 => k_asm); (case k4 => k_asm); (case k5 => k_asm); (case kK => first | exact rfl | assumption); (case kd => ktr_room); (case ku => ktr_units)
  (case p2 => with_reducible exact whole_big); (case p1 => decide +kernel)
  intro v9 news9 h9 tk9 R9 F9 N9
  obtain ⟨hv9, hn9⟩ := R9
  subst hv9 hn9; (try dsimp only); (try k_fold))))
local macro_rules | `(tactic| walk_at "call ref") => `(tactic| (k_here; (with_reducible show wpAny _ _ (call (Value.ref 49) _) _ _ _); k_dflt (
  refine' Ctr.use (whole_number_some ?p1 ?p2) ?k1 ?k2 ?k3 ?k4 ?k5 ?kK ?kd ?ku ?_
  (case k1 => k_asm); (case k2 => k_asm); (case k3 => k_asm); (case k4 => k_asm); (case k5 => k_asm); (case kK => first | exact rfl | assumption); (case kd => ktr_room); (case ku => ktr_units)
  (case p2 => with_reducible exact whole_least); (case p1 => decide +kernel)
  intro v9 news9 h9 tk9 R9 F9 N9
  obtain ⟨⟨u9, hv9⟩, hn9⟩ := R9
  subst hv9 hn9; (try dsimp only); (try k_fold))))
local macro_rules | `(tactic| walk_at "call ref") => `(tactic| (k_here; (with_reducible show wpAny _ _ (call (Value.ref 87) _) _ _ _); k_dflt (
  refine' Ctr.use (law_right_c ?p1 ?p2) ?k1 ?k2 ?k3 ?k4 ?k5 ?kK ?kd ?ku ?_
  (case k1 => k_asm); (case k2 => k_asm); (case k3 => k_asm); (case k4 => k_asm); (case k5 => k_asm); (case kK => first | exact rfl | assumption); (case kd => ktr_room); (case ku => ktr_units)
  (case p2 => k_updF); (case p1 => exact src_made)
  intro v9 news9 h9 tk9 R9 F9 N9
  obtain ⟨o9, ⟨so9, hv9⟩, hn9⟩ := R9
  subst hv9 hn9; (try dsimp only at N9); (try dsimp only); (try k_fold))))
local macro_rules | `(tactic| k_all) => `(tactic| (intro p9 hp9; exact Nat.ne_of_gt (by assumption)))

theorem it_holds : PySem.Challenge.rw_xm0744_01.Holds := Mine.hd (by
  k_with_none
  k_go0
  all_goals (try k_fold)
  k_steps
  (all_goals (try k_data))
  all_goals w_report)
end
end Mine
theorem PySem.Challenge.cw_xm0744_01_holds : PySem.Challenge.rw_xm0744_01.Holds :=
  Mine.it_holds
