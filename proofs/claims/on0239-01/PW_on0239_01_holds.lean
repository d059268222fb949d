import PyProof.Rows.All
import Wide.All
import OpenK.AllK
import Wide.FinOn
import PySem.Challenge.RW_on0239_01
open PySem PySem.W PyProof.Rows
set_option Elab.async false
set_option maxRecDepth 100000
set_option maxHeartbeats 8000000
set_option linter.all false
set_option compiler.extract_closed false
section
namespace Mine
/-- the statements of the text, less the bindings of __name__ and the def fraction -/
def hdPick (b : List Stmt) : List Stmt := (b.take 4).drop 1 ++ (b.take 8).drop 5 ++ (b.take 13).drop 9 ++ (b.take 18).drop 14 ++ b.drop 19
noncomputable abbrev hdRow : RowW := PySem.Challenge.rw_on0239_01.row.toRowW
def hdView : Program := { PySem.Challenge.rw_on0239_01.row.toRowW.1 with main := { PySem.Challenge.rw_on0239_01.row.toRowW.1.main with body := hdPick PySem.Challenge.rw_on0239_01.row.toRowW.1.main.body } }
section
local macro_rules | `(tactic| o_head $H) => `(tactic| assumption)
/-- lays the written part of the heap (the constant hd0.heap_1) -/
theorem hd0 (h : PySem.Challenge.rw_on0239_01.row.Holds) : PySem.Challenge.rw_on0239_01.row.Holds := by k_head
end
/-- the addresses of the written part -/
def hdKeys : List Addr := [2, 3, 15, 22, 24, 25, 27, 28, 29, 30, 31, 32, 35, 42, 43, 44, 47, 54, 56, 57, 59, 60, 61, 62, 63, 66, 68, 69, 71, 72, 73, 74, 76, 77, 79, 80, 88, 90, 91, 93, 94, 95, 97, 98, 100, 101, 102, 104, 105, 107, 108, 109, 111, 112, 114, 115, 116, 117, 118, 119, 120, 123, 125, 126, 128, 129, 130, 132, 133, 135, 136, 137, 139, 140, 142, 143, 151, 153, 154, 156, 157, 158, 160, 161, 163, 164, 165, 167, 168, 170, 171, 172, 174, 175, 177, 178, 179, 181, 182, 184, 185, 186, 188, 189, 191, 192, 193, 195, 196, 198, 199, 200, 202, 203, 205, 206, 207, 209, 210, 212, 213, 214, 216, 217, 219, 220, 221, 223, 224, 226, 227, 228, 230, 231, 233, 234, 235, 236, 237, 238, 239, 242, 244, 245, 247, 248, 249, 251, 252, 254, 255, 256, 258, 259, 261, 262, 263, 266, 267, 268, 270, 271, 273, 274, 275, 277, 278, 280, 281, 282, 284, 285, 287, 288, 289, 291, 292, 294, 295, 296, 298, 299, 301, 302, 303, 305, 306, 308, 309, 310, 313, 314, 315, 318, 319]
theorem hdKeysEq : ∀ P, hdKeys = (Mine.hd0.heap_1 P).map (·.1) := fun _ => by kernel_rfl
theorem hdSaid : PySem.Challenge.rw_on0239_01.wellSaid = true := by
  rw [PySem.W.Fast.te9446332074065402090]
  kernel_rfl
theorem hdLeft : LeftO PySem.Challenge.rw_on0239_01.row.toRowW.prog Mine.hdView [PySem.Str.ofString "fraction"] (fun s => xlAt Mine.hdView [] s && recOk (RowW.records PySem.Challenge.rw_on0239_01.row.toRowW) s) (Hook.obs (kHook Mine.hd0.heap_1 hdKeys hdKeysEq)) (Hook.val (kHook Mine.hd0.heap_1 hdKeys hdKeysEq)) 4528 := by
  intro w
  unfold openEnds topFrom
  rw [PySem.W.Fast.te14082659384304107361, PySem.W.Fast.te14364793385576792824, PySem.W.Fast.te4187177175401517315]
  kernel_rfl
section
local macro_rules | `(tactic| o_law) => `(tactic| refine holds_law Mine.hdSaid fun said => ?_)
local macro_rules | `(tactic| k_head) => `(tactic|
  refine holds_open (q := Mine.hdView) (loose := [PySem.Str.ofString "fraction"]) (Xt := fun s => xlAt Mine.hdView [] s && recOk (RowW.records PySem.Challenge.rw_on0239_01.row.toRowW) s) (XP := XL Mine.hdView []) (Yf := Hook.obs (kHook Mine.hd0.heap_1 Mine.hdKeys Mine.hdKeysEq)) (Ya := Hook.val (kHook Mine.hd0.heap_1 Mine.hdKeys Mine.hdKeysEq)) (YP := Hook.says (kHook Mine.hd0.heap_1 Mine.hdKeys Mine.hdKeysEq)) (N := 4528) Mine.hdLeft (Hook.of (kHook Mine.hd0.heap_1 Mine.hdKeys Mine.hdKeysEq)) (Hook.keeps (kHook Mine.hd0.heap_1 Mine.hdKeys Mine.hdKeysEq)) (fun s e => xl_of s (Bool.and_eq_true_iff.mp e).1) XL.keeps (by rfl) (by rfl) (by rfl) (fun s e => recFacts_of (Bool.and_eq_true_iff.mp e).2) (by rfl) (by first | assumption | decide +kernel) (by decide +kernel) ⟨rfl, rfl, rfl, rfl, rfl, by decide +kernel⟩ ?hw ?hc)
open_top hd for PySem.Challenge.rw_on0239_01
end
end Mine

end
section
namespace Mine
def has (S : Str) (c : Nat) : Bool := decide (c ∈ S.cps.toList)
def runL (S : Str) (l : List Nat) : Nat := (l.takeWhile (has S)).length
@[irreducible] def run (S T : Str) (p : Int) : Int := p + runL S (T.cps.toList.drop p.toNat)
theorem len_toList (T : Str) : T.cps.toList.length = T.length := by
  show _ = T.cps.size
  simp
theorem occ_item (S T : Str) (p : Int) : (Builtin.Str.occurrences S (Txt.item T p) 0 S.length 1).isEmpty = !has S ((Txt.charAt T p).getD 0) := by
  have h := PySem.StrLaws.found_one S ((Txt.charAt T p).getD 0)
  rw [show (Txt.item T p) = (⟨#[(Txt.charAt T p).getD 0]⟩ : Str) from rfl]
  unfold has
  rw [← h, Bool.not_not]
theorem code_at {T : Str} {p : Int} (h0 : 0 ≤ p) (h1 : p < T.length) : ∃ c, (Txt.charAt T p).getD 0 = c ∧ T.cps.toList.drop p.toNat = c :: T.cps.toList.drop (p + 1).toNat := by
  obtain ⟨c, hc⟩ := PySem.StrLaws.some_at h0 h1
  refine ⟨c, ?_, ?_⟩
  · have := PySem.StrLaws.at_nonneg h0 hc
    show (Option.bind _ _).getD 0 = c
    rw [this]; rfl
  · have hl : p.toNat < T.cps.toList.length := by rw [len_toList]; omega
    rw [List.drop_eq_getElem_cons hl]
    have e : (p + 1).toNat = p.toNat + 1 := by omega
    rw [e]
    congr 1
    have := Array.getElem?_toList (xs := T.cps) (i := p.toNat)
    rw [hc, List.getElem?_eq_getElem hl] at this
    exact Option.some.inj this
theorem run_end {S T : Str} {p : Int} (h1 : ¬ p < T.length) : run S T p = p := by
  unfold run
  rw [List.drop_eq_nil_of_le (by rw [len_toList]; omega)]
  simp [runL]
theorem run_stop {S T : Str} {p : Int} (h0 : 0 ≤ p) (h1 : p < T.length) (h : (Builtin.Str.occurrences S (Txt.item T p) 0 S.length 1).isEmpty = true) : run S T p = p := by
  rw [occ_item, Bool.not_eq_true'] at h
  obtain ⟨c, hc, hd⟩ := code_at h0 h1
  unfold run
  rw [hd, runL, List.takeWhile_cons, ← hc, h]
  simp
theorem run_step {S T : Str} {p : Int} (h0 : 0 ≤ p) (h1 : p < T.length) (h : (Builtin.Str.occurrences S (Txt.item T p) 0 S.length 1).isEmpty = false) : run S T (p + 1) = run S T p := by
  rw [occ_item, Bool.not_eq_false'] at h
  obtain ⟨c, hc, hd⟩ := code_at h0 h1
  unfold run
  rw [hd, runL, runL, List.takeWhile_cons, ← hc, h]
  simp only [if_true, List.length_cons]
  omega
theorem run_ge {S T : Str} {p : Int} : p ≤ run S T p := by
  unfold run; omega
theorem run_le {S T : Str} {p : Int} (h0 : 0 ≤ p) (h1 : p ≤ T.length) : run S T p ≤ T.length := by
  unfold run
  have : runL S (T.cps.toList.drop p.toNat) ≤ (T.cps.toList.drop p.toNat).length := List.Sublist.length_le (List.takeWhile_sublist _)
  rw [List.length_drop, len_toList] at this
  omega
/-- the sign at p -/
def cd (T : Str) (p : Int) : Nat := (Txt.charAt T p).getD 0
theorem item_cd (T : Str) (p : Int) : Txt.item T p = ⟨#[cd T p]⟩ := rfl
theorem slice_in {T : Str} {p : Int} (h0 : 0 ≤ p) (h1 : p < T.length) : Txt.slice T (some p) (some (p + 1)) = ⟨#[cd T p]⟩ := by
  have e : Txt.slice T (some p) (some (p + 1)) = PySem.StrLaws.sliceText T (some p) (some (p + 1)) := rfl
  rw [e, PySem.StrLaws.sliceText_plain ⟨h0, by omega, by rw [len_toList]; omega⟩]
  obtain ⟨c, hc, hd⟩ := code_at h0 h1
  have h2 : (p + 1 - p).toNat = 1 := by omega
  rw [hd, h2]
  show (⟨[c].toArray⟩ : Str) = _
  unfold cd
  rw [hc]
theorem slice_clip {T : Str} {p q : Int} (h0 : 0 ≤ p) (h1 : 0 ≤ q) : Txt.slice T (some p) (some q) = Txt.slice T (some (min p T.length)) (some (min q T.length)) := by
  have e : Builtin.Str.strSliceIndices (some p) (some q) 1 T.length = Builtin.Str.strSliceIndices (some (min p T.length)) (some (min q T.length)) 1 T.length := by
    unfold Builtin.Str.strSliceIndices
    have a1 : ¬ p < 0 := by omega
    have a2 : ¬ q < 0 := by omega
    have a3 : ¬ min p (T.length : Int) < 0 := by omega
    have a4 : ¬ min q (T.length : Int) < 0 := by omega
    simp only [a1, a2, a3, a4, if_false]
    congr 1 <;> simp
  unfold Txt.slice
  rw [e]
theorem slice_gen {T : Str} {p q : Int} (h0 : 0 ≤ p) (h1 : p ≤ q) (h2 : q ≤ T.length) : Txt.slice T (some p) (some q) = ⟨((T.cps.toList.drop p.toNat).take (q - p).toNat).toArray⟩ :=
  PySem.StrLaws.sliceText_plain ⟨h0, h1, by rw [len_toList]; exact h2⟩
theorem slice_out {T : Str} {p q : Int} (h1 : (T.length : Int) ≤ p) (hp : p ≤ q) : Txt.slice T (some p) (some q) = ⟨#[]⟩ := by
  rw [slice_clip (by omega) (by omega), slice_gen (by omega) (by omega) (by omega)]
  have e : (min q (T.length : Int) - min p T.length).toNat = 0 := by
    rw [Int.min_eq_right (Int.le_trans h1 hp), Int.min_eq_right h1, Int.sub_self]
    rfl
  rw [e, List.take_zero]
theorem run_stop' {S T : Str} {p : Int} (h0 : 0 ≤ p) (h1 : p < T.length) (h : has S (cd T p) = false) : run S T p = p := by
  refine run_stop h0 h1 ?_
  rw [occ_item, show (Txt.charAt T p).getD 0 = cd T p from rfl, h]; rfl
theorem run_step' {S T : Str} {p : Int} (h0 : 0 ≤ p) (h1 : p < T.length) (h : has S (cd T p) = true) : run S T (p + 1) = run S T p := by
  refine run_step h0 h1 ?_
  rw [occ_item, show (Txt.charAt T p).getD 0 = cd T p from rfl, h]; rfl
theorem found_has (S : Str) (c : Nat) : (!(Builtin.Str.occurrences S ⟨#[c]⟩ 0 S.length 1).isEmpty) = has S c := PySem.StrLaws.found_one S c
theorem run_stop2 {S T : Str} {p : Int} {c : Nat} (h0 : 0 ≤ p) (h1 : p < T.length) (hc : cd T p = c) (h : has S c = false) : run S T p = p := run_stop' h0 h1 (by rw [hc]; exact h)
theorem run_step2 {S T : Str} {p : Int} {c : Nat} (h0 : 0 ≤ p) (h1 : p < T.length) (hc : cd T p = c) (h : has S c = true) : run S T (p + 1) = run S T p := run_step' h0 h1 (by rw [hc]; exact h)
abbrev BL : Str := Str.ofString " \t\n\r\x0c"
abbrev DG : Str := Str.ofString "0123456789"
abbrev PM : Str := Str.ofString "+-." ++ Str.ofString "0123456789"
abbrev LS : Str := Str.ofString "MmLlHhVvCcSsQqTtAaZz"
theorem one_eq {S : Str} {d : Nat} (h : S = ⟨#[d]⟩) (c : Nat) : (S == (⟨#[c]⟩ : Str)) = decide (c = d) := by
  subst h
  rw [Bool.eq_iff_iff, beq_iff_eq, decide_eq_true_eq]
  constructor
  · intro e; simpa using (congrArg Str.cps e).symm
  · rintro rfl; rfl
theorem one_eq' {S : Str} {d : Nat} (h : S = ⟨#[d]⟩) (c : Nat) : ((⟨#[c]⟩ : Str) == S) = decide (c = d) := by
  rw [← one_eq h c, Bool.eq_iff_iff, beq_iff_eq, beq_iff_eq]
  exact eq_comm
theorem one_ne {S : Str} {d : Nat} (h : S = ⟨#[d]⟩) (c : Nat) : ((⟨#[c]⟩ : Str) != S) = !decide (c = d) := by
  rw [bne, one_eq' h]
theorem two_any {S S' : Str} {d d' : Nat} (h : S = ⟨#[d]⟩) (h' : S' = ⟨#[d']⟩) (c : Nat) : ([S, S'].any fun x => x == (⟨#[c]⟩ : Str)) = decide (c = d ∨ c = d') := by
  simp only [List.any_cons, List.any_nil, Bool.or_false, one_eq h, one_eq h']
  rw [Bool.eq_iff_iff, Bool.or_eq_true, decide_eq_true_eq, decide_eq_true_eq, decide_eq_true_eq]
theorem s_comma : Str.ofString "," = ⟨#[44]⟩ := by decide +kernel
theorem s_dot : Str.ofString "." = ⟨#[46]⟩ := by decide +kernel
theorem s_e : Str.ofString "e" = ⟨#[101]⟩ := by decide +kernel
theorem s_E : Str.ofString "E" = ⟨#[69]⟩ := by decide +kernel
theorem s_plus : Str.ofString "+" = ⟨#[43]⟩ := by decide +kernel
theorem s_minus : Str.ofString "-" = ⟨#[45]⟩ := by decide +kernel
theorem s_0 : Str.ofString "0" = ⟨#[48]⟩ := by decide +kernel
theorem s_1 : Str.ofString "1" = ⟨#[49]⟩ := by decide +kernel
theorem s_nil : Str.ofString "" = ⟨#[]⟩ := by decide +kernel

/-- a separator with one comma: is there one, and where it stands behind -/
@[irreducible] def sep (T : Str) (p : Int) : Bool × Int := if run BL T p < T.length ∧ cd T (run BL T p) = 44 then (true, run BL T (run BL T p + 1)) else (false, run BL T p)
theorem sep_no {T : Str} {p q : Int} {c : Nat} (hq : run BL T p = q) (hc : cd T q = c) (h : ((⟨#[c]⟩ : Str) != Str.ofString ",") = true) : sep T p = (false, q) := by
  rw [one_ne s_comma] at h
  unfold sep
  rw [hq, hc, if_neg]
  simp only [Bool.not_eq_true', decide_eq_false_iff_not] at h
  exact fun x => h x.2
theorem sep_yes {T : Str} {p q r : Int} {c : Nat} (hq : run BL T p = q) (hl : q < T.length) (hc : cd T q = c) (h : ((⟨#[c]⟩ : Str) != Str.ofString ",") = false) (hr : run BL T (q + 1) = r) : sep T p = (true, r) := by
  rw [one_ne s_comma] at h
  unfold sep
  simp only [Bool.not_eq_false', decide_eq_true_eq] at h
  rw [hq, hc, if_pos ⟨hl, h⟩, hr]
theorem sep_end {T : Str} {p q : Int} (hq : run BL T p = q) (hl : ¬ q < T.length) : sep T p = (false, q) := by
  unfold sep
  rw [hq, if_neg (fun x => hl x.1)]
/-- does a number look to come -/
@[irreducible] def looks (T : Str) (p : Int) : Bool := decide (p < T.length) && has PM (cd T p)
theorem looks_in {T : Str} {p : Int} {c : Nat} (hl : p < T.length) (hc : cd T p = c) : has PM c = looks T p := by
  unfold looks
  rw [hc]; simp [hl]
theorem looks_out {T : Str} {p : Int} (hl : ¬ p < T.length) : false = looks T p := by
  unfold looks
  simp [hl]
/-- behind a sign, if one stands there -/
@[irreducible] def sgn (T : Str) (p : Int) : Int := if p < T.length ∧ (cd T p = 43 ∨ cd T p = 45) then p + 1 else p
theorem sgn_yes {T : Str} {p : Int} {c : Nat} (hl : p < T.length) (hc : cd T p = c) (h : ([Str.ofString "+", Str.ofString "-"].any fun x => x == (⟨#[c]⟩ : Str)) = true) : sgn T p = p + 1 := by
  rw [two_any s_plus s_minus, decide_eq_true_eq] at h
  unfold sgn
  rw [hc, if_pos ⟨hl, h⟩]
theorem sgn_no {T : Str} {p : Int} {c : Nat} (hc : cd T p = c) (h : ([Str.ofString "+", Str.ofString "-"].any fun x => x == (⟨#[c]⟩ : Str)) = false) : sgn T p = p := by
  rw [two_any s_plus s_minus, decide_eq_false_iff_not] at h
  unfold sgn
  rw [hc, if_neg fun x => h x.2]
theorem sgn_end {T : Str} {p : Int} (hl : ¬ p < T.length) : sgn T p = p := by
  unfold sgn
  rw [if_neg fun x => hl x.1]
/-- behind an exponent, if a whole one stands there -/
@[irreducible] def expo (T : Str) (p : Int) : Int :=
  if p < T.length ∧ (cd T p = 101 ∨ cd T p = 69) then (if sgn T (p + 1) < run DG T (sgn T (p + 1)) then run DG T (sgn T (p + 1)) else p) else p
theorem expo_no {T : Str} {p : Int} {c : Nat} (hc : cd T p = c) (h : ([Str.ofString "e", Str.ofString "E"].any fun x => x == (⟨#[c]⟩ : Str)) = false) : expo T p = p := by
  rw [two_any s_e s_E, decide_eq_false_iff_not] at h
  unfold expo
  rw [hc, if_neg fun x => h x.2]
theorem expo_end {T : Str} {p : Int} (hl : ¬ p < T.length) : expo T p = p := by
  unfold expo
  rw [if_neg fun x => hl x.1]
theorem expo_is {T : Str} {p b q : Int} {c : Nat} (hl : p < T.length) (hc : cd T p = c) (h : ([Str.ofString "e", Str.ofString "E"].any fun x => x == (⟨#[c]⟩ : Str)) = true) (hb : sgn T (p + 1) = b) (hq : run DG T b = q) : expo T p = if b < q then q else p := by
  rw [two_any s_e s_E, decide_eq_true_eq] at h
  unfold expo
  rw [hc, if_pos ⟨hl, h⟩, hb, hq]
theorem ne_of {S : Str} {d c : Nat} (hs : S = ⟨#[d]⟩) (h : ((⟨#[c]⟩ : Str) != S) = true) : c ≠ d := by
  rw [one_ne hs] at h; simpa using h
theorem eq_of {S : Str} {d c : Nat} (hs : S = ⟨#[d]⟩) (h : ((⟨#[c]⟩ : Str) != S) = false) : c = d := by
  rw [one_ne hs] at h; simpa using h
theorem eq_of' {S : Str} {d c : Nat} (hs : S = ⟨#[d]⟩) (h : ((⟨#[c]⟩ : Str) == S) = true) : c = d := by
  rw [one_eq' hs] at h; simpa using h
theorem ne_of' {S : Str} {d c : Nat} (hs : S = ⟨#[d]⟩) (h : ((⟨#[c]⟩ : Str) == S) = false) : c ≠ d := by
  rw [one_eq' hs] at h; simpa using h
end Mine

end
section
namespace Mine
noncomputable abbrev prg : Program := PySem.Challenge.rw_on0239_01.row.prog
noncomputable abbrev vw : Program := Mine.hdView
noncomputable abbrev lo : List Str := looseW Mine.hdView [Str.ofString "fraction"]
noncomputable abbrev KF (w : World) : Frag := Mine.hd0.heap_1 w.params
abbrev Led := List (Addr × Obj)
/-- the caller's surroundings -/
abbrev top (hd : Option Value) (dp un : Nat) (gd : Option (List Code)) (cn : Str) (cs : Scope) (L a : Addr) (ccd : Value) (cl : List (Str × Addr)) (outer : List Env) : Around :=
  { handled := hd, depth := dp, frames := some (envX cn cs L a ccd cl :: outer), guards := gd, units := un }
/-- a contract of the def at address f for the arguments vs, over the ledger led: what it asks (pre), and what it hands on (post) -/
noncomputable def Ctr (w : World) (f : Addr) (led : Led) (vs : List Value) (cost : Nat) (post : (Value → Led → Prop) → Prop) : Prop :=
  ∀ (mean : ExcName → Option Value) (mg mb : Str → Option Value) (hd : Option Value) (dp un : Nat) (gd : Option (List Code)) (cn : Str) (cs : Scope) (a : Addr) (ccd : Value) (cl : List (Str × Addr)) (outer : List Env) (A₀ : Around) (base h₀ : Heap) (L : Addr) (m : Str → Option Value) (sh : Heap) (sg : Array GenState) (sd : Drawn) (sk : Nat) (so : OsState)
    (Q E : Value → Shared → Prop),
    Below A₀ base outer h₀ → Fr h₀ L sh m → (Mine.hd0.heap_1 w.params).In h₀ → News h₀ L sh led → Top vw lo mean mg mb h₀ → cs.kind = .function → dp + cost < recursionLimit → un + 8 * cost < cLine →
    post (fun r led' => ∀ h' tk', Fr h₀ L h' m → News h₀ L h' led' → Q r ⟨h', sg, sd, tk', so⟩) →
    wpAny (model prg w) (top hd dp un gd cn cs L a ccd cl outer) (call (.ref f) vs) Q E ⟨sh, sg, sd, sk, so⟩
end Mine
namespace Mine
noncomputable abbrev scD (w : World) (k1 : Tok) (T : Str) (t1 k2 : Tok) (p : Int) (t2 : Tok) : Obj :=
  dictOf [⟨PyData.keyHash w.params (Str.ofString "text"), .str (Str.ofString "text") k1, .str T t1⟩, ⟨PyData.keyHash w.params (Str.ofString "at"), .str (Str.ofString "at") k2, .int p t2⟩] 2
end Mine
namespace Mine
open PySem.Calls PySem.Spec
/-- the walk stops here -/
structure Stop (P : Prop) : Prop where
  go : P
def WEnd (h₀ : Heap) (L : Addr) (s : Shared) (J : Nat → (Str → Option Value) → Led → Prop) (Q : Flow → Shared → Prop) (n : Nat) (f : Flow) (s₃ : Shared) : Prop :=
  match f with
  | .next => Stop (WhileStep2 h₀ L s J Q n .next s₃)
  | .cont => Stop (WhileStep2 h₀ L s J Q n .cont s₃)
  | .brk => Q .next s₃
  | .ret v => Q (.ret v) s₃
theorem while_mine {prog : Program} {w : World} {A : Around} {E : Value → Shared → Prop} {Q : Flow → Shared → Prop} {s : Shared} {env : Env} {h₀ : Heap} {L : Addr} {test : Expr} {body : List Stmt} {pos : Pos} {m : Str → Option Value} {news : Led} (J : Nat → (Str → Option Value) → Led → Prop) {n₀ : Nat}
    (F : Fr h₀ L s.heap m) (N : News h₀ L s.heap news) (hJ : J n₀ m news)
    (turn : ∀ n m₁ news₁ h₁ tk₁, Fr h₀ L h₁ m₁ → News h₀ L h₁ news₁ → J n m₁ news₁ →
      wpAny (model prog w) A (isTrue test env (eval test env)) (fun b s₂ =>
        if b = true then wpAny (model prog w) A (execs body env) (WEnd h₀ L s J Q n) E s₂ else Q .next s₂) E { s with heap := h₁, toks := tk₁ })
    (hE : PassesOwn (model prog w) A env E) :
    wpAny (model prog w) A (exec (.While test body [] pos) env) Q E s := by
  refine While_inv2 J F N hJ (fun n m₁ news₁ h₁ tk₁ F₁ N₁ J₁ => wpAny_mono (turn n m₁ news₁ h₁ tk₁ F₁ N₁ J₁) (fun b s₂ h₂ => ?_) fun _ _ x => x) hE
  cases b with
  | false => exact h₂
  | true =>
    simp only [if_true] at h₂ ⊢
    refine wpAny_mono h₂ (fun f s₃ h₃ => ?_) fun _ _ x => x
    cases f with
    | next => exact h₃.go
    | cont => exact h₃.go
    | brk => exact h₃
    | ret v => exact h₃
theorem wend {h₀ h' : Heap} {L : Addr} {s : Shared} {J : Nat → (Str → Option Value) → Led → Prop} {Q : Flow → Shared → Prop} {n n' : Nat} {tk : Nat} {m₂ : Str → Option Value} {news₂ : Led}
    (F : Fr h₀ L h' m₂) (N : News h₀ L h' news₂) (hJ : J n' m₂ news₂) (hn : n' < n) : Stop (WhileStep2 h₀ L s J Q n .next { s with heap := h', toks := tk }) :=
  ⟨⟨h', tk, m₂, news₂, n', rfl, F, N, hn, hJ⟩⟩
section
variable {h₀ h : Heap} {L : Addr} {a b c d e f g i x y : Addr × Obj} {r : Led}
theorem nf1 (N : News h₀ L h (a :: x :: y :: r)) : News h₀ L h (x :: y :: a :: r) := fun p hp => N p (by simp only [List.mem_cons] at hp ⊢; rcases hp with h | h | h | h <;> simp [h])
theorem nf2 (N : News h₀ L h (a :: b :: x :: y :: r)) : News h₀ L h (x :: y :: a :: b :: r) := fun p hp => N p (by simp only [List.mem_cons] at hp ⊢; rcases hp with h | h | h | h | h <;> simp [h])
theorem nf3 (N : News h₀ L h (a :: b :: c :: x :: y :: r)) : News h₀ L h (x :: y :: a :: b :: c :: r) := fun p hp => N p (by simp only [List.mem_cons] at hp ⊢; rcases hp with h | h | h | h | h | h <;> simp [h])
theorem nf4 (N : News h₀ L h (a :: b :: c :: d :: x :: y :: r)) : News h₀ L h (x :: y :: a :: b :: c :: d :: r) := fun p hp => N p (by simp only [List.mem_cons] at hp ⊢; rcases hp with h | h | h | h | h | h | h <;> simp [h])
theorem nf5 (N : News h₀ L h (a :: b :: c :: d :: e :: x :: y :: r)) : News h₀ L h (x :: y :: a :: b :: c :: d :: e :: r) := fun p hp => N p (by simp only [List.mem_cons] at hp ⊢; rcases hp with h | h | h | h | h | h | h | h <;> simp [h])
theorem nf6 (N : News h₀ L h (a :: b :: c :: d :: e :: f :: x :: y :: r)) : News h₀ L h (x :: y :: a :: b :: c :: d :: e :: f :: r) := fun p hp => N p (by simp only [List.mem_cons] at hp ⊢; rcases hp with h | h | h | h | h | h | h | h | h <;> simp [h])
theorem ng1 (N : News h₀ L h (a :: x :: r)) : News h₀ L h (x :: a :: r) := fun p hp => N p (by simp only [List.mem_cons] at hp ⊢; rcases hp with h | h | h <;> simp [h])
theorem ng2 (N : News h₀ L h (a :: b :: x :: r)) : News h₀ L h (x :: a :: b :: r) := fun p hp => N p (by simp only [List.mem_cons] at hp ⊢; rcases hp with h | h | h | h <;> simp [h])
theorem ng3 (N : News h₀ L h (a :: b :: c :: x :: r)) : News h₀ L h (x :: a :: b :: c :: r) := fun p hp => N p (by simp only [List.mem_cons] at hp ⊢; rcases hp with h | h | h | h | h <;> simp [h])
theorem ng4 (N : News h₀ L h (a :: b :: c :: d :: x :: r)) : News h₀ L h (x :: a :: b :: c :: d :: r) := fun p hp => N p (by simp only [List.mem_cons] at hp ⊢; rcases hp with h | h | h | h | h | h <;> simp [h])
theorem ng5 (N : News h₀ L h (a :: b :: c :: d :: e :: x :: r)) : News h₀ L h (x :: a :: b :: c :: d :: e :: r) := fun p hp => N p (by simp only [List.mem_cons] at hp ⊢; rcases hp with h | h | h | h | h | h | h <;> simp [h])
theorem ng6 (N : News h₀ L h (a :: b :: c :: d :: e :: f :: x :: r)) : News h₀ L h (x :: a :: b :: c :: d :: e :: f :: r) := fun p hp => N p (by simp only [List.mem_cons] at hp ⊢; rcases hp with h | h | h | h | h | h | h | h <;> simp [h])
end
theorem use {w : World} {fn : Addr} {led : Led} {vs : List Value} {cost : Nat} {post : (Value → Led → Prop) → Prop} (C : Ctr w fn led vs cost post)
    {mean : ExcName → Option Value} {mg mb : Str → Option Value} {hd : Option Value} {dp un : Nat} {gd : Option (List Code)} {cn : Str} {cs : Scope} {a : Addr} {ccd : Value} {cl : List (Str × Addr)} {outer : List Env} {A₀ : Around} {base h₀ : Heap} {L : Addr} {m : Str → Option Value} {s : Shared} {Q E : Value → Shared → Prop}
    {A : Around} {av : List Value} (hV : av = vs) (hA : A = top hd dp un gd cn cs L a ccd cl outer) (B : Below A₀ base outer h₀) (F : Fr h₀ L s.heap m) (X : (Mine.hd0.heap_1 w.params).In h₀) (N : News h₀ L s.heap led) (T : Top vw lo mean mg mb h₀) (K : cs.kind = .function) (D : dp + cost < recursionLimit) (U : un + 8 * cost < cLine)
    (hret : post (fun r led' => ∀ h' tk', Fr h₀ L h' m → News h₀ L h' led' → Q r { s with heap := h', toks := tk' })) :
    wpAny (model prg w) A (call (.ref fn) av) Q E s :=
  by subst hA hV; exact C _ _ _ _ _ _ _ _ _ _ _ _ _ _ _ _ _ _ _ _ _ _ _ _ _ B F X N T K D U hret
section
variable {prog : Program} {w : World} {A : Around} {E : Value → Shared → Prop} {s : Shared} {value slice : Expr} {x : Str} {t u : Tok} {h₀ : Heap} {L : Addr} {m : Str → Option Value} {news : Led} {Q : Value → Shared → Prop}
theorem slice_pk {i : Int} {ui uj : Tok} (h0 : 0 ≤ i) (hF : Fr h₀ L s.heap m) (hN : News h₀ L s.heap news)
    (hin : i < x.length → ∀ c h' t' k, cd x i = c → Fr h₀ L h' m → News h₀ L h' news → Q (.str ⟨#[c]⟩ t') { s with heap := h', toks := k })
    (hout : ¬ i < x.length → ∀ h' t' k, Fr h₀ L h' m → News h₀ L h' news → Q (.str ⟨#[]⟩ t') { s with heap := h', toks := k })
    (hs : subscripted slice false (.str x t) (.ref s.heap.objs.size) = operate [.ref s.heap.objs.size, .str x t] (getItem (.str x t) (.ref s.heap.objs.size)))
    (ht : ∀ r, letTemporaryGo value (.str x t) r = pure ()) (hsz : x.length ≤ sizeLine) :
    wpAny (model prog w) A (subscriptTail value slice (.str x t) (.ref s.heap.objs.size)) Q E { s with heap := s.heap.push { cls := .type "slice", data := .fields #[.int i ui, .int (i + 1) uj, .none] } } := by
  refine slice_strN_ss hF hN (fun h' t' k F' N' => ?_) hs ht hsz
  by_cases h1 : i < x.length
  · rw [slice_in h0 h1]
    exact hin h1 _ h' t' k rfl F' N'
  · rw [slice_out (by omega) (by omega)]
    exact hout h1 h' t' k F' N'
theorem item_at {i : Int} (h0 : 0 ≤ i) (h1 : i < x.length) (hfit : x.length ≤ 1000)
    (h : ∀ c, cd x i = c → Q (.str ⟨#[c]⟩ s.toks) { s with toks := s.toks + 1 })
    (hs : subscripted slice false (.str x t) (.int i u) = operate [.str x t, .int i u] (getItem (.str x t) (.int i u)))
    (ht : ∀ r, letTemporaryGo value (.str x t) r = pure ()) :
    wpAny (model prog w) A (subscriptTail value slice (.str x t) (.int i u)) Q E s :=
  item_str (fitsSsize_of (N := 9223372036854775808) (by omega) (by omega) (Int.le_refl _)) (by omega) (by omega) (fun _ => h _ rfl) hs ht
theorem in_one {c : Nat} (h : Q (.bool (has x c)) s) : wpAny (model prog w) A (compareOp .In (.str ⟨#[c]⟩ u) (.str x t)) Q E s := by
  refine PyProof.Rows.in_str ?_
  rw [found_has]
  exact h
theorem notin_one {c : Nat} (h : Q (.bool (!has x c)) s) : wpAny (model prog w) A (compareOp .NotIn (.str ⟨#[c]⟩ u) (.str x t)) Q E s := by
  refine PyProof.Rows.notIn_str ?_
  rw [found_has]
  exact h
end
end Mine
namespace Mine
/-- what is to be shown behind is named -/
theorem foldQ {α : Type} {M : Model} {A : Around} {t : Sem α} {Q : α → Shared → Prop} {E : Value → Shared → Prop} {s : Shared} (h : let Q' := Q; wpAny M A t Q' E s) : wpAny M A t Q E s := h
theorem chkQ {α : Type} {M : Model} {A : Around} {t : Sem α} {Q : α → Shared → Prop} {E : Value → Shared → Prop} {s s' : Shared} {v : α} (hf : False) (_ : Q v s') : wpAny M A t Q E s := hf.elim
end Mine
namespace Mine
open PySem.Calls PySem.Spec
/-- a store in a frame's map -/
abbrev upd (m : Str → Option Value) (x : Str) (v : Value) : Str → Option Value := fun y => if y = x then some v else m y
section
variable {M : Model} {A : Around} {E : Value → Shared → Prop} {s : Shared} {h₀ : Heap} {L a : Addr} {m : Str → Option Value} {news : Led} {x : Str} {v : Value} {cn : Str} {cs : Scope} {ccd : Value} {cl : List (Str × Addr)} {Q : Unit → Shared → Prop}
theorem store_upd (F : Fr h₀ L s.heap m) (N : News h₀ L s.heap news) (h : let m' := upd m x v; ∀ h', Fr h₀ L h' m' → News h₀ L h' news → Q () { s with heap := h', toks := s.toks + 1 })
    (hk : cs.kind = .function) (hx : (envX cn cs L a ccd cl).kindOf x = some .local) : wpAny M A (storeName (envX cn cs L a ccd cl) x v) Q E s := storeX_L F N h hk hx
end
/-- what holds behind a statement, for all its ways -/
def Join (g : Heap) (L : Addr) (s : Shared) (R : (Str → Option Value) → Led → Prop) (f : Flow) (s' : Shared) : Prop :=
  ∃ m led h tk, f = .next ∧ s' = ⟨h, s.gens, s.drawn, tk, s.os⟩ ∧ Fr g L h m ∧ News g L h led ∧ R m led
theorem join {M : Model} {A : Around} {t : Sem Flow} {E : Value → Shared → Prop} {s : Shared} {g : Heap} {L : Addr} {m₀ : Str → Option Value} {Q : Flow → Shared → Prop} (_ : Fr g L s.heap m₀) (R : (Str → Option Value) → Led → Prop)
    (h1 : wpAny M A t (Join g L s R) E s) (h2 : ∀ m led h tk, R m led → Fr g L h m → News g L h led → Q .next ⟨h, s.gens, s.drawn, tk, s.os⟩) : wpAny M A t Q E s :=
  wpAny_mono h1 (fun _ _ ⟨m, led, h, tk, a, b, F, N, r⟩ => by subst a b; exact h2 m led h tk r F N) fun _ _ x => x
theorem joined {g h : Heap} {L : Addr} {s : Shared} {R : (Str → Option Value) → Led → Prop} {m : Str → Option Value} {led : Led} {tk : Nat} (F : Fr g L h m) (N : News g L h led) (r : R m led) : Stop (Join g L s R .next ⟨h, s.gens, s.drawn, tk, s.os⟩) :=
  ⟨m, led, h, tk, rfl, rfl, F, N, r⟩
theorem room2 {d a b c : Nat} (h : d + c < recursionLimit) (hk : Nat.ble (a + b) c = true) : d + a + b < recursionLimit := by
  have := Nat.le_of_ble_eq_true hk
  omega
theorem units2 {u a b c : Nat} (h : u + 8 * c < cLine) (hk : Nat.ble (a + 8 * b) (8 * c) = true) : u + a + 8 * b < cLine := by
  have := Nat.le_of_ble_eq_true hk
  omega
theorem le_up {a b c : Nat} (h : a ≤ b) (hk : Nat.ble b c = true) : a ≤ c := Nat.le_trans h (Nat.le_of_ble_eq_true hk)
section
variable {M : Model} {A : Around} {Q E : Value → Shared → Prop} {R : Flow → Shared → Prop} {s : Shared}
theorem atC (n : Nat) {vs : List Value} (h : wpAny M A (call (.ref n) vs) Q E s) : wpAny M A (call (.ref n) vs) Q E s := h
variable {a b c d t : Expr} {e : Env}
theorem atTern {u v x y : _} (h : wpAny M A (eval (.IfExp t (.Call a u v x) d y) e) Q E s) : wpAny M A (eval (.IfExp t (.Call a u v x) d y) e) Q E s := h
theorem atNeg {u x y : _} (h : wpAny M A (eval (.IfExp t (.UnaryOp u b x) d y) e) Q E s) : wpAny M A (eval (.IfExp t (.UnaryOp u b x) d y) e) Q E s := h
theorem ifOp (o : CmpOp) {l u x y v : _} (h : wpAny M A (exec (.If (.Compare a [o] l v) x y u) e) R E s) : wpAny M A (exec (.If (.Compare a [o] l v) x y u) e) R E s := h
theorem ifName {i j l u x y v : _} (h : wpAny M A (exec (.If (.Compare (.Name i j) [.Eq] l v) x y u) e) R E s) : wpAny M A (exec (.If (.Compare (.Name i j) [.Eq] l v) x y u) e) R E s := h
theorem ifCall {i j k l u x y v : _} (h : wpAny M A (exec (.If (.Compare (.Call a i j k) [.Eq] l v) x y u) e) R E s) : wpAny M A (exec (.If (.Compare (.Call a i j k) [.Eq] l v) x y u) e) R E s := h
theorem ifSub {j l u x y v : _} (h : wpAny M A (exec (.If (.Compare (.Subscript a b j) [.Eq] l v) x y u) e) R E s) : wpAny M A (exec (.If (.Compare (.Subscript a b j) [.Eq] l v) x y u) e) R E s := h
end
theorem foldM {P : Prop} {h₀ : Heap} {L : Addr} {h : Heap} {m : Str → Option Value} (F : Fr h₀ L h m) (k : let m' := m; Fr h₀ L h m' → P) : P := k F
theorem chkJ {M : Model} {A : Around} {t : Sem Flow} {E : Value → Shared → Prop} {s s₀ : Shared} {g : Heap} {L : Addr} {R : (Str → Option Value) → Led → Prop} (h : False) : wpAny M A t (Join g L s₀ R) E s := h.elim
theorem upd_same {m : Str → Option Value} {x : Str} {v : Value} (h : m x = some v) : m = upd m x v := by
  funext y
  show m y = if y = x then some v else m y
  split
  · rename_i e
    rw [e, h]
  · rfl
theorem join_scan {M : Model} {A : Around} {t : Sem Flow} {E : Value → Shared → Prop} {s : Shared} {g : Heap} {L : Addr} {m₀ : Str → Option Value} {Q : Flow → Shared → Prop} {w : World} {x dx : Addr} {ix : Obj} {k1 k2 t1 t2 : Tok} {T : Str} {p : Int} {r : Led}
    (F : Fr g L s.heap m₀) (_ : News g L s.heap ((x, ix) :: (dx, scD w k1 T t1 k2 p t2) :: r)) (nm : Str) (I : Value → Int → Prop)
    (h1 : wpAny M A t (Join g L s fun m led => ∃ v q t', I v q ∧ m = upd m₀ nm v ∧ led = (x, ix) :: (dx, scD w k1 T t1 k2 q t') :: r) E s)
    (h2 : ∀ v q t' h tk, I v q → Fr g L h (upd m₀ nm v) → News g L h ((x, ix) :: (dx, scD w k1 T t1 k2 q t') :: r) → Q .next ⟨h, s.gens, s.drawn, tk, s.os⟩) : wpAny M A t Q E s :=
  join F _ h1 fun m led h tk ⟨v, q, t', i, hm, hl⟩ F N => by
    subst hm hl
    exact h2 v q t' h tk i F N
theorem join_at {M : Model} {A : Around} {t : Sem Flow} {E : Value → Shared → Prop} {s : Shared} {g : Heap} {L : Addr} {m₀ : Str → Option Value} {Q : Flow → Shared → Prop} {w : World} {x dx : Addr} {ix : Obj} {k1 k2 t1 t2 : Tok} {T : Str} {p : Int} {r : Led}
    (F : Fr g L s.heap m₀) (_ : News g L s.heap ((x, ix) :: (dx, scD w k1 T t1 k2 p t2) :: r)) (I : Int → Prop)
    (h1 : wpAny M A t (Join g L s fun m led => ∃ q t', I q ∧ m = m₀ ∧ led = (x, ix) :: (dx, scD w k1 T t1 k2 q t') :: r) E s)
    (h2 : ∀ q t' h tk, I q → Fr g L h m₀ → News g L h ((x, ix) :: (dx, scD w k1 T t1 k2 q t') :: r) → Q .next ⟨h, s.gens, s.drawn, tk, s.os⟩) : wpAny M A t Q E s :=
  join F _ h1 fun m led h tk ⟨q, t', i, hm, hl⟩ F' N' => h2 q t' h tk i (hm ▸ F') (hl ▸ N')
end Mine

end
section
namespace Mine
open PySem.Calls PySem.Spec
/-- an exception with its first entry of the trace; P tells of the object itself, fl where it is in flight -/
def TrP (h B : Heap) (e : Addr) (P : Obj → Prop) (fl : Value) : Prop :=
  ∃ oe vs T oT ts, h.get? e = some oe ∧ P oe ∧ oe.data = .fields vs ∧ vs[1]? = some (.ref T) ∧ B.get? T = none ∧ T ≠ e ∧ h.get? T = some oT ∧ oT.data = .fields ts ∧ ts[3]? = some fl
def FlyP (B : Heap) (l : List Env) (e : Addr) (P : Obj → Prop) (fl : Value) (h : Heap) : Prop :=
  B.StaysIn h ∧ B.get? e = none ∧ h.FunFrames B l ∧ TrP h B e P fl
def Keep1 (P : Obj → Prop) : Prop := ∀ o v, P o → P (Obj.mapFields (·.setIfInBounds 1 v) o)
section
variable {M : Model} {A : Around} {E : Value → Shared → Prop} {s : Shared} {B : Heap} {P : Obj → Prop} {env : Env} {outer l : List Env} {L e : Addr} {Q : Unit → Shared → Prop}
theorem entryP {oe : Obj} {vs : Array Value} {head : Value} {hadNext : Bool} (hP : Keep1 P)
    (hfr : A.frames = some (env :: outer)) (hl : s.heap.FunFrames B (env :: outer)) (hf : env.frame = some L)
    (he : s.heap.get? e = some oe) (hp : P oe) (hkb : B.StaysIn s.heap) (hen : B.get? e = none) (hd : oe.data = .fields vs) (hsz : 1 < vs.size)
    (h : ∀ h', FlyP B (env :: outer) e P (rawInt L) h' → s.heap.UpToSlots h' → Q () { s with heap := h' }) :
    wpAny M A (do let a ← frameOf env; let pl ← entryPlaceOf L hadNext; let b ← EntryCells.newEntry head a .none (rawInt L) .none pl; setField (.ref e) 1 b) Q E s := by
  have notFrame : e ∉ (env :: outer).filterMap (·.frame) := fun hm => by
    obtain ⟨_, o, ho, hnf⟩ := hl.mem hm
    rw [he] at ho
    exact hnf vs (Option.some.inj ho ▸ hd)
  refine wpAny_bind (wpAny_frameOf_fun hfr hl hf fun h₁ hs₁ => wpAny_bind (wpAny_entryPlaceOf fun pl hpl => ?_))
  unfold EntryCells.newEntry newFields
  refine wpAny_bind (wpAny_newObj_type ?_ (hpl.sizeOk5 _ _ _ _ _))
  generalize hT : ({ cls := .type "traceback", dict := none, data := .fields ([head, .ref L, .none, rawInt L, .none] ++ (if pl.isEmpty then List.replicate 6 Value.none else pl)).toArray } : Obj) = oT
  have hTd : oT.data = .fields ([head, .ref L, .none, rawInt L, .none] ++ (if pl.isEmpty then List.replicate 6 Value.none else pl)).toArray := by rw [← hT]
  have hTf : oT.isFreed = false := by rw [← hT]; rfl
  have he₁ : h₁.get? e = some oe := (hs₁.2.1 e notFrame).trans he
  have he₂ := Heap.get?_push_of_some oT he₁
  have hTe : h₁.objs.size ≠ e := Nat.ne_of_gt (Heap.lt_size he₁)
  have hTat := Heap.get?_push_size h₁ hTf
  refine wpAny_setField he₂ hd hsz (h _ ?_ ?_)
  · have hd₃ := Obj.data_mapFields hd (·.setIfInBounds 1 (Value.ref h₁.objs.size))
    have keepB : ∀ b o, b ≠ e → h₁.get? b = some o → ((h₁.push oT).update e (Obj.mapFields (·.setIfInBounds 1 (Value.ref h₁.objs.size)))).get? b = some o := fun b o hb q =>
      (Heap.get?_update_other _ _ (Ne.symm hb)).trans (Heap.get?_push_of_some _ q)
    have baseIn : ∀ b o, B.get? b = some o → h₁.get? b = some o := fun b o q =>
      (hs₁.2.1 b fun hm => by rw [(hl.mem hm).1] at q; cases q).trans (hkb b o q)
    refine ⟨fun b o q => keepB b o (fun z => by rw [z, hen] at q; cases q) (baseIn b o q), hen, hl.of_keeps fun b o q hnf => ?_, ?_⟩
    · obtain ⟨sl, hs⟩ := hs₁.2.2 b o q
      exact ⟨_, keepB b _ (fun z => by rw [z, he] at q; exact hnf vs (Option.some.inj q ▸ hd)) hs, rfl⟩
    · refine ⟨_, _, h₁.objs.size, oT, _, Heap.get?_update_self _ he₂ (Obj.isFreed_of_fields hd₃), hP _ _ hp, hd₃, by simp [hsz], ?_, hTe, (Heap.get?_update_other _ _ (Ne.symm hTe)).trans hTat, hTd, ?_⟩
      · cases q : B.get? h₁.objs.size with
        | none => rfl
        | some o => exact absurd (Heap.lt_size (baseIn _ _ q)) (Nat.lt_irrefl _)
      · rcases hpl with rfl | ⟨_, _, _, _, _, _, _, rfl⟩ <;> simp
  · intro b o q hnf
    obtain ⟨sl, hs⟩ := hs₁.2.2 b o q
    exact ⟨sl, (Heap.get?_update_other _ _ (fun z => by rw [← z, he] at q; exact hnf vs (Option.some.inj q ▸ hd))).trans (Heap.get?_push_of_some _ hs)⟩
/-- noted in a frame, for the first time -/
theorem noteP_made {oe : Obj} {vs : Array Value} (hP : Keep1 P)
    (hfr : A.frames = some (env :: outer)) (hl : s.heap.FunFrames B (env :: outer)) (hf : env.frame = some L)
    (he : s.heap.get? e = some oe) (hp : P oe) (hkb : B.StaysIn s.heap) (hen : B.get? e = none) (hd : oe.data = .fields vs) (h1 : vs[1]? = some .none)
    (h : ∀ h', FlyP B (env :: outer) e P (rawInt L) h' → s.heap.UpToSlots h' → Q () { s with heap := h' }) : wpAny M A (noteFrame (.ref e) env) Q E s := by
  unfold noteFrame
  simp only [hf]
  refine wpAny_bind (wpAny_field he hd h1 ?_)
  rw [if_neg (by decide)]
  exact entryP hP hfr hl hf he hp hkb hen hd (Array.getElem?_eq_some_iff.mp h1).1 h
/-- noted in the next frame -/
theorem noteP_fly (hP : Keep1 P) (hfr : A.frames = some (env :: outer)) (hf : env.frame = some L) (hfl : FlyP B (env :: outer) e P .none s.heap)
    (h : ∀ h', FlyP B (env :: outer) e P (rawInt L) h' → s.heap.UpToSlots h' → Q () { s with heap := h' }) : wpAny M A (noteFrame (.ref e) env) Q E s := by
  obtain ⟨hkb, hen, hl, oe, vs, T, oT, ts, he, hp, hd, h1, hnT, hTe, hT, hdT, h3⟩ := hfl
  unfold noteFrame
  simp only [hf]
  refine wpAny_bind (wpAny_field he hd h1 ?_)
  rw [if_pos (show (Value.ref T != Value.none) = true from by simp)]
  refine wpAny_bind (wpAny_field hT hdT h3 ?_)
  rw [if_neg (show ¬ ((Value.none == rawInt L) = true) from by simp [rawInt])]
  refine wpAny_bind (wpAny_setField hT hdT (Array.getElem?_eq_some_iff.mp h3).1 ?_)
  have other : ∀ b, b ≠ T → (s.heap.update T (Obj.mapFields (·.setIfInBounds 3 Value.none))).get? b = s.heap.get? b := fun b hb => Heap.get?_update_other _ _ (Ne.symm hb)
  have noRec : ∀ b o, s.heap.get? b = some o → (∀ vs, o.data ≠ .fields vs) → b ≠ T := fun b o hb hnf q => by
    rw [q, hT] at hb
    exact hnf ts (Option.some.inj hb ▸ hdT)
  refine entryP hP hfr (hl.of_keeps fun b o hb hnf => ⟨o, (other b (noRec b o hb hnf)).trans hb, rfl⟩) hf ((other e (Ne.symm hTe)).trans he) hp
    (fun b o q => (other b fun z => by rw [z, hnT] at q; cases q).trans (hkb b o q)) hen hd (Array.getElem?_eq_some_iff.mp h1).1 fun h' f u => h h' f fun b o hb hnf => u b o ((other b (noRec b o hb hnf)).trans hb) hnf
/-- noted again in the frame where it is in flight -/
theorem noteP_held (hf : env.frame = some L) (hfl : FlyP B l e P (rawInt L) s.heap) (h : Q () s) : wpAny M A (noteFrame (.ref e) env) Q E s := by
  obtain ⟨_, _, _, oe, vs, T, oT, ts, he, hp, hd, h1, hnT, hTe, hT, hdT, h3⟩ := hfl
  unfold noteFrame
  simp only [hf]
  refine wpAny_bind (wpAny_field he hd h1 ?_)
  rw [if_pos (show (Value.ref T != Value.none) = true from by simp)]
  refine wpAny_bind (wpAny_field hT hdT h3 ?_)
  rw [if_pos (show (rawInt L == rawInt L) = true from by simp)]
  exact wpAny_pure h
theorem flightP {fl : Value} {fr : Option Addr} (hfl : FlyP B l e P fl s.heap)
    (h : ∀ h', FlyP B l e P (fr.elim .none fun f => rawInt f) h' → s.heap.UpToSlots h' → Q () { s with heap := h' }) : wpAny M A (setFlight (.ref e) fr) Q E s := by
  obtain ⟨hkb, hen, hl, oe, vs, T, oT, ts, he, hp, hd, h1, hnT, hTe, hT, hdT, h3⟩ := hfl
  have hsz := (Array.getElem?_eq_some_iff.mp h3).1
  have other : ∀ b, b ≠ T → (s.heap.update T (Obj.mapFields (·.setIfInBounds 3 (fr.elim Value.none fun f => rawInt f)))).get? b = s.heap.get? b := fun b hb => Heap.get?_update_other _ _ (Ne.symm hb)
  have noRec : ∀ b o, s.heap.get? b = some o → (∀ vs, o.data ≠ .fields vs) → b ≠ T := fun b o hb hnf q => by
    rw [q, hT] at hb
    exact hnf ts (Option.some.inj hb ▸ hdT)
  unfold setFlight
  refine wpAny_bind (wpAny_field he hd h1 ?_)
  rw [if_pos (show (Value.ref T != Value.none) = true from by simp)]
  refine wpAny_setField hT hdT hsz (h _ ⟨fun b o q => (other b fun z => by rw [z, hnT] at q; cases q).trans (hkb b o q), hen, hl.of_keeps fun b o hb hnf => ⟨o, (other b (noRec b o hb hnf)).trans hb, rfl⟩, ?_⟩ fun b o hb hnf => ⟨o.slots, (other b (noRec b o hb hnf)).trans hb⟩)
  exact ⟨oe, vs, T, _, _, (other e (Ne.symm hTe)).trans he, hp, hd, h1, hnT, hTe, Heap.get?_update_self _ hT (Obj.isFreed_of_fields (Obj.data_mapFields hdT _)), Obj.data_mapFields hdT _, by simp [hsz]⟩
theorem FlyP.tail {fl : Value} {h : Heap} (x : FlyP B (env :: outer) e P fl h) : FlyP B outer e P fl h := ⟨x.1, x.2.1, x.2.2.1.2.2, x.2.2.2⟩
end
/-- an exception that has left the frames above l; G is the ground of the frame that it came from, news what was made and stands -/
def Flew (base G : Heap) (l : List Env) (e : Addr) (P : Obj → Prop) (news : Led) (h : Heap) : Prop :=
  ∃ B, base.StaysIn B ∧ (∀ b o, G.get? b = some o → b ∉ l.filterMap (·.frame) → B.get? b = some o) ∧ (∀ q ∈ news, B.get? q.1 = some q.2 ∧ G.get? q.1 = none ∧ base.get? q.1 = none) ∧ FlyP B l e P .none h
theorem none_base {base B : Heap} (k : base.StaysIn B) {b : Addr} (e : B.get? b = none) : base.get? b = none := by
  cases q : base.get? b with
  | none => rfl
  | some o => have := k b o q; rw [e] at this; cases this
section
variable {M : Model} {A : Around} {E : Value → Shared → Prop} {s' : Shared} {base g g₂ : Heap} {outer : List Env} {L a e : Addr} {m : Str → Option Value} {name : Str} {scope : Scope} {cdv : Value} {Q : Unit → Shared → Prop} {news : Led} {P : Obj → Prop}
theorem leave_made {oe : Obj} {vs : Array Value} (hP : Keep1 P) (K : Below A base outer g) (F : Fr g L s'.heap m) (N : News g L s'.heap ((e, oe) :: news)) (hne : ∀ q ∈ news, q.1 ≠ e) (hp : P oe) (hd : oe.data = .fields vs) (h1 : vs[1]? = some .none)
    (hQ : ∀ h', Flew base g outer e P news h' → g.UpToSlots h' → Q () { s' with heap := h' }) (hk : scope.kind = .function) :
    wpAny M (A.deeper (envOf name scope L a cdv)) (leaving (envOf name scope L a cdv) (.ref e)) Q E s' := by
  have K' := K.push (name := name) (a := a) (cd := cdv) F hk
  obtain ⟨he, heL, hge⟩ := N (e, oe) (List.Mem.head _)
  have frIn : ∀ b, b ∈ (envOf name scope L a cdv :: outer).filterMap (·.frame) → base.get? b = none ∧ ∃ o, s'.heap.get? b = some o ∧ ∀ vs, o.data ≠ .fields vs := fun b hb => K'.frames.mem hb
  have out : ∀ b, b ∈ outer.filterMap (·.frame) → ∃ o, g.get? b = some o := fun b hb => by
    obtain ⟨_, o, ho, _⟩ := K.frames.mem hb
    exact ⟨o, ho⟩
  have inAs : ∀ b, b ∈ e :: (envOf name scope L a cdv :: outer).filterMap (·.frame) → b = e ∨ b = L ∨ b ∈ outer.filterMap (·.frame) := fun b hb => by
    rcases List.mem_cons.mp hb with z | z
    · exact .inl z
    · exact .inr (kts_mem z)
  have stB : base.StaysIn (hideAll s'.heap (e :: (envOf name scope L a cdv :: outer).filterMap (·.frame))) := fun b o q => hideAll_get _ (K'.stays b o q) fun hm => by
    rcases List.mem_cons.mp hm with z | z
    · have := K.stays b o q; rw [z, hge] at this; cases this
    · rw [(frIn b z).1] at q; cases q
  unfold leaving
  refine wpAny_bind (noteP_made (B := hideAll s'.heap (e :: (envOf name scope L a cdv :: outer).filterMap (·.frame))) hP K'.stack (funFrames_hide K'.frames fun env he b hb => List.mem_cons_of_mem _ (List.mem_filterMap.mpr ⟨env, he, hb⟩)) rfl he hp (fun b o q => of_hideAll _ q) (hideAll_none _ (List.Mem.head _)) hd h1 fun h₁ f₁ u₁ => ?_)
  refine flightP (fr := none) f₁ fun h₂ f₂ u₂ => hQ h₂ ⟨_, stB, fun b o q nm => hideAll_get _ (F.keep b o q) fun hm => ?_, fun q hq => ⟨hideAll_get _ (N q (List.mem_cons_of_mem _ hq)).1 fun hm => ?_, (N q (List.mem_cons_of_mem _ hq)).2.2, none_base K.stays (N q (List.mem_cons_of_mem _ hq)).2.2⟩, f₂.tail⟩ (((Heap.UpToSlots.of_keeps F.keep).trans u₁).trans u₂)
  · rcases inAs b hm with z | z | z
    · rw [z, hge] at q; cases q
    · rw [z, kts_self F] at q; cases q
    · exact nm z
  · rcases inAs q.1 hm with z | z | z
    · exact hne q hq z
    · exact (N q (List.mem_cons_of_mem _ hq)).2.1 z
    · obtain ⟨o, ho⟩ := out _ z
      rw [(N q (List.mem_cons_of_mem _ hq)).2.2] at ho
      cases ho
theorem leave_on (hP : Keep1 P) (K : Below A base outer g) (F : Fr g L g₂ m) (R : Flew base g₂ (envOf name scope L a cdv :: outer) e P news s'.heap) (hsm : g₂.UpToSlots s'.heap)
    (hQ : ∀ h', Flew base g outer e P news h' → g.UpToSlots h' → Q () { s' with heap := h' }) :
    wpAny M (A.deeper (envOf name scope L a cdv)) (leaving (envOf name scope L a cdv) (.ref e)) Q E s' := by
  obtain ⟨B, hB, hBG, hl, hfl⟩ := R
  unfold leaving
  refine wpAny_bind (noteP_fly hP (Around.frames_deeper K.stack) rfl hfl fun h₁ f₁ u₁ => flightP (fr := none) f₁ fun h₂ f₂ u₂ => hQ h₂ ⟨B, hB, fun b o q nm => hBG b o (F.keep b o q) fun hm => ?_, fun q hq => ⟨(hl q hq).1, kts_none F.keep (hl q hq).2.1, (hl q hq).2.2⟩, f₂.tail⟩ ((((Heap.UpToSlots.of_keeps F.keep).trans hsm).trans u₁).trans u₂))
  rcases kts_mem hm with z | z
  · rw [z, kts_self F] at q; cases q
  · exact nm z
end
end Mine

end
section
namespace Mine
open PySem.Calls PySem.Spec Builtin Builtin.ObjectAttr
def excTail : List Value → Bool
  | .ref _ :: r => excTail r
  | l => l == [.type "Exception", .type "BaseException", .type "object"]
/-- an exception class of the text's own, over Exception -/
def excOk (K : Frag) (C : Addr) : Bool := match K.lookup C with
  | some ⟨.type "type", _, .cls cd, sl⟩ => (match cd.mro, sl.toList with
    | .ref C' :: bm, [_, _, _, _, some (.builtin n), _] => C' == C && n == "Exception.__new__" && !cd.hasDel && cd.hasDict && excTail bm
    | _, _ => false)
  | _ => false
theorem excOk_obj {K : Frag} {C : Addr} (q : excOk K C = true) : ∃ nm qn N bs bm sn sub ab col dd k0 k1 k2 k3 k5, K.lookup C = some (excClassObj nm qn C N bs bm true sn sub ab col dd k0 k1 k2 k3 k5 "Exception.__new__") ∧ excTail bm = true := by
  unfold excOk at q
  split at q
  · rename_i dd cd sl ho
    split at q
    · rename_i C' bm k0 k1 k2 k3 n k5 hm hs
      simp only [Bool.and_eq_true, beq_iff_eq, Bool.not_eq_true'] at q
      obtain ⟨⟨⟨⟨rfl, rfl⟩, hdel⟩, hdct⟩, ht⟩ := q
      obtain ⟨nm, bs, mro, ns, qn, hd, sn, sub, ab, col, del⟩ := cd
      dsimp only at hm hdel hdct
      subst hm hdel hdct
      have hsl : sl = #[k0, k1, k2, k3, some (.builtin "Exception.__new__"), k5] := by
        obtain ⟨l⟩ := sl
        simp only at hs
        rw [hs]
      subst hsl
      exact ⟨nm, qn, ns, bs, bm, sn, sub, ab, col, dd, k0, k1, k2, k3, k5, ho, ht⟩
    · cases q
  · cases q
theorem excTail_has : ∀ {l : List Value}, excTail l = true → l.contains (.type "BaseException") = true ∧ l.contains (.type "object") = true ∧ l.contains (.type "Exception") = true
  | .ref _ :: r, e => by
    obtain ⟨a, b, c⟩ := excTail_has (l := r) e
    exact ⟨by rw [List.contains_cons, a, Bool.or_true], by rw [List.contains_cons, b, Bool.or_true], by rw [List.contains_cons, c, Bool.or_true]⟩
  | [], e => by simp [excTail] at e
  | .none :: r, e => by simp [excTail] at e
  | .ellipsis :: r, e => by simp [excTail] at e
  | .notImplemented :: r, e => by simp [excTail] at e
  | .bool _ :: r, e => by simp [excTail] at e
  | .int _ _ :: r, e => by simp [excTail] at e
  | .float _ _ :: r, e => by simp [excTail] at e
  | .str _ _ :: r, e => by simp [excTail] at e
  | .bytes _ _ :: r, e => by simp [excTail] at e
  | .builtin _ :: r, e => by simp [excTail] at e
  | .type n :: r, e => by
    have e' : (Value.type n :: r) = [.type "Exception", .type "BaseException", .type "object"] := by simpa [excTail] using e
    rw [e']
    exact ⟨by decide, by decide, by decide⟩
theorem refuse_exc (self : Value) : refuseLoop self "__setattr__" [.type "Exception", .type "BaseException", .type "object"] = pure () := by kernel_rfl
theorem refuse_tail (self : Value) : ∀ {l : List Value}, excTail l = true → refuseLoop self "__setattr__" l = pure ()
  | .ref c :: r, e => by rw [refuseLoop_ref]; exact refuse_tail self (l := r) e
  | [], e => by simp [excTail] at e
  | .none :: r, e => by simp [excTail] at e
  | .ellipsis :: r, e => by simp [excTail] at e
  | .notImplemented :: r, e => by simp [excTail] at e
  | .bool _ :: r, e => by simp [excTail] at e
  | .int _ _ :: r, e => by simp [excTail] at e
  | .float _ _ :: r, e => by simp [excTail] at e
  | .str _ _ :: r, e => by simp [excTail] at e
  | .bytes _ _ :: r, e => by simp [excTail] at e
  | .builtin _ :: r, e => by simp [excTail] at e
  | .type n :: r, e => by
    have e' : (Value.type n :: r) = [.type "Exception", .type "BaseException", .type "object"] := by simpa [excTail] using e
    rw [e']
    exact refuse_exc self
theorem excTail_not : ∀ {l : List Value}, excTail l = true → l.contains (.type "AttributeError") = false ∧ l.contains (.type "NameError") = false
  | .ref c :: r, e => by
    obtain ⟨a, b⟩ := excTail_not (l := r) e
    exact ⟨by rw [List.contains_cons, a]; rfl, by rw [List.contains_cons, b]; rfl⟩
  | [], e => by simp [excTail] at e
  | .none :: r, e => by simp [excTail] at e
  | .ellipsis :: r, e => by simp [excTail] at e
  | .notImplemented :: r, e => by simp [excTail] at e
  | .bool _ :: r, e => by simp [excTail] at e
  | .int _ _ :: r, e => by simp [excTail] at e
  | .float _ _ :: r, e => by simp [excTail] at e
  | .str _ _ :: r, e => by simp [excTail] at e
  | .bytes _ _ :: r, e => by simp [excTail] at e
  | .builtin _ :: r, e => by simp [excTail] at e
  | .type n :: r, e => by
    have e' : (Value.type n :: r) = [.type "Exception", .type "BaseException", .type "object"] := by simpa [excTail] using e
    rw [e']
    exact ⟨by decide, by decide⟩
section
variable {prog : Program} {w : World} {A : Around} {E : Value → Shared → Prop} {h : Heap} {g : Array GenState} {d : Drawn} {t : Nat} {os : OsState} {K : Frag} {C e fI : Addr}
  {nm q : Str} {N : Addr} {bs bm : List Value} {sn : List Str} {sub : List Value} {ab : Bool} {col : Option Bool} {dd : Option Addr} {k0 k1 k2 k3 k5 : Option Value}
theorem check_new_own {M : Model} {args : List Value} {Q : Unit → Shared → Prop} (hE : bm.contains (.type "Exception") = true) (hC : h.get? C = some (excClassObj nm q C N bs bm true sn sub ab col dd k0 k1 k2 k3 k5 "Exception.__new__"))
    (hq : Q () ⟨h, g, d, t, os⟩) : wpAny M A (checkBuiltinCall "Exception.__new__" ⟨.ref C :: args, []⟩) Q E ⟨h, g, d, t, os⟩ := by
  have F := PySem.F.excBase_Exception
  have hcont : (Value.ref C :: bm).contains (.type "Exception") = true := by rw [List.contains_cons, hE, Bool.or_true]
  have hstar := F.noStar
  simp only [checkBuiltinCall, F.newKind, F.newSplit, F.newRow]
  repeat (first | refine wpAny_loadPart_at hC ?_ | (refine wpAny_isSubtype_exc hC ?_; rw [hcont]) | refine wpAny_staticBase_exc hC ?_ | refine wpAny_madeBy_exc hC ?_ | simp only [bne_self_eq_false, Bool.false_eq_true, if_false] | wp_step)
  exact hq
theorem new_own {args : List Value} {R : Result → Shared → Prop} (hE : bm.contains (.type "Exception") = true) (hA : bm.contains (.type "AttributeError") = false) (hN : bm.contains (.type "NameError") = false)
    (hC : h.get? C = some (excClassObj nm q C N bs bm true sn sub ab col dd k0 k1 k2 k3 k5 "Exception.__new__"))
    (hq : R (.ok (.ret (.ref (h.objs.size + 1)))) ⟨(h.push { cls := .type "tuple", data := .seq args.toArray }).push { cls := .ref C, data := .fields #[.ref h.objs.size, .none, .none, .none, .bool false, .none] }, g, d, t, os⟩) (hargs : args.length ≤ sizeLine) :
    codeAny (model prog w) A (.builtin "Exception.__new__" ⟨.ref C :: args, []⟩) R ⟨h, g, d, t, os⟩ := by
  have F := PySem.F.excBase_Exception
  have hends := F.ends
  have hcB : (Value.ref C :: bm).contains (.type "Exception") = true := by rw [List.contains_cons, hE, Bool.or_true]
  have hcA : (Value.ref C :: bm).contains (.type "AttributeError") = false := by rw [List.contains_cons, hA]; rfl
  have hcN : (Value.ref C :: bm).contains (.type "NameError") = false := by rw [List.contains_cons, hN]; rfl
  refine codeAny_builtinAt F.entry ?_
  unfold Builtin.«BaseException.__new__»
  refine PySem.wpAt_bind ?_
  show PySem.wpAt _ _ _ (stack >>= _) _ _ _
  refine PySem.wpAt_bind (PySem.wpAt_stack fun p below => PySem.wpAt_of_wpAny ?_)
  wp_walk
  refine PySem.wpAt_of_wpAny ?_
  rw [F.owner]
  repeat (first | with_reducible refine wpAny_madeHere_exc F.canon hC ?_ | with_reducible refine wpAny_loadPart_at hC ?_ | (with_reducible refine wpAny_isSubtype_exc hC ?_; first | rw [hcB] | rw [hcA] | rw [hcN]) | wp_step)
  show R _ _
  rw [Heap.size_push]
  exact hq
/-- the class called: the exception is made, its __init__ is called -/
theorem call_exc_at {args : List Value} {Q : Value → Shared → Prop} (X : K.In h) (hT : excTail bm = true) (hC : h.get? C = some (excClassObj nm q C N bs bm true sn sub ab col dd k0 k1 k2 k3 k5 "Exception.__new__"))
    (hi : findIn K (.ref C) "__init__" = some (some (.ref fI))) (hf : typeIn K (.ref fI) = some (.type "function")) (hargs : args.length ≤ 100)
    (hq : ∀ h' x, Heap.MadeExcOf h h' x (.ref C) args →
      wpAny (model prog w) (A.under (.builtin "type.__call__" ⟨.ref C :: args, []⟩)) (call (.ref fI) (.ref x :: args)) (fun r s' => r = .none ∧ Q (.ref x) s') E ⟨h', g, d, t, os⟩) :
    wpAny (model prog w) A (call (.ref C) args) Q E ⟨h, g, d, t, os⟩ := by
  have F := PySem.F.excBase_Exception
  have hrest : args.length ≤ sizeLine := by rw [sizeLine_eq]; omega
  obtain ⟨hB1, hB2, hB3⟩ := excTail_has hT
  obtain ⟨hA, hN⟩ := excTail_not hT
  have f1 := tc_lookup
  have f2 := tc_bind (.ref C)
  have hTy : (⟨h, g, d, t, os⟩ : Shared).TypeIs (.ref C) "type" := ⟨_, hC, rfl⟩
  refine wpAny_call (codeAny_of_tree ?_)
  show wpAny _ _ (callAny (.ref C) _) _ _ _
  repeat (any_goals (first | assumption | with_reducible refine wpAny_loadPart_at hC ?_ | wp_step))
  refine ⟨rfl, ?_⟩
  refine codeAny_call_builtin_at (Code.quiet_builtin _ (by decide +kernel)) entry_typeCall (wpAny_check_type_call_sub hC ?_)
  repeat (first | with_reducible refine wpAny_loadPart_at hC ?_ | with_reducible refine wpAny_madeBy_exc hC ?_ | wp_step)
  refine codeAny_call_builtin_code (Code.quiet_builtin _ F.quiet) (check_new_own hB3 hC ?_)
  refine new_own (args := args) hB3 hA hN hC ?_ hrest
  show wpAny _ _ _ _ _ _
  have hup : ∀ b o, h.get? b = some o → ((h.push { cls := .type "tuple", data := .seq args.toArray }).push { cls := .ref C, data := .fields #[.ref h.objs.size, .none, .none, .none, .bool false, .none] }).get? b = some o :=
    fun b o hb => Heap.get?_push_of_some _ (Heap.get?_push_of_some _ hb)
  have hC₁ := hup _ _ hC
  have X₁ := X.keeps hup
  have hget : ((h.push { cls := .type "tuple", data := .seq args.toArray }).push
      { cls := .ref C, data := .fields #[.ref h.objs.size, .none, .none, .none, .bool false, .none] }).get? (h.objs.size + 1) = some
      { cls := .ref C, data := .fields #[.ref h.objs.size, .none, .none, .none, .bool false, .none] } := by heap_get
  have hcC : (Value.ref C :: bm).contains (.ref C) = true := by simp
  unfold isInstance
  repeat (first | with_reducible refine wpAny_loadPart_at hget ?_ | (with_reducible refine wpAny_isSubtype_exc hC₁ ?_; rw [hcC]) | wp_step)
  show wpAny _ _ (typeLookup (.ref C) _) _ _ _
  refine (looks_findIn X₁ hi) _ _ _ _ (fun _ _ z => z) ?_
  dsimp only
  refine wpAny_holding (wpAny_bind ((bind_fn X₁ _ hf) _ _ _ _ (fun _ _ z => z) ?_))
  refine wpAny_bind (wpAny_mono (hq _ (h.objs.size + 1) ⟨hup, Heap.get?_none_of_le (Nat.le_succ _), h.objs.size, hget, Heap.get?_none_of_le (Nat.le_refl _), ?_⟩) (fun r s' hr => ?_) fun _ _ x => x)
  · exact Heap.get?_push_of_some _ (Heap.get?_push_at rfl rfl)
  · obtain ⟨rfl, hQ⟩ := hr
    wp_walk
    exact hQ
end
section
variable {prog : Program} {w : World} {A : Around} {E : Value → Shared → Prop} {s : Shared} {K : Frag} {C L e : Addr} {h₀ : Heap} {m : Str → Option Value} {rest : Led} {name : Str} {v : Value} {R : Result → Shared → Prop}
theorem excOk_cls {K : Frag} {C : Addr} (q : excOk K C = true) : ∃ cd, clsIn K C = some cd ∧ cd.hasDict = true ∧ cd.mro.isEmpty = false ∧ cd.mro.contains (.type "BaseException") = true ∧ cd.mro.contains (.type "object") = true ∧ ∀ self, refuseLoop self "__setattr__" cd.mro = pure () := by
  obtain ⟨nm, qn, N, bs, bm, sn, sub, ab, col, dd, k0, k1, k2, k3, k5, hK, hT⟩ := excOk_obj q
  have T' : excTail (.ref C :: bm) = true := hT
  refine ⟨_, (by unfold clsIn; rw [hK]), rfl, rfl, (excTail_has T').1, (excTail_has T').2.1, fun self => refuse_tail self T'⟩
theorem osaE {ox : Obj} {od : Option Obj} {tk : Tok} (X : K.In s.heap) (I : InstAt s.heap e ox C od) (ok : excOk K C = true) (ht : takerIn K C name = some none)
    (h : ∀ b, wpAny (model prog w) A.in1 (storeInOwnDict (.ref e) (.ref C) (.str name tk) name v b)
      (fun fin s' => match fin with | .done f => R (.ok f) s' | .again c' => c'.quiet = true ∧ codeAny (model prog w) A c' R s') (fun e s' => R (.error e) s') s) :
    codeAny (model prog w) A (.call (.builtin "object.__setattr__") ⟨[.ref e, .str name tk, v], []⟩) R s := by
  have SF := PySem.F.store_object
  obtain ⟨cd, hc, hdct, ne, hB, hO, hpass⟩ := excOk_cls ok
  have sub : Looks (model prog w) s.heap (isInstance (.ref e) (.type "object")) true := I.type.andThen (looks_mroIn X (by unfold mroIn; rw [hc, Option.bind_some, if_neg (by rw [ne]; decide), hO]))
  refine codeAny_call_builtin SF.slot.plain SF.entry (@check_slot (model prog w) _ _ s "object.__setattr__" "object" "__setattr__" (.ref e) [.str name tk, v] [] _ SF.kind SF.split sub (SF.args (.ref e) (.str name tk) v) ?_)
  obtain ⟨attr, ha, hr⟩ := Option.bind_eq_some_iff.mp ht
  have hm : Looks (model prog w) s.heap (mroOf (.ref C)) cd.mro := (looks_clsIn X hc).andThen .now
  have L3 : Looks (model prog w) s.heap (storeTaker? attr) none := by
    cases attr with
    | none => exact .now
    | some a =>
      obtain ⟨b, hb, hb'⟩ := Option.map_eq_some_iff.mp hr
      refine (looks_takesIn X hb).andThen ?_
      cases b with
      | true => cases hb'
      | false => exact .now
  rw [osa_eq, refuse_eq]
  refine wpAny_bind (wpAny_bind (I.type.here (wpAny_bind (hm.here ?_))))
  rw [hpass]
  refine wpAny_pure (wpAny_bind (I.type.here (wpAny_bind ((looks_findIn X ha).here (wpAny_bind (L3.here ?_))))))
  exact h _
/-- an exception object: its class, its dict, its record -/
abbrev excObj (C : Addr) (od : Option Addr) (vs : Array Value) : Obj := { cls := .ref C, dict := od, data := .fields vs }
theorem setE_first {vs : Array Value} {Q : Unit → Shared → Prop} (F : Fr h₀ L s.heap m) (X₀ : K.In h₀) (N : News h₀ L s.heap ((e, excObj C none vs) :: rest)) (hr : ∀ q ∈ rest, q.1 ≠ e) (ok : excOk K C = true)
    (hs : findIn K (.ref C) "__setattr__" = some (some (.builtin "object.__setattr__"))) (ht : takerIn K C name = some none)
    (h : ∀ d h' tk, Fr h₀ L h' m → News h₀ L h' ((d, dictOf [⟨PyData.keyHash w.params name, .str name tk, v⟩] 1) :: (e, excObj C (some d) vs) :: rest) → (∀ q ∈ (e, excObj C none vs) :: rest, q.1 < d) → Q () { s with heap := h', toks := s.toks + 2 }) :
    wpAny (model prog w) A (setAttr (.ref e) name v) Q E s := by
  have X := X₀.keeps F.keep
  have he := (N (e, excObj C none vs) (.head _)).1
  have I : InstAt s.heap e (excObj C none vs) C none := ⟨he, rfl, rfl, trivial⟩
  obtain ⟨cd, hc, hdct, ne, hB, hO, hpass⟩ := excOk_cls ok
  refine set_plain X I hs (osaE (s := { s with toks := s.toks + 1 }) X I ok ht fun b => ?_)
  have hle : e < s.heap.objs.size := Heap.lt_size he
  -- the ledger with the new dict
  have N1 := N.push F (dictOf [] 0)
  have F1 := F.push (dictOf [] 0)
  obtain ⟨F2, N2⟩ := news_upd (pre := [(s.heap.objs.size, dictOf [] 0)]) (f := fun o => { o with dict := some s.heap.objs.size }) F1 N1 (fun p hp => by
    rcases List.mem_singleton.mp hp with rfl
    exact Nat.ne_of_gt hle) hr rfl rfl
  obtain ⟨F3, N3⟩ := news_upd (pre := []) (f := Obj.putName name (PyData.keyHash w.params name) (.str name (s.toks + 1)) v) F2 N2 (fun p hp => nomatch hp) (fun p hp => by
    rcases List.mem_cons.mp hp with rfl | hp
    · exact Nat.ne_of_lt hle
    · exact Nat.ne_of_lt (Heap.lt_size (N p (List.mem_cons_of_mem _ hp)).1)) (by rw [putName_dict]) rfl
  have D1 := (N1 (e, excObj C none vs) (.tail _ (.head _))).1
  have D2 := (N2 (s.heap.objs.size, dictOf [] 0) (.head _)).1
  have D3 := (N3 _ (.head _)).1
  refine wpAny_bind (wpAny_pure (wpAny_bind (wpAny_bind (wpAny_loadPart he (wpAny_bind ((looks_clsIn X hc) _ _ _ _ (fun _ _ z => z) ?_))))))
  rw [hdct]
  refine wpAny_bind (wpAny_alloc (wpAny_bind (wpAny_update D1 (wpAny_pure ?_))))
  show wpAny _ _ (storeInDict _ _ _ _) _ _ _
  refine wpAny_bind (wpAny_pure (wpAny_bind ?_))
  unfold nsSet
  refine wpAny_bind (wpAny_bind (wpAny_askSetting (wpAny_pure (wpAny_bind (wpAny_mkText (wpAny_bind (wpAny_loadPart D2 ?_)))))))
  dsimp only
  rw [aRefKeyMayBeTheName_at]
  rw [if_neg (by simp)]
  refine wpAny_updatePart D2 ?_
  refine wpAny_bind (wpAny_lookBehind D3 (by exact pastItsLine_dict (by rw [List.size_toArray, sizeLine_eq]; show (1:Nat) ≤ _; decide)) ?_)
  exact wpAny_pure (h _ _ _ F3 N3 fun q hq => Heap.lt_size (N q hq).1)
theorem setE_next {vs : Array Value} {d : Addr} {es es' : List DictEntry} {n n' : Nat} {Q : Unit → Shared → Prop} (F : Fr h₀ L s.heap m) (X₀ : K.In h₀) (N : News h₀ L s.heap ((d, dictOf es n) :: (e, excObj C (some d) vs) :: rest)) (hed : e ≠ d) (hr : ∀ q ∈ rest, q.1 ≠ d) (ok : excOk K C = true)
    (hs : findIn K (.ref C) "__setattr__" = some (some (.builtin "object.__setattr__"))) (ht : takerIn K C name = some none) (hl : (getL name es).isSome = true)
    (hp : (putL name (PyData.keyHash w.params name) (.str name (s.toks + 1)) v es, putN name es n) = (es', n')) (hz : es'.length ≤ 1000)
    (h : ∀ h', Fr h₀ L h' m → News h₀ L h' ((d, dictOf es' n') :: (e, excObj C (some d) vs) :: rest) → Q () { s with heap := h', toks := s.toks + 2 }) :
    wpAny (model prog w) A (setAttr (.ref e) name v) Q E s := by
  have X := X₀.keeps F.keep
  obtain ⟨e1, e2⟩ := Prod.mk.inj hp
  have he := (N (e, excObj C (some d) vs) (.tail _ (.head _))).1
  have hd := (N (d, dictOf es n) (.head _)).1
  have I : InstAt s.heap e (excObj C (some d) vs) C (some (dictOf es n)) := ⟨he, rfl, rfl, hd⟩
  obtain ⟨cd, hc, hdct, ne, hB, hO, hpass⟩ := excOk_cls ok
  refine set_plain X I hs (osaE (s := { s with toks := s.toks + 1 }) X I ok ht fun b => ?_)
  obtain ⟨F3, N3⟩ := news_upd (pre := []) (f := Obj.putName name (PyData.keyHash w.params name) (.str name (s.toks + 1)) v) F N (fun p hp => nomatch hp) (fun p hp => by
    rcases List.mem_cons.mp hp with rfl | hp
    · exact hed
    · exact hr p hp) (by rw [putName_dict]) rfl
  have D3 := (N3 _ (.head _)).1
  refine wpAny_bind (wpAny_pure (wpAny_bind (wpAny_bind (wpAny_loadPart he (wpAny_bind ((looks_clsIn X hc) _ _ _ _ (fun _ _ z => z) ?_))))))
  rw [hdct]
  refine wpAny_pure (a := some d) ?_
  show wpAny _ _ (storeInDict _ _ _ _) _ _ _
  refine wpAny_bind (wpAny_pure (wpAny_bind ?_))
  unfold nsSet
  refine wpAny_bind (wpAny_bind (wpAny_askSetting (wpAny_pure (wpAny_bind (wpAny_mkText (wpAny_bind (wpAny_loadPart hd ?_)))))))
  dsimp only
  rw [aRefKeyMayBeTheName_at]
  have c : (!es.toArray.any (·.key.isStr name) && es.toArray.any (·.refKey)) = false := by
    rw [← Array.any_toList, ← Array.any_toList]
    unfold getL at hl
    split at hl
    · rename_i en hen
      rw [show es.toArray.toList = es from rfl, List.any_eq_true.mpr ⟨en, List.mem_of_find?_eq_some hen, List.find?_some hen⟩]; rfl
    · split at hl
      · cases hl
      · rename_i z
        rw [Bool.not_eq_true] at z
        rw [show es.toArray.toList = es from rfl, z, Bool.and_false]
  rw [c, if_neg Bool.false_ne_true]
  refine wpAny_updatePart hd ?_
  have e1' : putL name (PyData.keyHash w.params name) (.str name (s.toks + 1)) v es = es' := e1
  rw [e1', e2] at N3 D3
  refine wpAny_bind (wpAny_lookBehind D3 (by exact pastItsLine_dict (by rw [List.size_toArray, sizeLine_eq]; omega)) ?_)
  exact wpAny_pure (h _ F3 N3)
theorem slot_bexc_ga : Slot "Exception" "__getattribute__" "BaseException.__getattribute__" := PySem.F.attr_Exception.ga
theorem getE {ox : Obj} {od : Option Obj} {expr : Bool} {Q : Value → Shared → Prop} (X : K.In s.heap) (I : InstAt s.heap e ox C od) (ok : excOk K C = true)
    (hga : findIn K (.ref C) "__getattribute__" = some (some (.builtin "BaseException.__getattribute__"))) (hgt : findIn K (.ref C) "__getattr__" = some none)
    (hf : findObj K C od name = some (.value v)) (hh : handedIn v = true) (h : Q v { s with toks := s.toks + 1 }) :
    wpAny (model prog w) A (getAttr (.ref e) name expr) Q E s := by
  obtain ⟨hp, g, d, t, os⟩ := s
  dsimp only at X I h
  obtain ⟨cd, hc, hdct, ne, hB, hO, hpass⟩ := excOk_cls ok
  have L0 := I.type (M := model prog w)
  have L1 := looks_findIn (M := model prog w) X hga
  have L2 := looks_findIn (M := model prog w) X hgt
  have L3 := looks_find (M := model prog w) X I hf
  have sub : Looks (model prog w) hp (isInstance (.ref e) (.type "BaseException")) true := L0.andThen (looks_mroIn X (by unfold mroIn; rw [hc, Option.bind_some, if_neg (by rw [ne]; decide), hB]))
  unfold getAttr getAttrBy
  refine wpAny_bind (wpAny_mkText (wpAny_holding (wpAny_bind (L0 _ _ _ _ (fun _ _ z => z) (wpAny_bind (L1 _ _ _ _ (fun _ _ z => z) ?_))))))
  dsimp only
  rw [show (onTheHeap (.ref C) && Value.builtin "BaseException.__getattribute__" == Value.builtin "object.__getattribute__") = false from by rw [show (Value.builtin "BaseException.__getattribute__" == Value.builtin "object.__getattribute__") = false from by decide +kernel, Bool.and_false], if_neg (by decide)]
  unfold getAttrByItsOwn hookBefore
  rw [if_pos (show onTheHeap (.ref C) = true from rfl)]
  refine wpAny_bind (L2 _ _ _ _ (fun _ _ z => z) (wpAny_bind (wpAny_attempt (wpAny_holding ?_))))
  unfold callGetattribute
  rw [show (expr && onTheHeap (Value.builtin "BaseException.__getattribute__")) = false from Bool.and_false _, if_neg (by decide)]
  unfold boundAndCalled
  rw [slot_bexc_ga.bind]
  refine wpAny_bind (wpAny_pure ?_)
  show wpAny _ _ (call (.builtin "BaseException.__getattribute__") [.ref e, .str name t]) _ _ _
  refine wpAny_call ?_
  refine codeAny_call_builtin slot_bexc_ga.plain PySem.F.entry_bexc_ga ?_
  refine @check_slot (model prog w) _ _ ⟨hp, g, d, t + 1, os⟩ "BaseException.__getattribute__" "BaseException" "__getattribute__" (.ref e) [.str name t] [] _ (by decide +kernel) (by decide +kernel) sub (PySem.F.args_bexc_ga (.ref e) (.str name t)) ?_
  unfold Builtin.«object.__getattribute__»
  refine wpAny_bind (wpAny_pure (wpAny_bind (wpAny_pure (wpAny_bind (L0 _ _ _ _ (fun _ _ z => z) (wpAny_bind (L3 _ _ _ _ (fun _ _ z => z) ?_)))))))
  refine wpAny_pure ?_
  show wpAny _ _ (handedOut v) _ _ _
  rw [handedOut_of hh]; exact wpAny_pure h
theorem raise_pre {env : Env} {x : Sem Value} {Q : Flow → Shared → Prop} (ok : excOk K C = true) (hty : typeIn K (.ref C) = some (.type "type"))
    (h : wpAny (model prog w) A x (fun v s₁ => ∃ e ox vs, v = .ref e ∧ K.In s₁.heap ∧ s₁.heap.get? e = some ox ∧ ox.cls = .ref C ∧ ox.data = .fields vs ∧ vs[1]? = some .none ∧ wpAny (model prog w) A (raiseNew (.ref e) : Sem Flow) Q E s₁) E s) :
    wpAny (model prog w) A (raiseStmt env (some x) none) Q E s := by
  unfold raiseStmt
  refine wpAny_bind (wpAny_mono h (fun v s₁ h₁ => ?_) fun _ _ z => z)
  obtain ⟨e, ox, vs, rfl, X, he, hcl, hd, h1, hE⟩ := h₁
  obtain ⟨cd, hc, hdct, ne, hB, hO, hpass⟩ := excOk_cls ok
  obtain ⟨hp, g, d, t, os⟩ := s₁
  dsimp only at X he
  have L0 : Looks (model prog w) hp (typeOf (.ref e)) (.ref C) := hcl ▸ (Looks.ld he).andThen .now
  have sub : Looks (model prog w) hp (isInstance (.ref e) (.type "BaseException")) true := L0.andThen (looks_mroIn X (by unfold mroIn; rw [hc, Option.bind_some, if_neg (by rw [ne]; decide), hB]))
  have ty : Looks (model prog w) hp (isType (.ref e)) false := by
    intro A Q E s k q
    refine wpAny_bind (wpAny_loadPart (k _ _ he) ?_)
    rw [hd]
    exact wpAny_pure q
  have Lt := looks_typeIn (M := model prog w) X hty
  refine wpAny_bind (wpAny_pure (wpAny_bind (wpAny_holding ?_)))
  unfold excFromValue isExcClass
  refine wpAny_bind (wpAny_bind (ty _ _ _ _ (fun _ _ z => z) ?_))
  rw [if_neg Bool.false_ne_true]
  refine wpAny_pure ?_
  rw [if_neg Bool.false_ne_true]
  refine wpAny_bind (sub _ _ _ _ (fun _ _ z => z) ?_)
  rw [if_pos rfl]
  refine wpAny_pure ?_
  dsimp only
  refine wpAny_bind (ty _ _ _ _ (fun _ _ z => z) ?_)
  rw [if_neg Bool.false_ne_true]
  unfold raisedInstance
  refine wpAny_bind (wpAny_bind (L0 _ _ _ _ (fun _ _ z => z) (wpAny_bind (Lt _ _ _ _ (fun _ _ z => z) ?_))))
  rw [if_pos (show (Value.type "type" == Value.type "type") = true from beq_self_eq_true _)]
  refine wpAny_pure (wpAny_bind ?_)
  unfold setFlight
  refine wpAny_bind (wpAny_field he hd h1 ?_)
  rw [if_neg (by decide)]
  exact wpAny_pure hE
/-- an exception of one's own raised, with none being handled -/
theorem raise_own {env : Env} {x : Sem Value} {Q : Flow → Shared → Prop} (hh : A.handled = none) (ok : excOk K C = true) (hty : typeIn K (.ref C) = some (.type "type"))
    (h : wpAny (model prog w) A x (fun v s₁ => ∃ e ox vs, v = .ref e ∧ K.In s₁.heap ∧ s₁.heap.get? e = some ox ∧ ox.cls = .ref C ∧ ox.data = .fields vs ∧ vs[1]? = some .none ∧ E (.ref e) s₁) E s) :
    wpAny (model prog w) A (raiseStmt env (some x) none) Q E s :=
  raise_pre ok hty (wpAny_mono h (fun v s₁ h₁ => by
    obtain ⟨e, ox, vs, a, b, c, d, f, g, k⟩ := h₁
    exact ⟨e, ox, vs, a, b, c, d, f, g, wpAny_raiseNew_none hh k⟩) fun _ _ z => z)
theorem entry_unchain : entryFor table "proto.unchain" = some Builtin.«proto.unchain» := entryFor_of_tree (by kernel_rfl)
/-- the same while another, with nothing behind it, is being handled -/
theorem raise_chain {env : Env} {x : Sem Value} {Q : Flow → Shared → Prop} {hx : Addr} (hh : A.handled = some (.ref hx)) (ok : excOk K C = true) (hty : typeIn K (.ref C) = some (.type "type"))
    (h : wpAny (model prog w) A x (fun v s₁ => ∃ e ox vs oh hs, v = .ref e ∧ K.In s₁.heap ∧ s₁.heap.get? e = some ox ∧ ox.cls = .ref C ∧ ox.data = .fields vs ∧ vs[1]? = some .none ∧ 2 < vs.size ∧ hx ≠ e ∧ s₁.heap.get? hx = some oh ∧ oh.data = .fields hs ∧ hs[2]? = some .none ∧
      E (.ref e) { s₁ with heap := s₁.heap.update e (Obj.mapFields (·.setIfInBounds 2 (.ref hx))) }) E s) :
    wpAny (model prog w) A (raiseStmt env (some x) none) Q E s :=
  raise_pre ok hty (wpAny_mono h (fun v s₁ h₁ => by
    obtain ⟨e, ox, vs, oh, hs, a, b, d, c, g, f, g2, ne, oo, od, o2, k⟩ := h₁
    refine ⟨e, ox, vs, a, b, d, c, g, f, ?_⟩
    unfold raiseNew
    refine wpAny_bind (wpAny_handled ?_)
    rw [hh]
    dsimp only
    rw [if_pos (show (Value.ref hx != Value.ref e) = true from by simp [ne])]
    refine wpAny_bind (wpAny_holding (wpAny_runValue (codeAny_builtin entry_unchain ?_)))
    unfold Builtin.«proto.unchain»
    refine wpAny_bind (wpAny_field oo od o2 ?_)
    rw [if_pos (show (Value.none == Value.none) = true from rfl)]
    refine wpAny_bind (wpAny_pure ?_)
    refine wpAny_pure ?_
    show wpAny _ _ (updateField e 2 (.ref hx) >>= fun _ => throw (.ref e)) _ _ _
    refine wpAny_bind ?_
    unfold updateField
    refine wpAny_bind (wpAny_load d ?_)
    rw [g]
    dsimp only
    rw [if_pos g2]
    exact wpAny_update d (wpAny_throw k)) fun _ _ z => z)
end
end Mine

end
section
namespace Mine
open PySem.Calls PySem.Spec
section
variable {prog : Program} {w : World} {A₀ : Around} {E : Value → Shared → Prop} {s' : Shared} {base g G : Heap} {outer : List Env} {L a e C : Addr} {m : Str → Option Value} {name : Str} {scope : Scope} {cdv : Value}
  {n : Str} {b₀ : Stmt} {suite : List Stmt} {pos np : Pos} {rest : List ExceptHandler} {Q : Flow → Shared → Prop} {news : Led} {KF : Frag} {P : Obj → Prop}
  {p : Program} {loose : List Str} {mean : ExcName → Option Value} {mg mb : Str → Option Value} {x : Str}
theorem ground_of {B h₅ : Heap} (K : Below A₀ base outer g) (F : Fr g L G m) (hBG : ∀ b o, G.get? b = some o → b ∉ (envOf name scope L a cdv :: outer).filterMap (·.frame) → B.get? b = some o) (hBh : B.StaysIn h₅) (hsm : G.UpToSlots h₅) :
    ∃ g', KtsTurn (outer.filterMap (·.frame)) g g' ∧ Fr g' L h₅ m ∧ Below A₀ base outer g' := kts_ground K F hBG hBh hsm
/-- the exception caught by «except X as n» in the frame L -/
theorem caughtP (hP : Keep1 P) (hPc : ∀ o, P o → o.cls = .ref C) (R : Flew base G (envOf name scope L a cdv :: outer) e P news s'.heap) (F : Fr g L G m) (K : Below A₀ base outer g) (hsm : G.UpToSlots s'.heap) (XB : KF.In base) (TB : Top p loose mean mg mb base)
    (D : KtsDicts (outer.filterMap (·.frame)) g) (ex : nsIn KF mainGlobals x = some (some (.ref C))) (q : ktsIn KF C "BaseException" = true)
    (k : ∀ h' g' oe tk, KtsTurn (outer.filterMap (·.frame)) g g' → Fr g' L h' (fun y => if y = n then some (.ref e) else m y) → P oe → (∃ vs, oe.data = .fields vs) → News g' L h' ((e, oe) :: news) → (∀ q ∈ news, q.1 ≠ e) → Below A₀ base outer g' → KF.In g' → Top p loose mean mg mb g' → KtsDicts (outer.filterMap (·.frame)) g' →
      wpAny (model prog w) ((A₀.deeper (envOf name scope L a cdv)).mark (some (.ref e))) (execs (b₀ :: suite) (envOf name scope L a cdv))
        (fun f s₄ => wpAny (model prog w) (A₀.deeper (envOf name scope L a cdv)) (do bindName (envOf name scope L a cdv) n .none; unbindBehindTheSuite (envOf name scope L a cdv) n pos) (fun _ s₅ => Q f s₅) E s₄)
        (AsSuiteRaised (model prog w) ((A₀.deeper (envOf name scope L a cdv)).mark (some (.ref e))) (envOf name scope L a cdv) n pos (notedBy (model prog w) ((A₀.deeper (envOf name scope L a cdv)).mark (some (.ref e))) (envOf name scope L a cdv) (cameBackBy (model prog w) (A₀.deeper (envOf name scope L a cdv)) (envOf name scope L a cdv) E)))
        { s' with heap := h', toks := tk })
    (hk : scope.kind = .function := by rfl) (hlo : (envOf name scope L a cdv).kindOf n = some .local := by rfl) (hx : (envOf name scope L a cdv).kindOf x = some .globalImplicit := by rfl) (hd : (x == ("__debug__" : Str)) = false := by decide) :
    wpAny (model prog w) (A₀.deeper (envOf name scope L a cdv)) (noteFrame (.ref e) (envOf name scope L a cdv))
      (fun _ s₂ => wpAny (model prog w) (A₀.deeper (envOf name scope L a cdv)) (setFlight (.ref e) none) (fun _ s₃ =>
        wpAny (model prog w) (A₀.deeper (envOf name scope L a cdv)) (handleBy (.ref e) (envOf name scope L a cdv) (.ExceptHandler (some (.Name x np)) (some n) (b₀ :: suite) pos :: rest)) Q E s₃) E s₂) E s' := by
  obtain ⟨B, hB, hBG, hl, hfl⟩ := R
  have hL : B.get? L = none := by
    obtain ⟨_, ⟨L', _, hf, hn', _⟩, _⟩ := hfl.2.2.1
    obtain rfl : L = L' := Option.some.inj hf
    exact hn'
  have hne : ∀ q ∈ news, q.1 ≠ e := fun q hq z => by
    have := (hl q hq).1
    rw [z, hfl.2.1] at this
    cases this
  refine noteP_fly hP (Around.frames_deeper K.stack) rfl hfl fun h₄ f₄ u₄ => ?_
  refine flightP (fr := none) f₄ fun h₅ f₅ u₅ => ?_
  have sm₅ := (hsm.trans u₄).trans u₅
  obtain ⟨g₅, T₅, F₅, K₅⟩ := ground_of K F hBG f₅.1 sm₅
  have X₅ : KF.In g₅ := XB.keeps K₅.stays
  have P₅ : TopRead p loose mg mb g₅ := topRead_of (TB.keeps K₅.stays)
  obtain ⟨ob, vs₅, T5, oT5, ts5, hob, hPob, hd5, _⟩ := f₅.2.2.2
  obtain ⟨nm, q', N, bs, bm, hdct, sn, sub, ab, col, dd, k0, k1, k2, k3, k5, newId, hC, hbase, hbT⟩ := kts_cls X₅ q
  have hC₅ := F₅.keep _ _ hC
  refine wpAny_handleBy_cons (codeAny_handlers_test (name_K F₅ X₅ P₅ ex ?_ hk hx hd)) (by intro q; cases q)
  refine wpAny_excMatches_sub_self hC₅ hob (hPc _ hPob) hbase (codeAny_handlers_suite_as ?_)
  refine flightP (fr := none) f₅ fun h₆ f₆ u₆ => ?_
  obtain ⟨g₆, T₆, F₆, K₆⟩ := ground_of K F hBG f₆.1 (sm₅.trans u₆)
  obtain ⟨oe, vs, T, oT, ts, hoe, hPoe, hoed, _⟩ := f₆.2.2.2
  have ne₆ : g₆.get? e = none := T₆.none_ _ (kts_fresh F hBG f₆.2.1 fun o ho m => by
    obtain ⟨_, o', ho', hd⟩ := K.frames.mem m
    rw [ho] at ho'
    cases ho'
    obtain ⟨sl, hs⟩ := (sm₅.trans u₆) _ _ (F.keep _ _ ho) hd
    rw [hoe] at hs
    cases hs
    exact hd _ hoed)
  have Nl : News g₆ L h₆ news := fun q hq => ⟨f₆.1 _ _ (hl q hq).1, (fun z => by have := (hl q hq).1; rw [z, hL] at this; cases this), T₆.none_ _ (kts_none F.keep (hl q hq).2.1)⟩
  have N₆ := News.more F₆ Nl hoe (fun es n q => by rw [hoed] at q; cases q) ne₆
  have X₆ : KF.In g₆ := XB.keeps K₆.stays
  have P₆ : Top p loose mean mg mb g₆ := TB.keeps K₆.stays
  refine stN F₆ N₆ (fun h₇ F₇ N₇ => ?_) hk hlo
  exact k h₇ g₆ oe _ T₆ F₇ hPoe ⟨_, hoed⟩ N₇ hne K₆ X₆ P₆ (D.turn T₆)
/-- in flight in the frame L itself -/
def HeldIn (base g : Heap) (env : Env) (outer : List Env) (L e : Addr) (P : Obj → Prop) (news : Led) (h : Heap) : Prop :=
  ∃ B, base.StaysIn B ∧ (∀ b o, g.get? b = some o → b ∉ outer.filterMap (·.frame) → B.get? b = some o) ∧ (∀ q ∈ news, B.get? q.1 = some q.2 ∧ g.get? q.1 = none ∧ base.get? q.1 = none) ∧ FlyP B (env :: outer) e P (rawInt L) h ∧ g.UpToSlots h
theorem FlyP.same {B h h' : Heap} {env : Env} {fl : Value} (x : FlyP B (env :: outer) e P fl h) (hf : env.frame = some L) (hn : h.Ns L m) {m' : Str → Option Value} (hn' : h'.Ns L m') (hs : Heap.SameBut L h h') : FlyP B (env :: outer) e P fl h' := by
  obtain ⟨f1, f2, f3, oe, vs, T, oT, ts, he, hp, hd, h1, hnT, hTe, hT, hdT, h3⟩ := x
  obtain ⟨o, es, ep, ho, hod, _⟩ := hn
  obtain ⟨o', es', ep', ho', hod', _⟩ := hn'
  have hBL : B.get? L = none := by
    obtain ⟨_, ⟨L', _, hf', hn', _⟩, _⟩ := f3
    rw [hf] at hf'
    obtain rfl : L = L' := Option.some.inj hf'
    exact hn'
  have heL : e ≠ L := fun z => by rw [z, ho] at he; cases he; rw [hod] at hd; cases hd
  have hTL : T ≠ L := fun z => by rw [z, ho] at hT; cases hT; rw [hod] at hdT; cases hdT
  refine ⟨fun b ob q => (hs.2 b fun z => by rw [z, hBL] at q; cases q).trans (f1 b ob q), f2, ?_, oe, vs, T, oT, ts, (hs.2 e heL).trans he, hp, hd, h1, hnT, hTe, (hs.2 T hTL).trans hT, hdT, h3⟩
  clear he hT
  generalize env :: outer = l at f3
  induction l with
  | nil => trivial
  | cons env₁ r ih =>
    obtain ⟨hk, ⟨L₁, o₁, hf₁, hn₁, ho₁, hd₁⟩, hr⟩ := f3
    refine ⟨hk, ?_, ih hr⟩
    by_cases z : L₁ = L
    · subst z
      exact ⟨L₁, o', hf₁, hn₁, ho', fun vs q => by rw [hod'] at q; cases q⟩
    · exact ⟨L₁, o₁, hf₁, hn₁, (hs.2 L₁ z).trans ho₁, hd₁⟩
theorem leave_held {M : Model} {Q : Unit → Shared → Prop} (R : HeldIn base g (envOf name scope L a cdv) outer L e P news s'.heap)
    (hQ : ∀ h', Flew base g outer e P news h' → g.UpToSlots h' → Q () { s' with heap := h' }) {A : Around} {E : Value → Shared → Prop} :
    wpAny M A (leaving (envOf name scope L a cdv) (.ref e)) Q E s' := by
  obtain ⟨B, hB, hBG, hl, hfl, hu⟩ := R
  unfold leaving
  refine wpAny_bind (noteP_held (l := envOf name scope L a cdv :: outer) rfl hfl (flightP (fr := none) hfl fun h₂ f₂ u₂ => hQ h₂ ⟨B, hB, hBG, hl, f₂.tail⟩ (hu.trans u₂)))
/-- raised in the suite of an «except .. as n» of the frame L: noted, the name goes, passed on -/
theorem suite_raise {A' A : Around} {oe : Obj} {vs : Array Value} (hP : Keep1 P) (K : Below A₀ base outer g) (hA' : A'.frames = some (envOf name scope L a cdv :: outer)) (F : Fr g L s'.heap m) (N : News g L s'.heap ((e, oe) :: news)) (hne : ∀ q ∈ news, q.1 ≠ e) (hp : P oe) (hd : oe.data = .fields vs) (h1 : vs[1]? = some .none)
    (hk : scope.kind = .function) (hlo : (envOf name scope L a cdv).kindOf n = some .local)
    (hQ : ∀ h' tk, HeldIn base g (envOf name scope L a cdv) outer L e P news h' → E (.ref e) { s' with heap := h', toks := tk }) :
    AsSuiteRaised (model prog w) A' (envOf name scope L a cdv) n pos (notedBy (model prog w) A' (envOf name scope L a cdv) (cameBackBy (model prog w) A (envOf name scope L a cdv) E)) (.ref e) s' := by
  have K' := K.push (name := name) (a := a) (cd := cdv) F hk
  obtain ⟨he, heL, hge⟩ := N (e, oe) (List.Mem.head _)
  have frIn : ∀ b, b ∈ (envOf name scope L a cdv :: outer).filterMap (·.frame) → base.get? b = none := fun b hb => (K'.frames.mem hb).1
  have inAs : ∀ b, b ∈ e :: (envOf name scope L a cdv :: outer).filterMap (·.frame) → b = e ∨ b = L ∨ b ∈ outer.filterMap (·.frame) := fun b hb => by
    rcases List.mem_cons.mp hb with z | z
    · exact .inl z
    · exact .inr (kts_mem z)
  have stB : base.StaysIn (hideAll s'.heap (e :: (envOf name scope L a cdv :: outer).filterMap (·.frame))) := fun b o q => hideAll_get _ (K'.stays b o q) fun hm => by
    rcases List.mem_cons.mp hm with z | z
    · have := K.stays b o q; rw [z, hge] at this; cases this
    · rw [frIn b z] at q; cases q
  have hBG : ∀ b o, g.get? b = some o → b ∉ outer.filterMap (·.frame) → (hideAll s'.heap (e :: (envOf name scope L a cdv :: outer).filterMap (·.frame))).get? b = some o := fun b o q nm => hideAll_get _ (F.keep b o q) fun hm => by
    rcases inAs b hm with z | z | z
    · rw [z, hge] at q; cases q
    · rw [z, kts_self F] at q; cases q
    · exact nm z
  have hl : ∀ q ∈ news, (hideAll s'.heap (e :: (envOf name scope L a cdv :: outer).filterMap (·.frame))).get? q.1 = some q.2 ∧ g.get? q.1 = none ∧ base.get? q.1 = none := fun q hq =>
    ⟨hideAll_get _ (N q (List.mem_cons_of_mem _ hq)).1 fun hm => by
      rcases inAs q.1 hm with z | z | z
      · exact hne q hq z
      · exact (N q (List.mem_cons_of_mem _ hq)).2.1 z
      · obtain ⟨_, o, ho, _⟩ := K.frames.mem z
        rw [(N q (List.mem_cons_of_mem _ hq)).2.2] at ho
        exact absurd ho (by simp), (N q (List.mem_cons_of_mem _ hq)).2.2, none_base K.stays (N q (List.mem_cons_of_mem _ hq)).2.2⟩
  refine noteP_made (B := hideAll s'.heap (e :: (envOf name scope L a cdv :: outer).filterMap (·.frame))) hP hA' (funFrames_hide K'.frames fun env he b hb => List.mem_cons_of_mem _ (List.mem_filterMap.mpr ⟨env, he, hb⟩)) rfl he hp (fun b o q => of_hideAll _ q) (hideAll_none _ (List.Mem.head _)) hd h1 fun h₁ f₁ u₁ => ?_
  have n₁ : h₁.Ns L m := u₁.ns F.ns
  refine wpAny_nameGoes hlo n₁ (by show (scope.kind == .class || (scope.kind == .module && L != mainGlobals)) = false; rw [hk]; rfl) fun h₂ m₂ n₂ s₂ => ?_
  have f₂ := f₁.same rfl n₁ n₂ s₂
  have noL : ∀ b o, g.get? b = some o → b ≠ L := fun b o q z => by rw [z, kts_self F] at q; cases q
  have u₂ : g.UpToSlots h₂ := fun b o q hnf => by
    obtain ⟨sl, hs⟩ := (Heap.UpToSlots.of_keeps F.keep).trans u₁ b o q hnf
    exact ⟨sl, (s₂.2 b (noL b o q)).trans hs⟩
  obtain ⟨_, _, _, oe₂, vs₂, T, oT, ts, he₂, hp₂, hd₂, h1₂, _⟩ := f₂
  unfold PySem.passOn
  refine wpAny_bind (wpAny_field he₂ hd₂ h1₂ ?_)
  rw [if_neg (by simp)]
  refine wpAny_bind (flightP (fr := some L) (f₁.same rfl n₁ n₂ s₂) fun h₃ f₃ u₃ => wpAny_throw ?_)
  refine noteP_held (l := envOf name scope L a cdv :: outer) rfl f₃ ?_
  have f₃' := f₃
  obtain ⟨_, _, _, oe₃, vs₃, T₃, oT₃, ts₃, he₃, hp₃, hd₃, h1₃, _⟩ := f₃
  unfold cameBackBy
  refine wpAny_bind (wpAny_field he₃ hd₃ h1₃ ?_)
  rw [if_neg (by simp)]
  refine flightP (fr := some L) f₃' fun h₄ f₄ u₄ => hQ h₄ _ ⟨_, stB, hBG, hl, f₄, (u₂.trans u₃).trans u₄⟩
end
theorem setE_next' {prog : Program} {w : World} {A : Around} {E : Value → Shared → Prop} {s : Shared} {K : Frag} {C L e : Addr} {h₀ : Heap} {m : Str → Option Value} {rest : Led} {name : Str} {v : Value} {vs : Array Value} {d : Addr} {es es' : List DictEntry} {n n' : Nat} {o : Obj} {Q : Unit → Shared → Prop} (F : Fr h₀ L s.heap m) (X₀ : K.In h₀) (N : News h₀ L s.heap ((d, dictOf es n) :: (e, excObj C (some d) vs) :: rest)) (hlt : ∀ q ∈ (e, o) :: rest, q.1 < d) (ok : excOk K C = true)
    (hs : findIn K (.ref C) "__setattr__" = some (some (.builtin "object.__setattr__"))) (ht : takerIn K C name = some none) (hl : (getL name es).isSome = true)
    (hp : (putL name (PyData.keyHash w.params name) (.str name (s.toks + 1)) v es, putN name es n) = (es', n')) (hz : es'.length ≤ 1000)
    (h : ∀ h', Fr h₀ L h' m → News h₀ L h' ((d, dictOf es' n') :: (e, excObj C (some d) vs) :: rest) → Q () { s with heap := h', toks := s.toks + 2 }) :
    wpAny (model prog w) A (setAttr (.ref e) name v) Q E s :=
  setE_next F X₀ N (Nat.ne_of_lt (hlt (e, o) (.head _))) (fun q hq => Nat.ne_of_lt (hlt q (.tail _ hq))) ok hs ht hl hp hz h
end Mine

end
section
namespace Mine
open PySem.Calls PySem.Spec
/-- an exception of the class C, with the dict d and the context cx -/
def XP (C d : Addr) (cx : Value) : Obj → Prop := fun o => o.cls = .ref C ∧ o.dict = some d ∧ ∃ vs, o.data = .fields vs ∧ vs[2]? = some cx
theorem keep_XP {C d : Addr} {cx : Value} : Keep1 (XP C d cx) := by
  rintro o v ⟨a, b, vs, c, e⟩
  have hm : Obj.mapFields (·.setIfInBounds 1 v) o = { o with data := .fields (vs.setIfInBounds 1 v) } := by
    obtain ⟨oc, od, odt, osl⟩ := o
    dsimp only at c
    subst c
    rfl
  rw [hm]
  exact ⟨a, b, _, rfl, by rw [Array.getElem?_setIfInBounds]; simpa using e⟩
theorem XP_cls {C d : Addr} {cx : Value} {o : Obj} (h : XP C d cx o) : o.cls = .ref C := h.1
/-- a contract of a def that may raise, with none being handled -/
noncomputable def CtrE (w : World) (f : Addr) (led : Led) (vs : List Value) (cost : Nat) (post : (Value → Led → Prop) → Prop) (epost : (Addr → (Obj → Prop) → Led → Prop) → Prop) : Prop :=
  ∀ (mean : ExcName → Option Value) (mg mb : Str → Option Value) (dp un : Nat) (gd : Option (List Code)) (cn : Str) (cs : Scope) (a : Addr) (ccd : Value) (cl : List (Str × Addr)) (outer : List Env) (A₀ : Around) (base h₀ : Heap) (L : Addr) (m : Str → Option Value) (sh : Heap) (sg : Array GenState) (sd : Drawn) (sk : Nat) (so : OsState)
    (Q E : Value → Shared → Prop),
    Below A₀ base outer h₀ → Fr h₀ L sh m → (Mine.hd0.heap_1 w.params).In h₀ → News h₀ L sh led → Top vw lo mean mg mb h₀ → cs.kind = .function → dp + cost < recursionLimit → un + 8 * cost < cLine →
    (Mine.hd0.heap_1 w.params).In base → Top vw lo mean mg mb base → KtsDicts (outer.filterMap (·.frame)) h₀ →
    post (fun r led' => ∀ h' tk', Fr h₀ L h' m → News h₀ L h' led' → Q r ⟨h', sg, sd, tk', so⟩) →
    epost (fun e P led' => ∀ g h' tk', Fr h₀ L g m → Flew base g (envX cn cs L a ccd cl :: outer) e P led' h' → g.UpToSlots h' → E (.ref e) ⟨h', sg, sd, tk', so⟩) →
    wpAny (model prg w) (top none dp un gd cn cs L a ccd cl outer) (call (.ref f) vs) Q E ⟨sh, sg, sd, sk, so⟩
theorem useE {w : World} {fn : Addr} {led : Led} {vs : List Value} {cost : Nat} {post : (Value → Led → Prop) → Prop} {epost : (Addr → (Obj → Prop) → Led → Prop) → Prop} (C : CtrE w fn led vs cost post epost)
    {mean : ExcName → Option Value} {mg mb : Str → Option Value} {dp un : Nat} {gd : Option (List Code)} {cn : Str} {cs : Scope} {a : Addr} {ccd : Value} {cl : List (Str × Addr)} {outer : List Env} {A₀ : Around} {base h₀ : Heap} {L : Addr} {m : Str → Option Value} {s : Shared} {Q E : Value → Shared → Prop}
    {A : Around} {av : List Value} (hV : av = vs) (hA : A = top none dp un gd cn cs L a ccd cl outer) (B : Below A₀ base outer h₀) (F : Fr h₀ L s.heap m) (X : (Mine.hd0.heap_1 w.params).In h₀) (N : News h₀ L s.heap led) (T : Top vw lo mean mg mb h₀) (K : cs.kind = .function) (D : dp + cost < recursionLimit) (U : un + 8 * cost < cLine)
    (XB : (Mine.hd0.heap_1 w.params).In base) (TB : Top vw lo mean mg mb base) (DD : KtsDicts (outer.filterMap (·.frame)) h₀)
    (hret : post (fun r led' => ∀ h' tk', Fr h₀ L h' m → News h₀ L h' led' → Q r { s with heap := h', toks := tk' }))
    (hexc : epost (fun e P led' => ∀ g h' tk', Fr h₀ L g m → Flew base g (envX cn cs L a ccd cl :: outer) e P led' h' → g.UpToSlots h' → E (.ref e) { s with heap := h', toks := tk' })) :
    wpAny (model prg w) A (call (.ref fn) av) Q E s :=
  by subst hA hV; exact C _ _ _ _ _ _ _ _ _ _ _ _ _ _ _ _ _ _ _ _ _ _ _ _ B F X N T K D U XB TB DD hret hexc
theorem dictsPush {h₀ g : Heap} {L a : Addr} {m : Str → Option Value} {cn : Str} {cs : Scope} {ccd : Value} {cl : List (Str × Addr)} {outer : List Env} (FG : Fr h₀ L g m) (D : KtsDicts (outer.filterMap (·.frame)) h₀) : KtsDicts ((envX cn cs L a ccd cl :: outer).filterMap (·.frame)) g := fun b hb => by
  have hb' : b = L ∨ b ∈ outer.filterMap (·.frame) := by
    simp only [List.filterMap_cons] at hb
    exact (List.mem_cons.mp hb)
  rcases hb' with rfl | hb'
  · obtain ⟨o, es, ep, ho, hd, _⟩ := FG.ns
    exact ⟨o, es, ep, ho, hd⟩
  · obtain ⟨o, es, n, ho, hd⟩ := D b hb'
    exact ⟨o, es, n, FG.keep _ _ ho, hd⟩
theorem Flew.fewer {base G : Heap} {l : List Env} {e : Addr} {P : Obj → Prop} {news news' : Led} {h : Heap} (x : Flew base G l e P news h) (hs : ∀ q ∈ news', q ∈ news) : Flew base G l e P news' h := by
  obtain ⟨B, a, b, c, d⟩ := x
  exact ⟨B, a, b, fun q hq => c q (hs q hq), d⟩
section
variable {prog : Program} {w : World} {A : Around} {E : Value → Shared → Prop} {s : Shared} {K : Frag} {C : Addr} {env : Env} {x : Expr} {pos : Pos} {Q : Flow → Shared → Prop}
def Raised (K : Frag) (C : Addr) (E : Value → Shared → Prop) (v : Value) (s₁ : Shared) : Prop :=
  ∃ e ox vs, v = .ref e ∧ K.In s₁.heap ∧ s₁.heap.get? e = some ox ∧ ox.cls = .ref C ∧ ox.data = .fields vs ∧ vs[1]? = some .none ∧ E (.ref e) s₁
def Raised2 (K : Frag) (C hx : Addr) (E : Value → Shared → Prop) (v : Value) (s₁ : Shared) : Prop :=
  ∃ e ox vs oh hs, v = .ref e ∧ K.In s₁.heap ∧ s₁.heap.get? e = some ox ∧ ox.cls = .ref C ∧ ox.data = .fields vs ∧ vs[1]? = some .none ∧ 2 < vs.size ∧ hx ≠ e ∧ s₁.heap.get? hx = some oh ∧ oh.data = .fields hs ∧ hs[2]? = some .none ∧
      E (.ref e) { s₁ with heap := s₁.heap.update e (Obj.mapFields (·.setIfInBounds 2 (.ref hx))) }
theorem raise_at (hh : A.handled = none) (ok : excOk K C = true) (hty : typeIn K (.ref C) = some (.type "type"))
    (h : wpAny (model prog w) A (eval x env) (Raised K C E) E s) :
    wpAny (model prog w) A (exec (.Raise (some x) none pos) env) Q E s := by
  show wpAny (model prog w) A (do standAt pos; raiseStmt env (some (do let v ← eval x env; standAt pos; pure v)) none) Q E s
  refine wpAny_bind (wpAny_standAt (raise_own hh ok hty (wpAny_bind (wpAny_mono h (fun v s₁ h₁ => ?_) fun _ _ z => z))))
  exact wpAny_bind (wpAny_standAt (wpAny_pure h₁))
theorem raise_at2 {hx : Addr} (hh : A.handled = some (.ref hx)) (ok : excOk K C = true) (hty : typeIn K (.ref C) = some (.type "type"))
    (h : wpAny (model prog w) A (eval x env) (Raised2 K C hx E) E s) :
    wpAny (model prog w) A (exec (.Raise (some x) none pos) env) Q E s := by
  show wpAny (model prog w) A (do standAt pos; raiseStmt env (some (do let v ← eval x env; standAt pos; pure v)) none) Q E s
  refine wpAny_bind (wpAny_standAt (raise_chain hh ok hty (wpAny_bind (wpAny_mono h (fun v s₁ h₁ => ?_) fun _ _ z => z))))
  exact wpAny_bind (wpAny_standAt (wpAny_pure h₁))
end
theorem nf0 {h₀ h : Heap} {L : Addr} {x y : Addr × Obj} {r : Led} (N : News h₀ L h (x :: y :: r)) : News h₀ L h (y :: x :: r) := fun p hp => N p (by simp only [List.mem_cons] at hp ⊢; rcases hp with h | h | h <;> simp [h])
/-- a contract with none being handled -/
noncomputable def CtrN (w : World) (f : Addr) (led : Led) (vs : List Value) (cost : Nat) (post : (Value → Led → Prop) → Prop) : Prop :=
  ∀ (mean : ExcName → Option Value) (mg mb : Str → Option Value) (dp un : Nat) (gd : Option (List Code)) (cn : Str) (cs : Scope) (a : Addr) (ccd : Value) (cl : List (Str × Addr)) (outer : List Env) (A₀ : Around) (base h₀ : Heap) (L : Addr) (m : Str → Option Value) (sh : Heap) (sg : Array GenState) (sd : Drawn) (sk : Nat) (so : OsState)
    (Q E : Value → Shared → Prop),
    Below A₀ base outer h₀ → Fr h₀ L sh m → (Mine.hd0.heap_1 w.params).In h₀ → News h₀ L sh led → Top vw lo mean mg mb h₀ → cs.kind = .function → dp + cost < recursionLimit → un + 8 * cost < cLine →
    post (fun r led' => ∀ h' tk', Fr h₀ L h' m → News h₀ L h' led' → Q r ⟨h', sg, sd, tk', so⟩) →
    wpAny (model prg w) (top none dp un gd cn cs L a ccd cl outer) (call (.ref f) vs) Q E ⟨sh, sg, sd, sk, so⟩
theorem useN {w : World} {fn : Addr} {led : Led} {vs : List Value} {cost : Nat} {post : (Value → Led → Prop) → Prop} (C : CtrN w fn led vs cost post)
    {mean : ExcName → Option Value} {mg mb : Str → Option Value} {dp un : Nat} {gd : Option (List Code)} {cn : Str} {cs : Scope} {a : Addr} {ccd : Value} {cl : List (Str × Addr)} {outer : List Env} {A₀ : Around} {base h₀ : Heap} {L : Addr} {m : Str → Option Value} {s : Shared} {Q E : Value → Shared → Prop}
    {A : Around} {av : List Value} (hV : av = vs) (hA : A = top none dp un gd cn cs L a ccd cl outer) (B : Below A₀ base outer h₀) (F : Fr h₀ L s.heap m) (X : (Mine.hd0.heap_1 w.params).In h₀) (N : News h₀ L s.heap led) (T : Top vw lo mean mg mb h₀) (K : cs.kind = .function) (D : dp + cost < recursionLimit) (U : un + 8 * cost < cLine)
    (hret : post (fun r led' => ∀ h' tk', Fr h₀ L h' m → News h₀ L h' led' → Q r { s with heap := h', toks := tk' })) :
    wpAny (model prg w) A (call (.ref fn) av) Q E s :=
  by subst hA hV; exact C _ _ _ _ _ _ _ _ _ _ _ _ _ _ _ _ _ _ _ _ _ _ _ _ B F X N T K D U hret
end Mine

end
section
namespace Mine
open PySem.Calls PySem.Spec PyProof.Rows.LCg PyProof.Rows.LCt
section
variable {prog : Program} {w : World} {A : Around} {E : Value → Shared → Prop} {s : Shared} {h₀ : Heap} {L : Addr} {m : Str → Option Value} {env : Env}
/-- the source of a comprehension is a text -/
def SrcST (prog : Program) (w : World) (A : Around) (h₀ : Heap) (L : Addr) (m : Str → Option Value) (env : Env) (ct elt : Expr) (x : Str) (scope : Scope) (cl : List (Str × Addr)) (Fin : Shared → List Value → List (Addr × Obj) → Prop) (xv : Value) (s₁ : Shared) : Prop :=
  ∃ y t news, xv = .str y t ∧ A.handled = none ∧ Fr h₀ L s₁.heap m ∧ News h₀ L s₁.heap news ∧ y.cps.size ≤ sizeLine ∧
    ∀ s₂ : Shared, (∃ h, s₂ = { s₁ with heap := h }) → CompRestT prog w A h₀ L m env ct elt x scope cl s₂ (fun _ => True) (SignAt y) (Fin s₂) y.cps.size 0 [] news
theorem ListComp_TS {ct elt iter : Expr} {x : Str} {px : Pos} {scope : Scope} {cl : List (Str × Addr)} {pos : Pos} {Q : Value → Shared → Prop} (_F₀ : Fr h₀ L s.heap m)
    (hclos : closureFor scope env = pure cl) (hcell : ∀ y ∈ scope.names, y.2 ≠ .cell) (hkind : scope.kind = .function)
    (hnames : ∀ y ∈ scope.names, y.2 = .local → scope.names.lookup y.1 = some .local) (hx : scope.names.lookup x = some .local)
    (h : wpAny (model prog w) A (eval iter env) (SrcST prog w A h₀ L m env ct elt x scope cl (fun s₂ => FinE h₀ L m s₂ Q)) E s)
    (hs : ∀ x, foldedSetIterable iter env x = pure x := by intro _; rfl) :
    wpAny (model prog w) A (eval (.ListComp elt [⟨.Name x px, iter, [ct], 0⟩] scope pos) env) Q E s := by
  rw [eval_ListComp]
  refine wpAny_comprehension_free (use := none) rfl hs hclos hkind hnames (wpAny_mono h (fun xv s₁ h₁ => ?_) fun _ _ e => e)
  obtain ⟨y, t, news, rfl, hh, F, N, hsz, R⟩ := h₁
  have go : ∀ (o : Obj) (St : Nat → Heap → Prop), (∀ A' : Around, A'.handled = none → Walks prog w A' s₁.heap.objs.size [s₁.heap.objs.size] [s₁.heap.objs.size] y.cps.size (SignAt y) St) → (∀ i h, St i h → ∃ ob, h.get? s₁.heap.objs.size = some ob) → St 0 (s₁.heap.push o) →
      wpAny (model prog w) A (newList []) (fun acc s₃ => wpAny (model prog w) A (newFunctionEnv scope env.globals cl [] env.qual none .none (some env)) (fun cenv s₄ =>
      codeAny (model prog w) A (.compStart (.ListComp elt [⟨.Name x px, iter, [ct], 0⟩] scope pos) 0 (.ref s₁.heap.objs.size) acc { cenv with scope := relabel scope env }) (compPost (model prog w) A E none Q acc cenv.locals) s₄) E s₃) E { s₁ with heap := s₁.heap.push o } := by
    intro o St hW hIo hst
    have up : ∀ b ob, s₁.heap.get? b = some ob → (s₁.heap.push o).get? b = some ob := fun b ob e => Heap.get?_push_of_some _ e
    refine block_T (hW A hh) hsz hIo (fun i h h' ob nw st e e' _ _ _ => (hW A hh).frame _ _ _ st fun b hb ob' eb => by
        rw [List.mem_singleton.mp hb] at eb ⊢
        rw [e] at eb
        exact e'.trans eb) hcell hkind hx hst (fun b hb => by
        rw [List.mem_singleton.mp hb]
        show s₁.heap.objs.size < (s₁.heap.push _).objs.size
        rw [Heap.size_push]; exact Nat.lt_succ_self _)
      (F.keeps up) (N.grown up) (Nat.ne_of_lt F.ns.lt) (next_is_new F) (fun p hp => Nat.ne_of_lt (Heap.lt_size (N p hp).1)) trivial (R _ ⟨_, rfl⟩) ?_
    intro D C h tk m' ys news' F' N' o1 hn hC₀ hD₀ hCL hDL hCD offC fin
    refine ⟨m', hn, fun h'' hs'' => fin D h'' tk (F'.change hs'' hCL hC₀) (fun p hp => ?_) o1⟩
    refine ⟨hs''.extBut _ _ ?_ (N' p hp).1, (N' p hp).2⟩
    rcases List.mem_cons.mp hp with rfl | hp
    · exact Ne.symm hCD
    · exact offC p hp
  cases ha : y.cps.all (· < 128)
  · exact wpAny_pyIter_wide ha (go _ _ (fun A' hA => Walks.strWide hA _ y t) (fun i h st => by obtain ⟨ob, e, _⟩ := st; exact ⟨ob, e⟩) ⟨_, Heap.get?_push_size _ rfl, rfl, rfl⟩)
  · exact wpAny_pyIter_ascii ha (go _ _ (fun A' hA => Walks.strAscii hA _ y t) (fun i h st => by obtain ⟨ob, e, _⟩ := st; exact ⟨ob, e⟩) ⟨_, Heap.get?_push_size _ rfl, rfl, rfl⟩)
/-- what one turn of a comprehension with a test hands on: the test says b, the ledger stands -/
def Turn (prog : Program) (w : World) (A : Around) (h₀ : Heap) (L : Addr) (m : Str → Option Value) (env : Env) (elt : Expr) (scope : Scope) (cl : List (Str × Addr)) (S : List (Addr × Obj) → Prop) (news : List (Addr × Obj)) (s₁ : Shared) (I : Addr) (oI : Obj) (C : Addr) (oC : Obj) (D : Addr) (ys : List Value) (E' : Value → Shared → Prop) (b₀ b : Bool) (s' : Shared) : Prop :=
  b = b₀ ∧ if b = true then wpAny (model prog w) A (eval elt (compEnvC scope cl C env)) (CompEnd h₀ L m s₁ I oI C oC D (lst ys) S (fun _ news' => news' = news)) E' s'
    else CompEnd h₀ L m s₁ I oI C oC D (lst ys) S (fun _ news' => news' = news) Value.none s'
theorem rest_len {ct elt : Expr} {x : Str} {scope : Scope} {cl : List (Str × Addr)} {S : List (Addr × Obj) → Prop} {P : Nat → Value → Prop} {Fin : List Value → List (Addr × Obj) → Prop} {news : List (Addr × Obj)} {n : Nat} (pz : Nat → Bool)
    (turn : ∀ i v I oI C oC D m₂ ys h tk (E' : Value → Shared → Prop), i < n → P i v → NsObj oC m₂ → m₂ x = some v → Fr h₀ L h m → News h₀ L h ((I, oI) :: (C, oC) :: (D, lst ys) :: news) → Off3 I C D news → ((@Ne Nat I C) ∧ (@Ne Nat I D) ∧ (@Ne Nat C D)) →
      wpAny (model prog w) A (isTrue ct (compEnvC scope cl C env) (eval ct (compEnvC scope cl C env))) (Turn prog w A h₀ L m env elt scope cl S news { s with heap := h, toks := tk } I oI C oC D ys E' (pz i)) E' { s with heap := h, toks := tk })
    (fin : ∀ ys : List Value, ys.length = ((List.range n).filter pz).length → Fin ys news) : CompRestT prog w A h₀ L m env ct elt x scope cl s S P Fin n 0 [] news := by
  have key : ∀ (j i : Nat) (ys : List Value), i + j = n → ys.length = ((List.range i).filter pz).length → CompRestT prog w A h₀ L m env ct elt x scope cl s S P Fin j i ys news := by
    intro j
    induction j with
    | zero =>
      intro i ys hi hy
      obtain rfl : i = n := by omega
      exact CompRestT.zero (fin ys hy)
    | succ j ih =>
      intro i ys hi hy
      refine CompRestT.succ ?_
      intro v I oI C oC D m₂ h tk E' hv hC hx F N off ne
      refine wpAny_mono (turn i v I oI C oC D m₂ ys h tk E' (by omega) hv hC hx F N off ne) (fun b s₂ hq => ?_) fun _ _ e => e
      obtain ⟨hb, hq⟩ := hq
      cases b with
      | true =>
        simp only [if_true] at hq ⊢
        refine wpAny_mono hq (fun y s₃ hr => ?_) fun _ _ e => e
        obtain ⟨h', tk', nw, e, F', N', off', hS, rfl⟩ := hr
        refine ⟨h', tk', _, e, F', N', off', hS, ih (i + 1) _ (by omega) ?_⟩
        rw [List.length_append, List.length_singleton, List.range_succ, List.filter_append, List.length_append, hy]
        simp [← hb]
      | false =>
        simp only [Bool.false_eq_true, if_false] at hq ⊢
        obtain ⟨h', tk', nw, e, F', N', off', hS, rfl⟩ := hq
        refine ⟨h', tk', _, e, F', N', off', hS, ih (i + 1) _ (by omega) ?_⟩
        rw [List.range_succ, List.filter_append, List.length_append, hy]
        simp [← hb]
  exact key n 0 [] (by omega) rfl
end
end Mine

end
namespace Mine
set_option hygiene false
theorem fill_all : Mine.hd0.heap_1 = Mine.hd0.heap_1 ∧ PySem.Challenge.rw_on0239_01 = PySem.Challenge.rw_on0239_01 := by
  k_fill
  exact ⟨rfl, rfl⟩
local macro_rules | `(tactic| walk_at "mine fold") => `(tactic| ((fail_if_success (refine' chkQ (v := _) (s' := _) ?qf9 ?qg9; case' qg9 => k_unfold)); refine foldQ ?_; intro qk))
local macro_rules | `(tactic| walk_at "execs cons") => `(tactic| walk_at "mine fold")
local macro_rules | `(tactic| walk_at "eval BinOp") => `(tactic| walk_at "mine fold")
local macro_rules | `(tactic| walk_at "eval Call") => `(tactic| walk_at "mine fold")
local macro_rules | `(tactic| walk_at "eval Call Attribute") => `(tactic| walk_at "mine fold")
local macro_rules | `(tactic| walk_at "eval Compare") => `(tactic| walk_at "mine fold")
local macro_rules | `(tactic| walk_at "eval IfExp") => `(tactic| walk_at "mine fold")
local macro_rules | `(tactic| walk_at "eval Tuple") => `(tactic| walk_at "mine fold")
local macro_rules | `(tactic| walk_at "eval Subscript") => `(tactic| walk_at "mine fold")
local macro_rules | `(tactic| walk_at "eval UnaryOp") => `(tactic| walk_at "mine fold")
local macro_rules | `(tactic| walk_at "isTrue Compare") => `(tactic| walk_at "mine fold")
local macro_rules | `(tactic| walk_at "isTrue BoolOp") => `(tactic| walk_at "mine fold")
local macro_rules | `(tactic| walk_at "mine u") => `(tactic| (intros; with_unfolding_all rfl))
local macro_rules | `(tactic| walk_at "mine r") => `(tactic| with_reducible assumption)
local macro_rules | `(tactic| walk_at "mine FN") => `(tactic| ((with_reducible rename Fr _ _ _ _ => F9); with_reducible rename News _ _ _ _ => N9))
local macro_rules | `(tactic| walk_at "storeName") => `(tactic| (k_dflt (refine' store_upd (by k_asm) (by k_asm) ?_ (by exact rfl) (by exact rfl); k_whole); intros; k_sweep))
local macro_rules | `(tactic| walk_at "mine stop") => `(tactic| refine Stop.go ?_)
local macro_rules | `(tactic| walk_at "mine stopJ") => `(tactic| ((fail_if_success (with_reducible refine chkJ ?_)); walk_at "mine stop"))
local macro_rules | `(tactic| walk_at "Join") => `(tactic| walk_at "mine stop")
local macro_rules | `(tactic| k_ne) => `(tactic| (refine neN ?_; (try dsimp only); with_reducible first | exact Nat.ne_of_gt (by assumption) | exact Nat.ne_of_lt (by assumption) | fail))
local macro_rules | `(tactic| k_all) => `(tactic| assumption)
local macro_rules | `(tactic| walk_at "subscriptTail Name Constant ref int") => `(tactic| (with_unfolding_all refine' item_litK (by is_list) (by decide) (by decide) (by exact rfl) ?_ (by walk_at "mine u"); k_whole))
local macro_rules | `(tactic| walk_at "mine t") => `(tactic| (refine foldM F' ?_; clear F'; intro m' F'; walk_at "mine t0"))
local macro_rules | `(tactic| walk_at "mine t0") => `(tactic| ((try dsimp only); (try k_lift B'); (try k_fold)))
local macro_rules | `(tactic| walk_at "mine e") => `(tactic| ((case hA => exact rfl); (case hf => exact rfl); (case hke => first | exact rfl | assumption); (case B => k_asm); (case F => k_asm); (case X₀ => k_asm); (case N => k_asm); (case T => k_asm); (case ho => k_is); (case hcd => k_is); (case hroom => ktr_room); (case hbind => first | exact BindsTo.of_eq rfl | exact binds_K (by k_in) rfl (by k_is) rfl rfl rfl); (case hco => exact rfl); (case hgen => exact rfl); (case hk => exact rfl)))
local macro_rules | `(tactic| k_enter) => `(tactic| (refine' code_def ?B ?F ?X₀ ?N ?T ?hA ?hf ?hke ?ho ?hcd ?hroom ?hbind ?hloc ?_ ?hco ?hgen ?hk ?hcell; walk_at "mine e"; (case hcell => decide); (case hloc => exact locs rfl); k_whole; intro g' L' h' FG' F' N' B' X' T'; walk_at "mine t"))
local macro_rules | `(tactic| walk_at "exec While BoolOp") => `(tactic| walk_at "mine stop")
local macro_rules | `(tactic| walk_at "exec While Compare cons nil") => `(tactic| walk_at "mine stop")
local macro_rules | `(tactic| walk_at "exec While Call") => `(tactic| walk_at "mine stop")
local macro_rules | `(tactic| walk_at "WEnd") => `(tactic| dsimp only [WEnd])
local macro_rules | `(tactic| walk_at "subscriptTail Name Attribute str int") => `(tactic| (refine' item_at (by omega) (by omega) (by first | assumption | omega) ?_ (by walk_at "mine u") (by walk_at "mine u"); intros))
local macro_rules | `(tactic| walk_at "subscriptTail Name Slice str ref") => `(tactic| (walk_at "mine FN"; refine' slice_pk (s := ⟨_, _, _, _, _⟩) (by omega) F9 N9 ?_ ?_ (by walk_at "mine u") (by walk_at "mine u") (by size_fits); all_goals (intros; k_sweep)))
local macro_rules | `(tactic| walk_at "compareOp In str str") => `(tactic| refine in_one ?_)
local macro_rules | `(tactic| walk_at "compareOp NotIn str str") => `(tactic| refine notin_one ?_)
local macro_rules | `(tactic| walk_at "mine in") => `(tactic| (intros; first | ((with_reducible refine And.intro ?_ ?_) <;> walk_at "mine in") | ((try intro h' tk' F' N'); k_sweep)))

section
abbrev srcObj (a b : Int) (ta tb : Tok) (c : Nat) : Obj := listOf #[.int a ta, .int b tb] c
theorem C_take {w : World} {src : Addr} {c : Nat} {a b : Int} {ta tb : Tok} {tp : Int} {tt : Tok} {rest : Led} (ha : 0 ≤ a) (hb : 0 ≤ b) (hb2 : b < 2147483647) (ht : 0 < tp) (ht2 : tp < 100) (hr : ∀ p ∈ rest, p.1 ≠ src) :
    Ctr w 255 ((src, srcObj a b ta tb c) :: rest) [.ref src, .int tp tt] 2
      (fun k => ∀ r t a' b' ta' tb', 0 ≤ r → r < tp → 0 ≤ a' → 0 ≤ b' → b' < 2147483647 → k (.int r t) ((src, srcObj a' b' ta' tb' c) :: rest)) := by
  unfold Ctr
  intro mean mg mb hd dp un gd cn cs ad ccd cl outer A₀ base h₀ L m sh sg sd sk so Q E B F X N T hk hdp hun hret
  k_steps
  · refine hret _ _ _ _ _ _ ?_ ?_ ?_ ?_ ?_ _ _ (by k_asm) (by k_asm)
    · exact Int.fmod_nonneg ha (by omega)
    · exact Int.fmod_lt_of_pos _ ht
    · exact Int.fdiv_nonneg ha (by omega)
    · exact hb
    · exact hb2
  · refine hret _ _ _ _ _ _ ?_ ?_ ?_ ?_ ?_ _ _ (by k_asm) (by k_asm)
    · exact Int.fmod_nonneg (Int.fdiv_nonneg (Int.fmod_nonneg (Int.mul_nonneg (Int.fmod_nonneg (by omega) (by omega)) (Int.fmod_nonneg (by omega) (by omega))) (by omega)) (by omega)) (by omega)
    · exact Int.fmod_lt_of_pos _ ht
    · exact ha
    · exact Int.fmod_nonneg (by omega) (by omega)
    · exact Int.fmod_lt_of_pos _ (by omega)
theorem C_isover {w : World} {x dx : Addr} {k1 k2 t1 t2 : Tok} {T : Str} {p : Int} {rest : Led} (hT : T.length ≤ 1000) :
    Ctr w 164 ((x, instObj 237 dx) :: (dx, scD w k1 T t1 k2 p t2) :: rest) [.ref x] 2
      (fun k => k (.bool (decide ((T.length : Int) ≤ p))) ((x, instObj 237 dx) :: (dx, scD w k1 T t1 k2 p t2) :: rest)) := by
  unfold Ctr
  intro mean mg mb hd dp un gd cn cs ad ccd cl outer A₀ base h₀ L m sh sg sd sk so Q E B F X N Tp hk hdp hun hret
  k_steps
  exact hret _ _ (by k_asm) (by k_asm)
/-- the sign at p, or nothing -/
abbrev pk (T : Str) (p : Int) : Str := Txt.slice T (some p) (some (p + 1))
theorem C_peek {w : World} {x dx : Addr} {k1 k2 t1 t2 : Tok} {T : Str} {p : Int} {rest : Led} (hT : T.length ≤ 1000) (h0 : 0 ≤ p) :
    Ctr w 171 ((x, instObj 237 dx) :: (dx, scD w k1 T t1 k2 p t2) :: rest) [.ref x] 2
      (fun k => (p < T.length → ∀ c t, cd T p = c → k (.str ⟨#[c]⟩ t) ((x, instObj 237 dx) :: (dx, scD w k1 T t1 k2 p t2) :: rest)) ∧
        (¬ p < T.length → ∀ t, k (.str ⟨#[]⟩ t) ((x, instObj 237 dx) :: (dx, scD w k1 T t1 k2 p t2) :: rest))) := by
  unfold Ctr
  intro mean mg mb hd dp un gd cn cs ad ccd cl outer A₀ base h₀ L m sh sg sd sk so Q E B F X N Tp hk hdp hun hret
  k_steps
  · exact hret.1 (by assumption) _ _ (by assumption) _ _ (by k_asm) (by k_asm)
  · exact hret.2 (by assumption) _ _ _ (by k_asm) (by k_asm)
theorem C_spaces {w : World} {x dx : Addr} {k1 k2 t1 t2 : Tok} {T : Str} {p : Int} {rest : Led} (hT : T.length ≤ 1000) (h0 : 0 ≤ p) (h1 : p ≤ T.length) (hx : @LT.lt Nat _ dx x) (hr : ∀ q ∈ rest, q.1 ≠ dx) :
    Ctr w 185 ((x, instObj 237 dx) :: (dx, scD w k1 T t1 k2 p t2) :: rest) [.ref x] 2
      (fun k => ∀ t' q, run BL T p = q → p ≤ q → q ≤ T.length → k .none ((x, instObj 237 dx) :: (dx, scD w k1 T t1 k2 q t') :: rest)) := by
  unfold Ctr
  intro mean mg mb hd dp un gd cn cs ad ccd cl outer A₀ base h₀ L m sh sg sd sk so Q E B F X N Tp hk hdp hun hret
  k_steps
  refine ⟨?_⟩
  rename Fr _ _ _ _ => F1
  rename News _ _ _ _ => N1
  refine while_mine (fun n m₁ nx => m₁ = _ ∧ ∃ p' t', nx = ((x, instObj 237 dx) :: (dx, scD w k1 T t1 k2 p' t') :: rest) ∧ p ≤ p' ∧ p' ≤ T.length ∧ run BL T p' = run BL T p ∧ n = (T.length - p').toNat) F1 N1 ⟨rfl, p, t2, rfl, by omega, by omega, rfl, rfl⟩ ?_ ?_
  rotate_left
  · first | passes_own | with_unfolding_all passes_own
  rintro n m₁ nx h₁ tk₁ F2 N2 ⟨rfl, p', t', rfl, hp, hp', hrun, rfl⟩
  clear F1 N1
  k_steps
  · exact wend (by k_asm) (by k_asm) ⟨rfl, p' + 1, _, rfl, by omega, by omega, (run_step2 (by omega) (by assumption) (by assumption) (by assumption)).trans hrun, rfl⟩ (by omega)
  · exact hret _ _ (hrun.symm.trans (run_stop2 (by omega) (by assumption) (by assumption) (by assumption))) (by omega) (by omega) _ _ (by k_asm) (by k_asm)
  · exact hret _ _ (hrun.symm.trans (run_end (by assumption))) (by omega) (by omega) _ _ (by k_asm) (by k_asm)
theorem C_digits {w : World} {x dx : Addr} {k1 k2 t1 t2 : Tok} {T : Str} {p : Int} {rest : Led} (hT : T.length ≤ 1000) (h0 : 0 ≤ p) (h1 : p ≤ T.length) (hx : @LT.lt Nat _ dx x) (hr : ∀ q ∈ rest, q.1 ≠ dx) :
    Ctr w 206 ((x, instObj 237 dx) :: (dx, scD w k1 T t1 k2 p t2) :: rest) [.ref x] 2
      (fun k => ∀ t t' q, run DG T p = q → p ≤ q → q ≤ T.length → k (.int (q - p) t) ((x, instObj 237 dx) :: (dx, scD w k1 T t1 k2 q t') :: rest)) := by
  unfold Ctr
  intro mean mg mb hd dp un gd cn cs ad ccd cl outer A₀ base h₀ L m sh sg sd sk so Q E B F X N Tp hk hdp hun hret
  k_steps
  refine ⟨?_⟩
  rename Fr _ _ _ _ => F1
  rename News _ _ _ _ => N1
  refine while_mine (fun n m₁ nx => m₁ = _ ∧ ∃ p' t', nx = ((x, instObj 237 dx) :: (dx, scD w k1 T t1 k2 p' t') :: rest) ∧ p ≤ p' ∧ p' ≤ T.length ∧ run DG T p' = run DG T p ∧ n = (T.length - p').toNat) F1 N1 ⟨rfl, p, t2, rfl, by omega, by omega, rfl, rfl⟩ ?_ ?_
  rotate_left
  · first | passes_own | with_unfolding_all passes_own
  rintro n m₁ nx h₁ tk₁ F2 N2 ⟨rfl, p', t', rfl, hp, hp', hrun, rfl⟩
  clear F1 N1
  k_steps
  · exact wend (by k_asm) (by k_asm) ⟨rfl, p' + 1, _, rfl, by omega, by omega, (run_step2 (by omega) (by assumption) (by assumption) (by assumption)).trans hrun, rfl⟩ (by omega)
  · exact hret _ _ _ (hrun.symm.trans (run_stop2 (by omega) (by assumption) (by assumption) (by assumption))) (by omega) (by omega) _ _ (by k_asm) (by k_asm)
  · exact hret _ _ _ (hrun.symm.trans (run_end (by assumption))) (by omega) (by omega) _ _ (by k_asm) (by k_asm)

end
local macro_rules | `(tactic| walk_at "mine news2") => `(tactic| first | walk_at "mine r" | exact nf1 (by walk_at "mine r") | exact nf2 (by walk_at "mine r") | exact nf3 (by walk_at "mine r") | exact nf4 (by walk_at "mine r") | exact nf5 (by walk_at "mine r") | exact nf6 (by walk_at "mine r"))
local macro_rules | `(tactic| walk_at "mine news1") => `(tactic| first | walk_at "mine r" | exact ng1 (by walk_at "mine r") | exact ng2 (by walk_at "mine r") | exact ng3 (by walk_at "mine r") | exact ng4 (by walk_at "mine r") | exact ng5 (by walk_at "mine r") | exact ng6 (by walk_at "mine r"))
local macro_rules | `(tactic| walk_at "mine rest") => `(tactic| ((case B => k_asm); (case F => k_asm); (case X => k_asm); (case T => k_asm); (case K => first | exact rfl | assumption); (case D => first | exact room2 (by assumption) rfl | ktr_room); (case U => first | exact units2 (by assumption) rfl | ktr_units)))
local macro_rules | `(tactic| walk_at "mine fact") => `(tactic| first | assumption | exact le_up (by walk_at "mine r") rfl | decide | omega | walk_at "mine more")
local macro_rules | `(tactic| walk_at "mine drest") => `(tactic| k_all)
local macro_rules | `(tactic| walk_at "mine one") => `(tactic| ((fail_if_success (with_reducible intro _ _ _ _)); (fail_if_success (with_reducible apply And.intro)); first | ((fail_if_success (with_reducible intro _ _)); walk_at "mine fact") | walk_at "mine drest"))
local macro_rules | `(tactic| walk_at "mine side") => `(tactic| (walk_at "mine rest"; (try walk_at "mine restE"); try any_goals walk_at "mine one"))
local macro_rules | `(tactic| walk_at "mine V") => `(tactic| k_dflt ((case hV => exact rfl); case hA => exact rfl))
local macro_rules | `(tactic| walk_at "mine VN") => `(tactic| (walk_at "mine V"; k_dflt (case N => walk_at "mine news2")))
local macro_rules | `(tactic| walk_at "mine s3") => `(tactic| k_dflt (walk_at "mine side"; k_whole))
local macro_rules | `(tactic| walk_at "mine s2") => `(tactic| (walk_at "mine VN"; walk_at "mine s3"))
local macro_rules | `(tactic| walk_at "mine go") => `(tactic| (walk_at "mine s2"; walk_at "mine in"))
local macro_rules | `(tactic| walk_at "mine go1") => `(tactic| (walk_at "mine V"; k_dflt (case N => walk_at "mine news1"); walk_at "mine s3"; walk_at "mine in"))
local macro_rules | `(tactic| walk_at "call ref") => `(tactic| (apply use (C_isover ..); walk_at "mine go"))
local macro_rules | `(tactic| walk_at "call ref") => `(tactic| (apply use (C_peek ..); walk_at "mine go"))
local macro_rules | `(tactic| walk_at "call ref") => `(tactic| (apply use (C_spaces ..); walk_at "mine go"))
local macro_rules | `(tactic| walk_at "call ref") => `(tactic| (apply use (C_digits ..); walk_at "mine go"))
local macro_rules | `(tactic| walk_at "mine own") => `(tactic| (intro p9 hp9; repeat (first | exact hp9 | apply List.Mem.tail)))
local macro_rules | `(tactic| walk_at "mine sub") => `(tactic| first | (walk_at "mine own"; done) | (refine List.forall_mem_cons.mpr ⟨by k_mem, ?_⟩; walk_at "mine sub"))
local macro_rules | `(tactic| walk_at "mine drop") => `(tactic| first | k_asm | exact cb_drop (by walk_at "mine r") (by walk_at "mine sub"))

section
theorem C_separator {w : World} {x dx : Addr} {k1 k2 t1 t2 : Tok} {T : Str} {p : Int} {rest : Led} (hT : T.length ≤ 1000) (h0 : 0 ≤ p) (h1 : p ≤ T.length) (hx : @LT.lt Nat _ dx x) (hr : ∀ q ∈ rest, q.1 ≠ dx) :
    Ctr w 192 ((x, instObj 237 dx) :: (dx, scD w k1 T t1 k2 p t2) :: rest) [.ref x] 4
      (fun k => ∀ t' b q, sep T p = (b, q) → p ≤ q → q ≤ T.length → k (.bool b) ((x, instObj 237 dx) :: (dx, scD w k1 T t1 k2 q t') :: rest)) := by
  unfold Ctr
  intro mean mg mb hd dp un gd cn cs ad ccd cl outer A₀ base h₀ L m sh sg sd sk so Q E B F X N Tp hk hdp hun hret
  k_steps
  · exact hret _ _ _ (sep_no (by assumption) (by assumption) (by assumption)) (by omega) (by omega) _ _ (by k_asm) (by k_asm)
  · exact hret _ _ _ (sep_yes (by assumption) (by assumption) (by assumption) (by assumption) (by assumption)) (by omega) (by omega) _ _ (by k_asm) (by k_asm)
  · exact hret _ _ _ (sep_end (by assumption) (by assumption)) (by omega) (by omega) _ _ (by k_asm) (by k_asm)
theorem C_looks {w : World} {x dx : Addr} {k1 k2 t1 t2 : Tok} {T : Str} {p : Int} {rest : Led} (hT : T.length ≤ 1000) (h0 : 0 ≤ p) :
    Ctr w 199 ((x, instObj 237 dx) :: (dx, scD w k1 T t1 k2 p t2) :: rest) [.ref x] 4
      (fun k => k (.bool (looks T p)) ((x, instObj 237 dx) :: (dx, scD w k1 T t1 k2 p t2) :: rest)) := by
  unfold Ctr
  intro mean mg mb hd dp un gd cn cs ad ccd cl outer A₀ base h₀ L m sh sg sd sk so Q E B F X N Tp hk hdp hun hret
  k_steps
  · rw [looks_in (by assumption) (by assumption)]
    exact hret _ _ (by k_asm) (by k_asm)
  · rename (((⟨#[_]⟩ : Str) != _) = false) => hb
    exact absurd hb (by rw [s_nil]; simp)
  · first | rw [show (Str.ofString "" != Str.ofString "") = false from by decide +kernel, looks_out (by assumption)] | rw [show ((⟨#[]⟩ : Str) != Str.ofString "") = false from by decide +kernel, looks_out (by assumption)]
    exact hret _ _ (by k_asm) (by k_asm)
local macro_rules | `(tactic| walk_at "exec If Compare") => `(tactic| (with_reducible refine ifOp .In ?_; walk_at "mine stopJ"))
theorem C_exponent {w : World} {x dx : Addr} {k1 k2 t1 t2 : Tok} {T : Str} {p : Int} {rest : Led} (hT : T.length ≤ 1000) (h0 : 0 ≤ p) (h1 : p ≤ T.length) (hx : @LT.lt Nat _ dx x) (hr : ∀ q ∈ rest, q.1 ≠ dx) :
    Ctr w 213 ((x, instObj 237 dx) :: (dx, scD w k1 T t1 k2 p t2) :: rest) [.ref x] 4
      (fun k => ∀ t' q, expo T p = q → p ≤ q → q ≤ T.length → k .none ((x, instObj 237 dx) :: (dx, scD w k1 T t1 k2 q t') :: rest)) := by
  unfold Ctr
  intro mean mg mb hd dp un gd cn cs ad ccd cl outer A₀ base h₀ L m sh sg sd sk so Q E B F X N Tp hk hdp hun hret
  k_steps
  all_goals first
    | exact hret _ _ (expo_no (by assumption) (by assumption)) (by omega) (by omega) _ _ (by k_asm) (by walk_at "mine drop")
    | exact hret _ _ (expo_end (by assumption)) (by omega) (by omega) _ _ (by k_asm) (by walk_at "mine drop")
    | skip
  refine ⟨?_⟩
  rename Fr _ _ _ _ => F1
  rename News _ _ _ _ => N1
  refine join_at F1 (by walk_at "mine news2") (fun b => sgn T (p + 1) = b ∧ p + 1 ≤ b ∧ b ≤ T.length) ?_ ?_
  · k_steps
    all_goals first
      | exact joined (by k_asm) (by walk_at "mine drop") ⟨_, _, ⟨sgn_yes (by assumption) (by assumption) (by assumption), by omega, by omega⟩, rfl, rfl⟩
      | exact joined (by k_asm) (by walk_at "mine drop") ⟨_, _, ⟨sgn_no (by assumption) (by assumption), by omega, by omega⟩, rfl, rfl⟩
      | exact joined (by k_asm) (by walk_at "mine drop") ⟨_, _, ⟨sgn_end (by assumption), by omega, by omega⟩, rfl, rfl⟩
  intro b t' h tk ⟨hb, hb0, hb1⟩ F2 N2
  clear F1 N1
  dsimp only
  k_steps
  all_goals first
    | exact hret _ _ ((expo_is (by assumption) (by assumption) (by assumption) hb (by assumption)).trans (if_pos (by omega))) (by omega) (by omega) _ _ (by k_asm) (by walk_at "mine drop")
    | exact hret _ _ ((expo_is (by assumption) (by assumption) (by assumption) hb (by assumption)).trans (if_neg (by omega))) (by omega) (by omega) _ _ (by k_asm) (by walk_at "mine drop")

end
local macro_rules | `(tactic| walk_at "setAttr ref") => `(tactic| (k_dflt (refine' setE_first (by k_asm) (by k_asm) (by walk_at "mine r") (by first | assumption | k_all) (by walk_at "mine u") (by k_is) (by k_is) ?_; k_whole); intros; k_sweep))
local macro_rules | `(tactic| walk_at "setAttr ref") => `(tactic| (k_dflt (refine' setE_next' (by k_asm) (by k_asm) (by walk_at "mine r") (by assumption) (by walk_at "mine u") (by k_is) (by k_is) (by walk_at "mine u") (by k_put) (by exact Nat.le_of_ble_eq_true rfl) ?_; k_whole); intros; k_sweep))

section
theorem C_numfault_init {w : World} {e : Addr} {vs : Array Value} {msg : Str} {tm : Tok} {rest : Led} (hr : ∀ q ∈ rest, q.1 ≠ e) :
    Ctr w 28 ((e, excObj 44 none vs) :: rest) [.ref e, .str msg tm] 2
      (fun k => ∀ d t1, (∀ q ∈ (e, excObj 44 none vs) :: rest, q.1 < d) → k .none ((d, dictOf [⟨PyData.keyHash w.params (Str.ofString "message"), .str (Str.ofString "message") t1, .str msg tm⟩] 1) :: (e, excObj 44 (some d) vs) :: rest)) := by
  unfold Ctr
  intro mean mg mb hd dp un gd cn cs ad ccd cl outer A₀ base h₀ L m sh sg sd sk so Q E B F X N Tp hk hdp hun hret
  k_steps
  exact hret _ _ (by assumption) _ _ (by k_asm) (by k_asm)
theorem C_pathfault_init {w : World} {e : Addr} {vs : Array Value} {msg : Str} {p : Int} {tm tp : Tok} {rest : Led} (hr : ∀ q ∈ rest, q.1 ≠ e) :
    Ctr w 60 ((e, excObj 63 none vs) :: rest) [.ref e, .str msg tm, .int p tp] 2
      (fun k => ∀ d t1 t2, (∀ q ∈ (e, excObj 63 none vs) :: rest, q.1 < d) → k .none ((d, dictOf [⟨PyData.keyHash w.params (Str.ofString "message"), .str (Str.ofString "message") t1, .str msg tm⟩, ⟨PyData.keyHash w.params (Str.ofString "place"), .str (Str.ofString "place") t2, .int p tp⟩] 2) :: (e, excObj 63 (some d) vs) :: rest)) := by
  unfold Ctr
  intro mean mg mb hd dp un gd cn cs ad ccd cl outer A₀ base h₀ L m sh sg sd sk so Q E B F X N Tp hk hdp hun hret
  k_steps
  exact hret _ _ _ (by assumption) _ _ (by k_asm) (by k_asm)
theorem C_new_pathfault {w : World} {msg : Str} {p : Int} {tm tp : Tok} {led : Led} :
    Ctr w 63 led [.str msg tm, .int p tp] 4
      (fun k => ∀ e d T t1 t2, (∀ q ∈ led, q.1 ≠ e) → (∀ q ∈ led, q.1 < d) → e < d → k (.ref e) ((d, dictOf [⟨PyData.keyHash w.params (Str.ofString "message"), .str (Str.ofString "message") t1, .str msg tm⟩, ⟨PyData.keyHash w.params (Str.ofString "place"), .str (Str.ofString "place") t2, .int p tp⟩] 2) :: (e, excObj 63 (some d) #[.ref T, .none, .none, .none, .bool false, .none]) :: led)) := by
  unfold Ctr
  intro mean mg mb hd dp un gd cn cs ad ccd cl outer A₀ base h₀ L m sh sg sd sk so Q E B F X N Tp hk hdp hun hret
  have XF := X.keeps F.keep
  obtain ⟨nm, qn, NN, bs, bm, sn, sub, ab, col, dd, k0, k1, k2, k3, k5, hC, hT⟩ := excOk_obj (K := Mine.hd0.heap_1 w.params) (C := 63) (by with_unfolding_all rfl)
  refine call_exc_at (K := Mine.hd0.heap_1 w.params) XF hT (XF _ _ hC) (fI := 60) (by k_dflt k_is) (by k_dflt k_is) (by simp) fun h' x hx => ?_
  obtain ⟨T, he, hTn, hTt⟩ := hx.there
  have F' : Fr h₀ L h' m := F.after hx.keeps
  have nx : h₀.get? x = none := kts_none F.keep hx.new
  have N' : News h₀ L h' ((x, excObj 63 none #[.ref T, .none, .none, .none, .bool false, .none]) :: led) := News.more F' (fun q hq => ⟨hx.keeps _ _ (N q hq).1, (N q hq).2⟩) he (fun es n z => by cases z) nx
  have hr : ∀ q ∈ led, q.1 ≠ x := fun q hq z => by
    have := (N q hq).1
    rw [z, hx.new] at this
    cases this
  clear he hTt hTn hx hC hT N F XF nx
  have hu : (top hd dp un gd cn cs L ad ccd cl outer).under (Code.builtin "type.__call__" { pos := [Value.ref 63, Value.str msg tm, Value.int p tp] }) = top hd (dp + 1) (un + 1) gd cn cs L ad ccd cl outer := by
    kernel_rfl
  rw [hu]
  refine (C_pathfault_init (w := w) (tm := tm) (tp := tp) (msg := msg) (p := p) hr) mean mg mb hd (dp + 1) (un + 1) gd cn cs ad ccd cl outer A₀ base h₀ L m h' sg sd sk so _ _ B F' X N' Tp hk (by omega) (by omega) ?_
  intro d t1 t2 hd h'' tk' F'' N''
  exact ⟨rfl, hret _ _ _ _ _ hr (fun q hq => hd q (.tail _ hq)) (hd _ (.head _)) _ _ F'' N''⟩
theorem C_new_numfault {w : World} {msg : Str} {tm : Tok} {led : Led} :
    Ctr w 44 led [.str msg tm] 4
      (fun k => ∀ e d T t1, (∀ q ∈ led, q.1 ≠ e) → (∀ q ∈ led, q.1 < d) → e < d → k (.ref e) ((d, dictOf [⟨PyData.keyHash w.params (Str.ofString "message"), .str (Str.ofString "message") t1, .str msg tm⟩] 1) :: (e, excObj 44 (some d) #[.ref T, .none, .none, .none, .bool false, .none]) :: led)) := by
  unfold Ctr
  intro mean mg mb hd dp un gd cn cs ad ccd cl outer A₀ base h₀ L m sh sg sd sk so Q E B F X N Tp hk hdp hun hret
  have XF := X.keeps F.keep
  obtain ⟨nm, qn, NN, bs, bm, sn, sub, ab, col, dd, k0, k1, k2, k3, k5, hC, hT⟩ := excOk_obj (K := Mine.hd0.heap_1 w.params) (C := 44) (by with_unfolding_all rfl)
  refine call_exc_at (K := Mine.hd0.heap_1 w.params) XF hT (XF _ _ hC) (fI := 28) (by k_dflt k_is) (by k_dflt k_is) (by simp) fun h' x hx => ?_
  obtain ⟨T, he, hTn, hTt⟩ := hx.there
  have F' : Fr h₀ L h' m := F.after hx.keeps
  have nx : h₀.get? x = none := kts_none F.keep hx.new
  have N' : News h₀ L h' ((x, excObj 44 none #[.ref T, .none, .none, .none, .bool false, .none]) :: led) := News.more F' (fun q hq => ⟨hx.keeps _ _ (N q hq).1, (N q hq).2⟩) he (fun es n z => by cases z) nx
  have hr : ∀ q ∈ led, q.1 ≠ x := fun q hq z => by
    have := (N q hq).1
    rw [z, hx.new] at this
    cases this
  clear he hTt hTn hx hC hT N F XF nx
  have hu : (top hd dp un gd cn cs L ad ccd cl outer).under (Code.builtin "type.__call__" { pos := [Value.ref 44, Value.str msg tm] }) = top hd (dp + 1) (un + 1) gd cn cs L ad ccd cl outer := by
    kernel_rfl
  rw [hu]
  refine (C_numfault_init (w := w) (tm := tm) (msg := msg) hr) mean mg mb hd (dp + 1) (un + 1) gd cn cs ad ccd cl outer A₀ base h₀ L m h' sg sd sk so _ _ B F' X N' Tp hk (by omega) (by omega) ?_
  intro d t1 hd h'' tk' F'' N''
  exact ⟨rfl, hret _ _ _ _ hr (fun q hq => hd q (.tail _ hq)) (hd _ (.head _)) _ _ F'' N''⟩

end
local macro_rules | `(tactic| walk_at "exec Raise some none") => `(tactic| walk_at "mine stop")
local macro_rules | `(tactic| walk_at "exec Try") => `(tactic| walk_at "mine stop")
local macro_rules | `(tactic| walk_at "call ref") => `(tactic| (apply use C_new_pathfault; walk_at "mine go"))
local macro_rules | `(tactic| walk_at "call ref") => `(tactic| (apply use C_new_numfault; walk_at "mine go"))

section
theorem C_fault {w : World} {x dx : Addr} {k1 k2 t1 t2 tm : Tok} {T msg : Str} {p : Int} {rest : Led} (hT : T.length ≤ 1000) :
    CtrE w 178 ((x, instObj 237 dx) :: (dx, scD w k1 T t1 k2 p t2) :: rest) [.ref x, .str msg tm] 8 (fun _ => True)
      (fun k => ∀ e d a1 a2, (∀ q ∈ (x, instObj 237 dx) :: (dx, scD w k1 T t1 k2 p t2) :: rest, q.1 < d) → k e (XP 63 d .none) ((d, dictOf [⟨PyData.keyHash w.params (Str.ofString "message"), .str (Str.ofString "message") a1, .str msg tm⟩, ⟨PyData.keyHash w.params (Str.ofString "place"), .str (Str.ofString "place") a2, .int p t2⟩] 2) :: (x, instObj 237 dx) :: (dx, scD w k1 T t1 k2 p t2) :: rest)) := by
  unfold CtrE
  intro mean mg mb dp un gd cn cs ad ccd cl outer A₀ base h₀ L m sh sg sd sk so Q E B F X N Tp hk hdp hun XB TB D hret hexc
  k_steps
  refine ⟨?_⟩
  refine raise_at (K := Mine.hd0.heap_1 w.params) (C := 63) rfl (by with_unfolding_all rfl) (by k_dflt k_is) ?_
  k_steps
  rename Fr _ _ _ _ => F9
  rename News _ _ _ _ => N9
  rename Below _ _ _ _ => B9
  refine ⟨_, _, _, rfl, ?_, (N9 _ (List.Mem.tail _ (List.Mem.head _))).1, rfl, rfl, rfl, ?_⟩
  · exact (by assumption : (Mine.hd0.heap_1 w.params).In _).keeps F9.keep
  refine leave_made keep_XP B9 F9 (nf0 N9) ?_ ⟨rfl, rfl, _, rfl, rfl⟩ rfl rfl (fun h' Fw up => ?_) rfl
  · exact List.forall_mem_cons.mpr ⟨Nat.ne_of_gt (by assumption), by assumption⟩
  exact hexc _ _ _ _ (by assumption) _ _ _ (by assumption) Fw up

end
local macro_rules | `(tactic| walk_at "mine restE") => `(tactic| ((case XB => assumption); (case TB => assumption); try (case DD => first | assumption | exact dictsPush (by assumption) (by assumption))))
local macro_rules | `(tactic| walk_at "call ref") => `(tactic| (apply useE (C_fault ..); walk_at "mine VN"; (case hret => exact True.intro); walk_at "mine s3"; intros; intro g' h' tk' FG' Fw' up'; walk_at "mine stop"))
local macro_rules | `(tactic| walk_at "mine signs") => `(tactic| ((try have := ne_of s_0 (by assumption)); (try have := ne_of s_1 (by assumption)); (try have := eq_of s_0 (by assumption)); (try have := eq_of s_1 (by assumption)); (try have := eq_of' s_0 (by assumption)); (try have := ne_of' s_0 (by assumption)); skip))
local macro_rules | `(tactic| walk_at "mine leave") => `(tactic| ((refine Stop.mk ?_); (with_reducible rename Flew _ _ _ _ _ _ _ => Fw9); (with_reducible rename Heap.UpToSlots _ _ => up9); (with_reducible rename Below _ _ _ _ => B9); (with_reducible rename Fr _ _ _ _ => F9); (refine leave_on keep_XP B9 F9 Fw9 up9 ?_); intro h7 Fw7 up7; clear Fw9 up9))
local macro_rules | `(tactic| walk_at "mine goE2") => `(tactic| (walk_at "mine s3"; rotate_left; walk_at "mine stop"; rotate_left; walk_at "mine in"))
local macro_rules | `(tactic| walk_at "mine goE") => `(tactic| (walk_at "mine VN"; walk_at "mine goE2"))

section
theorem cd_has {T S : Str} {q : Int} {c : Nat} {b : Bool} (hc : cd T q = c) (h : has S c = b) : has S (cd T q) = b := by rw [hc]; exact h
theorem C_flag {w : World} {x dx : Addr} {k1 k2 t1 t2 : Tok} {T : Str} {p : Int} {rest : Led} (hT : T.length ≤ 1000) (h0 : 0 ≤ p) (hx : @LT.lt Nat _ dx x) (hr : ∀ q ∈ rest, q.1 ≠ dx) :
    CtrE w 227 ((x, instObj 237 dx) :: (dx, scD w k1 T t1 k2 p t2) :: rest) [.ref x] 16
      (fun k => ∀ t t', p < T.length → (cd T p = 48 → k (.int 0 t) ((x, instObj 237 dx) :: (dx, scD w k1 T t1 k2 (p + 1) t') :: rest)) ∧ (cd T p = 49 → k (.int 1 t) ((x, instObj 237 dx) :: (dx, scD w k1 T t1 k2 (p + 1) t') :: rest)))
      (fun k => ∀ e d a1 a2 msg tm, ¬ (p < T.length ∧ (cd T p = 48 ∨ cd T p = 49)) → k e (XP 63 d .none) ((d, dictOf [⟨PyData.keyHash w.params (Str.ofString "message"), .str (Str.ofString "message") a1, .str msg tm⟩, ⟨PyData.keyHash w.params (Str.ofString "place"), .str (Str.ofString "place") a2, .int p t2⟩] 2) :: (x, instObj 237 dx) :: (dx, scD w k1 T t1 k2 p t2) :: rest)) := by
  unfold CtrE
  intro mean mg mb dp un gd cn cs ad ccd cl outer A₀ base h₀ L m sh sg sd sk so Q E B F X N Tp hk hdp hun XB TB D hret hexc
  k_steps
  all_goals walk_at "mine signs"
  all_goals first
    | exact (hret _ _ (by assumption)).1 (by omega) _ _ (by k_asm) (by walk_at "mine drop")
    | exact (hret _ _ (by assumption)).2 (by omega) _ _ (by k_asm) (by walk_at "mine drop")
    | (walk_at "mine leave"; exact hexc _ _ _ _ _ _ (by omega) _ _ _ (by assumption) (by assumption) (by assumption))
theorem C_command {w : World} {x dx : Addr} {k1 k2 t1 t2 : Tok} {T : Str} {p : Int} {rest : Led} (hT : T.length ≤ 1000) (h0 : 0 ≤ p) (h1 : p ≤ T.length) (hx : @LT.lt Nat _ dx x) (hr : ∀ q ∈ rest, q.1 ≠ dx) :
    CtrE w 234 ((x, instObj 237 dx) :: (dx, scD w k1 T t1 k2 p t2) :: rest) [.ref x] 16
      (fun k => ∀ t t' q, run BL T p = q → p ≤ q → q ≤ T.length → (¬ q < T.length → k .none ((x, instObj 237 dx) :: (dx, scD w k1 T t1 k2 q t') :: rest)) ∧ (∀ c, q < T.length → cd T q = c → has LS c = true → k (.str ⟨#[c]⟩ t) ((x, instObj 237 dx) :: (dx, scD w k1 T t1 k2 (q + 1) t') :: rest)))
      (fun k => ∀ e d a1 a2 msg tm q t', run BL T p = q → p ≤ q → q < T.length → has LS (cd T q) = false → k e (XP 63 d .none) ((d, dictOf [⟨PyData.keyHash w.params (Str.ofString "message"), .str (Str.ofString "message") a1, .str msg tm⟩, ⟨PyData.keyHash w.params (Str.ofString "place"), .str (Str.ofString "place") a2, .int q t'⟩] 2) :: (x, instObj 237 dx) :: (dx, scD w k1 T t1 k2 q t') :: rest)) := by
  unfold CtrE
  intro mean mg mb dp un gd cn cs ad ccd cl outer A₀ base h₀ L m sh sg sd sk so Q E B F X N Tp hk hdp hun XB TB D hret hexc
  k_steps
  · exact (hret t2 _ _ (by assumption) (by omega) (by omega)).1 (by omega) _ _ (by k_asm) (by walk_at "mine drop")
  all_goals first
    | exact (hret _ _ _ (by assumption) (by omega) (by omega)).2 _ (by omega) (by assumption) (by assumption) _ _ (by k_asm) (by walk_at "mine drop")
    | omega
    | (walk_at "mine leave"; exact hexc _ _ _ _ _ _ _ _ (by assumption) (by omega) (by omega) (cd_has (by assumption) (by assumption)) _ _ _ (by assumption) (by assumption) (by assumption))

end
section
def isone (S U : Str) (i : Int) : Bool := decide (i < U.length) && has S (cd U i)
theorem isone_in {S U : Str} {i : Int} {c : Nat} (hl : i < U.length) (hc : cd U i = c) : has S c = isone S U i := by
  unfold isone
  rw [hc]; simp [hl]
theorem isone_out {S U : Str} {i : Int} (hl : ¬ i < U.length) : false = isone S U i := by
  unfold isone
  simp [hl]
theorem isone_ret {S U : Str} {i : Int} {c : Nat} {k : Bool → Prop} (hl : i < U.length) (hc : cd U i = c) (h1 : isone S U i = true → i < U.length → k true) (h2 : isone S U i = false → k false) : k (has S c) := by
  have e := isone_in (S := S) hl hc
  cases hb : has S c with
  | true => exact h1 (e.symm.trans hb) hl
  | false => exact h2 (e.symm.trans hb)
theorem C_isone {w : World} {x dx : Addr} {k1 k2 t1 t2 ts : Tok} {T S : Str} {p : Int} {rest : Led} (hT : T.length ≤ 1000) (h0 : 0 ≤ p) :
    Ctr w 101 ((x, instObj 118 dx) :: (dx, scD w k1 T t1 k2 p t2) :: rest) [.ref x, .str S ts] 2
      (fun k => (isone S T p = true → p < T.length → k (.bool true) ((x, instObj 118 dx) :: (dx, scD w k1 T t1 k2 p t2) :: rest)) ∧ (isone S T p = false → k (.bool false) ((x, instObj 118 dx) :: (dx, scD w k1 T t1 k2 p t2) :: rest))) := by
  unfold Ctr
  intro mean mg mb hd dp un gd cn cs ad ccd cl outer A₀ base h₀ L m sh sg sd sk so Q E B F X N Tp hk hdp hun hret
  k_steps
  · exact isone_ret (k := fun b => Q (.bool b) _) (by assumption) (by assumption) (fun a b => hret.1 a b _ _ (by k_asm) (by walk_at "mine drop")) (fun a => hret.2 a _ _ (by k_asm) (by walk_at "mine drop"))
  · rw [decide_eq_false (by assumption)]
    exact hret.2 (isone_out (by assumption)).symm _ _ (by k_asm) (by walk_at "mine drop")

end
local macro_rules | `(tactic| walk_at "call ref") => `(tactic| (apply use (C_isone ..); walk_at "mine go"))

section
/-- the whole number that a row of figures tells -/
def valL (l : List Nat) (n : Int) : Int := l.foldl (fun (n : Int) (c : Nat) => n * 10 + ((c : Int) - 48)) n
def val (D : Str) : Int := valL D.cps.toList 0
def figs (D : Str) : Prop := ∀ c ∈ D.cps.toList, 48 ≤ c ∧ c ≤ 57
theorem dg_occ {c : Nat} (h : 48 ≤ c ∧ c ≤ 57) : Builtin.Str.occurrences DG ⟨#[c]⟩ 0 DG.length 1 = [c - 48] := by
  have a : ∀ k : Fin 10, Builtin.Str.occurrences DG ⟨#[48 + k.1]⟩ 0 DG.length 1 = [48 + k.1 - 48] := by decide +kernel
  have b := a ⟨c - 48, by omega⟩
  dsimp only at b
  rwa [Nat.add_sub_cancel' h.1] at b
theorem idx_digit {prog : Program} {w : World} {A : Around} {E : Value → Shared → Prop} {s : Shared} {c : Nat} {t u : Tok} {Q : Value → Shared → Prop} (h : 48 ≤ c ∧ c ≤ 57)
    (hq : Q (.int ((c : Int) - 48) s.toks) { s with toks := s.toks + 1 }) : wpAny (model prog w) A (call (.builtin "str.index") [.str (Str.ofString "0123456789") t, .str ⟨#[c]⟩ u]) Q E s := by
  refine SC.index (dg_occ h) ?_
  rw [show (((c - 48 : Nat)) : Int) = (c : Int) - 48 from by omega]
  exact hq
theorem val_step {l : List Nat} {i c : Nat} (h : l[i]? = some c) : valL (l.take (i + 1)) 0 = valL (l.take i) 0 * 10 + ((c : Int) - 48) := by
  obtain ⟨hi, rfl⟩ := List.getElem?_eq_some_iff.mp h
  unfold valL
  rw [List.take_succ_eq_append_getElem hi, List.foldl_append]
  rfl
theorem signs_inv {D : Str} {i : Nat} {k : Str} (h : (signs D)[i]? = some k) : ∃ c, D.cps.toList[i]? = some c ∧ k = ⟨#[c]⟩ := by
  unfold signs at h
  rw [List.getElem?_map] at h
  cases e : D.cps.toList[i]? with
  | none => rw [e] at h; cases h
  | some c =>
    rw [e] at h
    exact ⟨c, rfl, (Option.some.inj h).symm⟩
theorem take_signs (D : Str) : D.cps.toList.take (signs D).length = D.cps.toList := by
  rw [signs_length]
  exact List.take_of_length_le (by rw [len_toList]; exact Nat.le_refl _)
theorem has_dg {c : Nat} (h : has DG c = true) : 48 ≤ c ∧ c ≤ 57 := by
  have e : DG.cps.toList = [48, 49, 50, 51, 52, 53, 54, 55, 56, 57] := by decide +kernel
  unfold has at h
  rw [e] at h
  simp at h
  rcases h with rfl | rfl | rfl | rfl | rfl | rfl | rfl | rfl | rfl | rfl <;> decide
theorem dg_has {c : Nat} (h : 48 ≤ c ∧ c ≤ 57) : has DG c = true := by
  have a : ∀ k : Fin 10, has DG (48 + k.1) = true := by decide +kernel
  have b := a ⟨c - 48, by omega⟩
  dsimp only at b
  rwa [Nat.add_sub_cancel' h.1] at b
theorem take_run (S : Str) (l : List Nat) : l.take (runL S l) = l.takeWhile (has S) := by
  unfold runL
  induction l with
  | nil => rfl
  | cons a r ih =>
    rw [List.takeWhile_cons]
    cases h : has S a with
    | true => simp [ih]
    | false => simp
theorem figs_run {T : Str} {p q : Int} (h0 : 0 ≤ p) (h1 : p ≤ T.length) (hq : run DG T p = q) : figs (Txt.slice T (some p) (some q)) := by
  subst hq
  rw [slice_gen h0 run_ge (run_le h0 h1)]
  have e : (run DG T p - p).toNat = runL DG (T.cps.toList.drop p.toNat) := by unfold run; omega
  rw [e, take_run]
  intro c hc
  have := List.all_takeWhile (l := T.cps.toList.drop p.toNat) (p := has DG)
  exact has_dg (List.all_eq_true.mp this c (by simpa using hc))
theorem len_slice {T : Str} {p q : Int} (h0 : 0 ≤ p) (h1 : p ≤ q) (h2 : q ≤ T.length) : ((Txt.slice T (some p) (some q)).length : Int) = q - p := by
  rw [slice_gen h0 h1 h2]
  show (((List.take (q - p).toNat (List.drop p.toNat T.cps.toList)).toArray.size : Nat) : Int) = q - p
  rw [List.size_toArray, List.length_take, List.length_drop, len_toList]
  obtain ⟨a, rfl⟩ := Int.eq_ofNat_of_zero_le h0
  obtain ⟨b, rfl⟩ := Int.eq_ofNat_of_zero_le (Int.le_trans h0 h1)
  rw [← Int.ofNat_sub (Int.ofNat_le.mp h1), Int.toNat_natCast, Int.toNat_natCast, Nat.min_eq_left (Nat.sub_le_sub_right (Int.ofNat_le.mp h2) a)]
theorem nil_iff (D : Str) : (D == Str.ofString "") = decide (D.length = 0) := by
  rw [s_nil, Bool.eq_iff_iff, beq_iff_eq, decide_eq_true_eq]
  constructor
  · rintro rfl; rfl
  · intro h
    have : D.cps = #[] := Array.eq_empty_of_size_eq_zero h
    cases D
    simp_all
theorem valL_lt : ∀ (l : List Nat) (n : Int), 0 ≤ n → (∀ c ∈ l, 48 ≤ c ∧ c ≤ 57) → 0 ≤ valL l n ∧ valL l n < (n + 1) * 10 ^ l.length
  | [], n, h, _ => ⟨h, by show n < (n + 1) * 10 ^ 0; simp; omega⟩
  | c :: r, n, h, hc => by
    have h1 := hc c (List.mem_cons_self)
    obtain ⟨a, b⟩ := valL_lt r (n * 10 + ((c : Int) - 48)) (by omega) (fun x hx => hc x (List.mem_cons_of_mem _ hx))
    refine ⟨a, ?_⟩
    show valL r (n * 10 + ((c : Int) - 48)) < (n + 1) * 10 ^ (r.length + 1)
    refine Int.lt_of_lt_of_le b ?_
    rw [Int.pow_succ, Int.mul_comm (10 ^ r.length) 10, ← Int.mul_assoc]
    exact Int.mul_le_mul_of_nonneg_right (by omega) (Int.pow_nonneg (by omega))
theorem val_pos {D : Str} (h : figs D) : 0 ≤ val D := (valL_lt _ 0 (by omega) h).1
theorem val_bits {D : Str} (h : figs D) (hl : D.length ≤ 1000) : Builtin.Int.intBits (val D) ≤ 1048576 := by
  obtain ⟨h1, h2⟩ := valL_lt D.cps.toList 0 (by omega) h
  have h3 : Builtin.Int.intBits ((10 : Int) ^ D.cps.toList.length) ≤ 4 * D.cps.toList.length + 1 := PySem.intBits_pow_le (x := 10) (m := 4) (by decide +kernel) _
  have h4 : D.cps.toList.length = D.length := len_toList D
  refine PySem.intBits_le_of_natAbs (y := 10 ^ D.cps.toList.length) ?_ (Nat.le_trans h3 (by omega))
  have e : val D = valL D.cps.toList 0 := rfl
  rw [e]
  simp only [Int.zero_add, Int.one_mul] at h2
  omega
theorem figs_append {A B : Str} (ha : figs A) (hb : figs B) : figs (A ++ B) := by
  intro c hc
  have e : (A ++ B).cps.toList = A.cps.toList ++ B.cps.toList := Array.toList_append
  rw [e, List.mem_append] at hc
  exact hc.elim (ha c) (hb c)
theorem len_append (A B : Str) : (A ++ B).length = A.length + B.length := Array.size_append
theorem figs_nil : figs (Str.ofString "") := by
  rw [s_nil]
  intro c hc
  simp at hc

end
section
theorem run_one {S T : Str} {p : Int} (h0 : 0 ≤ p) (h : isone S T p = true) : run S T (p + 1) = run S T p := by
  unfold isone at h
  rw [Bool.and_eq_true, decide_eq_true_eq] at h
  exact run_step' h0 h.1 h.2
theorem run_none {S T : Str} {p : Int} (h0 : 0 ≤ p) (h : isone S T p = false) : run S T p = p := by
  unfold isone at h
  by_cases hl : p < T.length
  · rw [decide_eq_true hl, Bool.true_and] at h
    exact run_stop' h0 hl h
  · exact run_end hl
/-- one of the signs S at p, or nothing, and where it stands behind -/
def skp (S T : Str) (p : Int) : Str × Int := if isone S T p = true then (⟨#[cd T p]⟩, p + 1) else (Str.ofString "", p)
theorem C_skip {w : World} {x dx : Addr} {k1 k2 t1 t2 ts : Tok} {T S : Str} {p : Int} {rest : Led} (hT : T.length ≤ 1000) (h0 : 0 ≤ p) (h1 : p ≤ T.length) (hx : @LT.lt Nat _ dx x) (hr : ∀ q ∈ rest, q.1 ≠ dx) :
    Ctr w 108 ((x, instObj 118 dx) :: (dx, scD w k1 T t1 k2 p t2) :: rest) [.ref x, .str S ts] 4
      (fun k => ∀ s t t' q, skp S T p = (s, q) → p ≤ q → q ≤ T.length → k (.str s t) ((x, instObj 118 dx) :: (dx, scD w k1 T t1 k2 q t') :: rest)) := by
  unfold Ctr
  intro mean mg mb hd dp un gd cn cs ad ccd cl outer A₀ base h₀ L m sh sg sd sk so Q E B F X N Tp hk hdp hun hret
  k_steps
  · have e : cd T (p + 1 - 1) = cd T p := congrArg (cd T) (Int.add_sub_cancel p 1)
    exact hret _ _ _ _ ((if_pos (by assumption)).trans (by first | rw [← e]; rfl | (rw [← e]; congr 1))) (by omega) (by omega) _ _ (by k_asm) (by walk_at "mine drop")
  · exact hret _ _ _ _ (if_neg (by rw [show isone S T p = false from by assumption]; decide)) (by omega) (by omega) _ _ (by k_asm) (by walk_at "mine drop")
theorem C_digits2 {w : World} {x dx : Addr} {k1 k2 t1 t2 : Tok} {T : Str} {p : Int} {rest : Led} (hT : T.length ≤ 1000) (h0 : 0 ≤ p) (h1 : p ≤ T.length) (hx : @LT.lt Nat _ dx x) (hr : ∀ q ∈ rest, q.1 ≠ dx) :
    Ctr w 115 ((x, instObj 118 dx) :: (dx, scD w k1 T t1 k2 p t2) :: rest) [.ref x] 4
      (fun k => ∀ t t' q D, run DG T p = q → p ≤ q → q ≤ T.length → Txt.slice T (some p) (some q) = D → figs D → (D.length : Int) = q - p → k (.str D t) ((x, instObj 118 dx) :: (dx, scD w k1 T t1 k2 q t') :: rest)) := by
  unfold Ctr
  intro mean mg mb hd dp un gd cn cs ad ccd cl outer A₀ base h₀ L m sh sg sd sk so Q E B F X N Tp hk hdp hun hret
  k_steps
  refine ⟨?_⟩
  rename Fr _ _ _ _ => F1
  rename News _ _ _ _ => N1
  refine while_mine (fun n m₁ nx => m₁ = _ ∧ ∃ p' t', nx = ((x, instObj 118 dx) :: (dx, scD w k1 T t1 k2 p' t') :: rest) ∧ p ≤ p' ∧ p' ≤ T.length ∧ run DG T p' = run DG T p ∧ n = (T.length - p').toNat) F1 N1 ⟨rfl, p, t2, rfl, by omega, by omega, rfl, rfl⟩ ?_ ?_
  rotate_left
  · first | passes_own | with_unfolding_all passes_own
  rintro n m₁ nx h₁ tk₁ F2 N2 ⟨rfl, p', t', rfl, hp, hp', hrun, rfl⟩
  clear F1 N1
  k_steps
  · exact wend (by k_asm) (by k_asm) ⟨rfl, p' + 1, _, rfl, by omega, by omega, (run_one (by omega) (by assumption)).trans hrun, rfl⟩ (by omega)
  · have hq : run DG T p = p' := hrun.symm.trans (run_none (by omega) (by assumption))
    refine hret _ _ _ _ hq (by omega) (by omega) rfl (figs_run h0 h1 hq) (len_slice (by omega) (by omega) (by omega)) _ _ (by k_asm) (by walk_at "mine drop")

end
local macro_rules | `(tactic| walk_at "call builtin:str.index") => `(tactic| refine idx_digit (by assumption) ?_)
local macro_rules | `(tactic| walk_at "pyIter str") => `(tactic| walk_at "mine stop")

section
theorem C_whole {w : World} {t : Tok} {D : Str} {rest : Led} (hT : D.length ≤ 1000) (hD : figs D) :
    CtrE w 129 rest [.str D t] 2 (fun k => ∀ t v, val D = v → 0 ≤ v → Builtin.Int.intBits v ≤ 1048576 → k (.int v t) rest) (fun _ => True) := by
  unfold CtrE
  intro mean mg mb dp un gd cn cs ad ccd cl outer A₀ base h₀ L m sh sg sd sk so Q E B F X N Tp hk hdp hun XB TB D' hret hexc
  k_steps
  refine ⟨?_⟩
  rename Fr _ _ _ _ => F1
  rename News _ _ _ _ => N1
  refine Iter_signs2 rfl F1 N1 (fun i m₁ nx => nx = rest ∧ ∃ (tn : Tok) (u : Str → Option Value), m₁ = fun y => if y = Str.ofString "number" then some (.int (valL (D.cps.toList.take i) 0) tn) else u y) ⟨rfl, _, _, rfl⟩ ?_ ?_
  · rintro i k u m₁ nx s₁ own hk ⟨rfl, tn, u', rfl⟩ hsame hown F2 N2
    obtain ⟨c, hc, rfl⟩ := signs_inv hk
    have hc' := hD c (List.mem_of_getElem? hc)
    clear F1 N1
    k_steps
    exact LoopStep2.intro (by k_asm) (by k_asm) rfl ⟨rfl, _, _, by rw [val_step hc]⟩
  · rintro h' tk m' nx F2 N2 hsame ⟨rfl, tn, u', rfl⟩
    clear F1 N1
    k_steps
    rw [take_signs]
    exact hret _ _ rfl (val_pos hD) (val_bits hD hT) _ _ (by k_asm) (by walk_at "mine drop")

end
local macro_rules | `(tactic| walk_at "call ref") => `(tactic| (apply use (C_skip ..); walk_at "mine go"))
local macro_rules | `(tactic| walk_at "call ref") => `(tactic| (apply use (C_digits2 ..); walk_at "mine go"))
local macro_rules | `(tactic| walk_at "call ref") => `(tactic| (apply useE (C_whole ?a1 ?a2); walk_at "mine VN"; k_dflt ((case a1 => walk_at "mine lens"); (case a2 => walk_at "mine figs"); case hexc => exact True.intro); walk_at "mine s3"; walk_at "mine in"))
local macro_rules | `(tactic| walk_at "mine lens") => `(tactic| first | assumption | omega | (rw [len_append]; omega) | (rw [len_append, show (Str.ofString "").length = 0 from rfl]; omega))
local macro_rules | `(tactic| walk_at "mine figs") => `(tactic| first | assumption | exact figs_append (by assumption) (by assumption) | exact figs_append (by assumption) figs_nil)
local macro_rules | `(tactic| walk_at "mine drest") => `(tactic| first | assumption | exact List.forall_mem_nil _ | exact (fun q8 hq8 => Nat.ne_of_lt ((by assumption : ∀ q ∈ _, @LT.lt Nat _ q.1 _) q8 hq8)) | k_all)

local macro_rules | `(tactic| walk_at "mine raised") => `(tactic| (walk_at "mine FN"; (with_reducible rename Below _ _ _ _ => B9); (refine ⟨_, _, _, rfl, Frag.In.keeps ?X9 F9.keep, (N9 _ (List.Mem.tail _ (List.Mem.head _))).1, rfl, rfl, rfl, ?_⟩); (case X9 => assumption); (refine leave_made keep_XP B9 F9 (nf0 N9) ?N8 ⟨rfl, rfl, _, rfl, rfl⟩ rfl rfl ?_ rfl); (case N8 => exact List.forall_mem_cons.mpr ⟨Nat.ne_of_gt (by assumption), by assumption⟩); intro h7 Fw7 up7))
local macro_rules | `(tactic| walk_at "mine flew") => `(tactic| first | assumption | exact Flew.fewer (by assumption) (by walk_at "mine sub"))

section
abbrev sE : Str := Str.ofString "eE"
abbrev sPM : Str := Str.ofString "+-"
def neg (T : Str) (p : Int) : Bool := decide (p < T.length ∧ cd T p = 45)
theorem one_nil {c : Nat} (h : ((⟨#[c]⟩ : Str) == Str.ofString "") = true) : False := by
  rw [nil_iff, decide_eq_true_eq] at h
  cases h
theorem nil_len {D : Str} (h : (D == Str.ofString "") = true) : D.length = 0 := by
  rw [nil_iff, decide_eq_true_eq] at h
  exact h
theorem len_nil {D : Str} (h : (D == Str.ofString "") = false) : D.length ≠ 0 := by
  rw [nil_iff, decide_eq_false_iff_not] at h
  exact h
theorem pm_has (c : Nat) : has sPM c = decide (c = 43 ∨ c = 45) := by
  have e : sPM.cps.toList = [43, 45] := by decide +kernel
  unfold has
  rw [e]
  simp
theorem sgn_is {T : Str} {p : Int} (h : isone sPM T p = true) : sgn T p = p + 1 := by
  unfold isone at h
  rw [pm_has, Bool.and_eq_true, decide_eq_true_eq, decide_eq_true_eq] at h
  unfold sgn
  rw [if_pos h]
theorem sgn_isnt {T : Str} {p : Int} (h : isone sPM T p = false) : sgn T p = p := by
  unfold isone at h
  rw [pm_has] at h
  unfold sgn
  rw [if_neg]
  rintro ⟨a, b⟩
  simp [a, b] at h
theorem neg_yes {T : Str} {p : Int} {c : Nat} (hl : p < T.length) (hc : cd T p = c) (h : ((⟨#[c]⟩ : Str) == Str.ofString "-") = true) : neg T p = true := by
  unfold neg
  rw [hc, eq_of' s_minus h]
  simp [hl]
theorem neg_no {T : Str} {p : Int} {c : Nat} (hc : cd T p = c) (h : ((⟨#[c]⟩ : Str) == Str.ofString "-") = false) : neg T p = false := by
  have := ne_of' s_minus h
  unfold neg
  rw [hc]
  simp [this]
theorem neg_out {T : Str} {p : Int} (h : isone sPM T p = false) : neg T p = false := by
  unfold isone at h
  rw [pm_has] at h
  unfold neg
  rw [decide_eq_false_iff_not]
  rintro ⟨a, b⟩
  simp [a, b] at h
theorem raise44 {w : World} {A : Around} {E : Value → Shared → Prop} {s : Shared} {env : Env} {x : Expr} {pos : Pos} {Q : Flow → Shared → Prop} (hh : A.handled = none) (h : wpAny (model prg w) A (eval x env) (Raised (Mine.hd0.heap_1 w.params) 44 E) E s) :
    wpAny (model prg w) A (exec (.Raise (some x) none pos) env) Q E s :=
  raise_at (K := Mine.hd0.heap_1 w.params) (C := 44) hh (by with_unfolding_all rfl) (by k_dflt k_is) h
theorem skp_nil {S T : Str} {p q : Int} {s : Str} (h : skp S T p = (s, q)) (hs : (s == Str.ofString "") = true) : isone S T p = false ∧ q = p := by
  unfold skp at h
  cases e : isone S T p with
  | true =>
    rw [e, if_pos rfl] at h
    obtain ⟨rfl, rfl⟩ := Prod.mk.inj h
    exact (one_nil hs).elim
  | false =>
    rw [e, if_neg (by decide)] at h
    exact ⟨rfl, (Prod.mk.inj h).2.symm⟩
theorem skp_one {S T : Str} {p q : Int} {s : Str} (h : skp S T p = (s, q)) (hs : (s == Str.ofString "") = false) : isone S T p = true ∧ q = p + 1 := by
  unfold skp at h
  cases e : isone S T p with
  | true =>
    rw [e, if_pos rfl] at h
    exact ⟨rfl, (Prod.mk.inj h).2.symm⟩
  | false =>
    rw [e, if_neg (by decide)] at h
    obtain ⟨rfl, rfl⟩ := Prod.mk.inj h
    simp at hs
theorem bne_nil {s : Str} {b : Bool} (h : (s != Str.ofString "") = b) : (s == Str.ofString "") = !b := by
  rw [← h, bne, Bool.not_not]
theorem skp_sgn {T : Str} {p q : Int} {s : Str} (h : skp sPM T p = (s, q)) : sgn T p = q := by
  unfold skp at h
  cases e : isone sPM T p with
  | true =>
    rw [e, if_pos rfl] at h
    rw [sgn_is e]
    exact (Prod.mk.inj h).2
  | false =>
    rw [e, if_neg (by decide)] at h
    rw [sgn_isnt e]
    exact (Prod.mk.inj h).2
theorem skp_neg {T : Str} {p q : Int} {s : Str} {b : Bool} (h : skp sPM T p = (s, q)) (hs : (s == Str.ofString "-") = b) : neg T p = b := by
  unfold skp at h
  cases e : isone sPM T p with
  | true =>
    rw [e, if_pos rfl] at h
    obtain ⟨rfl, rfl⟩ := Prod.mk.inj h
    have hl : p < T.length := by
      unfold isone at e
      rw [Bool.and_eq_true, decide_eq_true_eq] at e
      exact e.1
    cases b with
    | true => exact neg_yes hl rfl hs
    | false => exact neg_no rfl hs
  | false =>
    rw [e, if_neg (by decide)] at h
    obtain ⟨rfl, rfl⟩ := Prod.mk.inj h
    rw [neg_out e, ← hs]
    decide +kernel
theorem C_readexp {w : World} {x dx : Addr} {k1 k2 t1 t2 : Tok} {T : Str} {p : Int} {rest : Led} (hT : T.length ≤ 1000) (h0 : 0 ≤ p) (h1 : p ≤ T.length) (hx : @LT.lt Nat _ dx x) (hr : ∀ q ∈ rest, q.1 ≠ dx) :
    CtrE w 136 ((x, instObj 118 dx) :: (dx, scD w k1 T t1 k2 p t2) :: rest) [.ref x] 12
      (fun k => (isone sE T p = false → ∀ t t', k (.int 0 t) ((x, instObj 118 dx) :: (dx, scD w k1 T t1 k2 p t') :: rest)) ∧
        (isone sE T p = true → ∀ t t' b q D, sgn T (p + 1) = b → run DG T b = q → b ≤ q → q ≤ T.length → Txt.slice T (some b) (some q) = D → figs D → (D.length : Int) = q - b → b < q → D.length ≤ 9 → val D ≤ 300 → ∀ n, (if neg T (p + 1) = true then - val D else val D) = n → -300 ≤ n → n ≤ 300 → k (.int n t) ((x, instObj 118 dx) :: (dx, scD w k1 T t1 k2 q t') :: rest)))
      (fun k => isone sE T p = true → ∀ e d a1 msg tm t' b q D, sgn T (p + 1) = b → run DG T b = q → b ≤ q → q ≤ T.length → Txt.slice T (some b) (some q) = D → ¬ (b < q ∧ D.length ≤ 9 ∧ val D ≤ 300) → k e (XP 44 d .none) ((d, dictOf [⟨PyData.keyHash w.params (Str.ofString "message"), .str (Str.ofString "message") a1, .str msg tm⟩] 1) :: (x, instObj 118 dx) :: (dx, scD w k1 T t1 k2 q t') :: rest)) := by
  unfold CtrE
  intro mean mg mb dp un gd cn cs ad ccd cl outer A₀ base h₀ L m sh sg sd sk so Q E B F X N Tp hk hdp hun XB TB D hret hexc
  k_steps
  · obtain ⟨h3, rfl⟩ := skp_nil (S := sE) (by assumption) (by assumption)
    exact hret.1 h3 _ _ _ _ (by k_asm) (by walk_at "mine drop")
  all_goals have hs3 := skp_one (S := sE) (by assumption) (by assumption)
  all_goals obtain ⟨hs4, rfl⟩ := hs3
  all_goals have hsg := skp_sgn (by assumption)
  · refine ⟨raise44 rfl ?_⟩
    k_steps
    walk_at "mine raised"
    have := nil_len (by assumption)
    exact hexc hs4 _ _ _ _ _ _ _ _ _ hsg (by assumption) (by omega) (by omega) (by assumption) (by omega) _ _ _ (by assumption) (by walk_at "mine flew") (by assumption)
  · refine ⟨raise44 rfl ?_⟩
    k_steps
    walk_at "mine raised"
    exact hexc hs4 _ _ _ _ _ _ _ _ _ hsg (by assumption) (by omega) (by omega) (by assumption) (by omega) _ _ _ (by assumption) (by walk_at "mine flew") (by assumption)
  · refine ⟨raise44 rfl ?_⟩
    k_steps
    walk_at "mine raised"
    exact hexc hs4 _ _ _ _ _ _ _ _ _ hsg (by assumption) (by omega) (by omega) (by assumption) (by omega) _ _ _ (by assumption) (by walk_at "mine flew") (by assumption)
  · have hn := skp_neg (by assumption) (by assumption)
    have hz := len_nil (by assumption)
    exact hret.2 hs4 _ _ _ _ _ hsg (by assumption) (by omega) (by omega) (by assumption) (by assumption) (by omega) (by omega) (by omega) (by omega) _ ((if_pos hn).trans (by omega)) (by omega) (by omega) _ _ (by k_asm) (by walk_at "mine drop")
  · have hn := skp_neg (by assumption) (by assumption)
    have hz := len_nil (by assumption)
    exact hret.2 hs4 _ _ _ _ _ hsg (by assumption) (by omega) (by omega) (by assumption) (by assumption) (by omega) (by omega) (by omega) (by omega) _ ((if_neg (by rw [hn]; decide)).trans (by assumption)) (by omega) (by omega) _ _ (by k_asm) (by walk_at "mine drop")

end
section
theorem log2_gcd {a b : Int} {n : Nat} (hb : 0 < b) (hB : b.natAbs.log2 < n) : ((Int.gcd a b : Nat) : Int).natAbs.log2 < n := by
  have h1 : ((Int.gcd a b : Nat) : Int).natAbs = Nat.gcd a.natAbs b.natAbs := rfl
  rw [h1]
  have h2 : Nat.gcd a.natAbs b.natAbs ≤ b.natAbs := Nat.gcd_le_right _ (by omega)
  have h3 : Nat.gcd a.natAbs b.natAbs ≠ 0 := by
    have := Nat.gcd_pos_of_pos_right a.natAbs (show 0 < b.natAbs by omega)
    omega
  rw [Nat.log2_lt h3]
  rw [Nat.log2_lt (by omega)] at hB
  omega
theorem gcd_step {a b : Int} (ha : 0 ≤ a) (hb : 0 < b) : Int.gcd b (Int.fmod a b) = Int.gcd a b := by
  obtain ⟨x, rfl⟩ := Int.eq_ofNat_of_zero_le ha
  obtain ⟨y, rfl⟩ := Int.eq_ofNat_of_zero_le (Int.le_of_lt hb)
  rw [Int.fmod_eq_emod_of_nonneg _ (by omega), ← Int.natCast_emod]
  show Nat.gcd y (x % y) = Nat.gcd x y
  rw [Nat.gcd_comm x y, Nat.gcd_rec y x, Nat.gcd_comm]
theorem gcd_abs (a b : Int) : Int.gcd (if a < 0 then -a else a) b = Int.gcd a b := by
  split
  · exact Int.neg_gcd
  · rfl
theorem C_cdiv {w : World} {a b : Int} {ta tb : Tok} {led : Led} (hb : 0 < b) (hB : b.natAbs.log2 < 9000) :
    CtrN w 72 led [.int a ta, .int b tb] 2 (fun k => ∀ t g, ((Int.gcd a b : Nat) : Int) = g → 0 < g → g.natAbs.log2 < 9000 → k (.int g t) led) := by
  unfold CtrN
  intro mean mg mb dp un gd cn cs ad ccd cl outer A₀ base h₀ L m sh sg sd sk so Q E B F X N Tp hk hdp hun hret
  k_steps
  refine ⟨?_⟩
  rename Fr _ _ _ _ => F1
  rename News _ _ _ _ => N1
  refine while_mine (fun n m₁ nx => (∀ q ∈ led, q ∈ nx) ∧ ∃ (x y : Int) (tx ty : Tok) (u : Str → Option Value), m₁ = (fun z => if z = Str.ofString "first" then some (.int x tx) else if z = Str.ofString "second" then some (.int y ty) else u z) ∧ 0 ≤ x ∧ 0 ≤ y ∧ Int.gcd x y = Int.gcd a b ∧ n = y.toNat) F1 N1 ⟨by walk_at "mine sub", _, _, _, _, _, rfl, by split <;> omega, Int.le_of_lt hb, gcd_abs a b, rfl⟩ ?_ ?_
  rotate_left
  · first | passes_own | with_unfolding_all passes_own
  rintro n m₁ nx h₁ tk₁ F2 N2 ⟨hsub, x, y, tx, ty, u, rfl, hx, hy, hg, rfl⟩
  clear F1 N1
  k_steps
  · have h1 := Int.fmod_nonneg hx (show 0 ≤ y by omega)
    have h2 := Int.fmod_lt_of_pos x (show 0 < y by omega)
    exact wend (by k_asm) (by k_asm) ⟨fun q hq => by first | exact hsub q hq | exact List.Mem.tail _ (hsub q hq), y, Int.fmod x y, _, _, _, rfl, by omega, h1, (gcd_step hx (by omega)).trans hg, rfl⟩ (by omega)
  · have hy0 : y = 0 := by omega
    subst hy0
    have hx' : x = Int.gcd a b := by rw [← hg, Int.gcd_zero_right]; omega
    rw [hx']
    have hp := Int.gcd_pos_of_ne_zero_right a (show b ≠ 0 by omega)
    exact hret _ _ rfl (by omega) (log2_gcd hb hB) _ _ (by k_asm) (cb_drop (by k_asm) hsub)

end
section
theorem pow_pos10 (n : Nat) : 0 < (10 : Int) ^ n := Int.pow_pos (by omega)
theorem pow_log10 {n : Nat} (h : n ≤ 2000) : ((10 : Int) ^ n).natAbs.log2 < 9000 := by
  have h1 : Builtin.Int.intBits ((10 : Int) ^ n) ≤ 4 * n + 1 := PySem.intBits_pow_le (x := 10) (m := 4) (by decide +kernel) _
  have h2 := PySem.intBits_le_iff.mp h1
  have h3 : ((10 : Int) ^ n).natAbs ≠ 0 := by have := pow_pos10 n; omega
  rw [Nat.log2_lt h3]
  exact Nat.lt_of_lt_of_le h2 (Nat.pow_le_pow_right (by omega) (by omega))
theorem mul_ok10 {a : Int} {n : Nat} (h : Builtin.Int.intBits a ≤ 1048576) (hn : n ≤ 2000) : IntMulOk a ((10 : Int) ^ n) :=
  PySem.IntMulOk.of_le h (PySem.intBits_pow_le (x := 10) (m := 4) (by decide +kernel) n) (by omega)
/-- the number n at the power x of ten, in lowest terms -/
def ratio (n x : Int) : Int × Int :=
  if x < 0 then (Int.fdiv n (Int.gcd n (10 ^ (-x).toNat)), Int.fdiv (10 ^ (-x).toNat) (Int.gcd n (10 ^ (-x).toNat))) else (n * 10 ^ x.toNat, 1)
theorem ratio_neg {n x g : Int} (h : x < 0) (hg : ((Int.gcd n (10 ^ (-x).toNat) : Nat) : Int) = g) : ratio n x = (Int.fdiv n g, Int.fdiv (10 ^ (-x).toNat) g) := by
  unfold ratio
  rw [if_pos h, hg]
theorem ratio_pos {n x : Int} (h : ¬ x < 0) : ratio n x = (n * 10 ^ x.toNat, 1) := by
  unfold ratio
  rw [if_neg h]
theorem neg_val1 {U D : Str} {p v : Int} (h : neg U p = true) (hv : val D = v) : (if neg U p = true then - val D else val D) = - v := by
  exact (if_pos h).trans (congrArg _ hv)
theorem neg_val0 {U D : Str} {p v : Int} (h : neg U p = false) (hv : val D = v) : (if neg U p = true then - val D else val D) = v := by
  exact (if_neg (by rw [h]; decide)).trans hv
theorem of_allLt {d : Addr} {l : List (Addr × Obj)} (h : AllLt d l) : ∀ p ∈ l, @LT.lt Nat _ p.1 d := by
  induction l with
  | nil => exact fun p hp => nomatch hp
  | cons q r ih =>
    have h' : @LT.lt Nat _ q.1 d ∧ AllLt d r := h
    exact List.forall_mem_cons.mpr ⟨h'.1, ih h'.2⟩
theorem of_allLt1 {d : Addr} {l : List (Addr × Obj)} {a : Prop} (h : a ∧ AllLt d l) : ∀ p ∈ l, @LT.lt Nat _ p.1 d := of_allLt h.2
theorem of_allLt2 {d : Addr} {l : List (Addr × Obj)} {a b : Prop} (h : a ∧ b ∧ AllLt d l) : ∀ p ∈ l, @LT.lt Nat _ p.1 d := of_allLt h.2.2
theorem of_allLt3 {d : Addr} {l : List (Addr × Obj)} {a b c : Prop} (h : a ∧ b ∧ c ∧ AllLt d l) : ∀ p ∈ l, @LT.lt Nat _ p.1 d := of_allLt h.2.2.2
theorem of_allLt4 {d : Addr} {l : List (Addr × Obj)} {a b c e : Prop} (h : a ∧ b ∧ c ∧ e ∧ AllLt d l) : ∀ p ∈ l, @LT.lt Nat _ p.1 d := of_allLt h.2.2.2.2

end
section
/-- behind the part after a point, and its figures -/
def dotEnd (U : Str) (d1 : Int) : Int × Str := if isone (Str.ofString ".") U d1 = true then (run DG U (d1 + 1), Txt.slice U (some (d1 + 1)) (some (run DG U (d1 + 1)))) else (d1, Str.ofString "")
/-- what is left when the head of the number is read: its power, and where the text stands -/
def decTail (U W P : Str) (d2 : Int) : Option (Int × Int) :=
  if (W ++ P).length = 0 then none else
  if isone sE U d2 = true then
    (if sgn U (d2 + 1) < run DG U (sgn U (d2 + 1)) ∧ (Txt.slice U (some (sgn U (d2 + 1))) (some (run DG U (sgn U (d2 + 1))))).length ≤ 9 ∧ val (Txt.slice U (some (sgn U (d2 + 1))) (some (run DG U (sgn U (d2 + 1))))) ≤ 300 ∧ ¬ run DG U (sgn U (d2 + 1)) < U.length
      then some (ratio (if neg U 0 = true then - val (W ++ P) else val (W ++ P)) ((if neg U (d2 + 1) = true then - val (Txt.slice U (some (sgn U (d2 + 1))) (some (run DG U (sgn U (d2 + 1))))) else val (Txt.slice U (some (sgn U (d2 + 1))) (some (run DG U (sgn U (d2 + 1)))))) - P.length)) else none)
  else (if ¬ d2 < U.length then some (ratio (if neg U 0 = true then - val (W ++ P) else val (W ++ P)) (0 - P.length)) else none)
/-- the decimal number that a text tells -/
def dec (U : Str) : Option (Int × Int) :=
  decTail U (Txt.slice U (some (sgn U 0)) (some (run DG U (sgn U 0)))) (dotEnd U (run DG U (sgn U 0))).2 (dotEnd U (run DG U (sgn U 0))).1
def HeadF (U s0 W P : Str) (d2 : Int) : Prop := (∃ b, skp sPM U 0 = (s0, b)) ∧ dec U = decTail U W P d2
theorem head_dot {U s0 s1 W P : Str} {b d1 q1 d2 : Int} (h1 : skp sPM U 0 = (s0, b)) (h2 : run DG U b = d1) (h3 : Txt.slice U (some b) (some d1) = W) (h4 : skp (Str.ofString ".") U d1 = (s1, q1)) (h5 : (s1 != Str.ofString "") = true)
    (h6 : run DG U q1 = d2) (h7 : Txt.slice U (some q1) (some d2) = P) : HeadF U s0 W P d2 := by
  refine ⟨⟨b, h1⟩, ?_⟩
  obtain ⟨h8, h9⟩ := skp_one h4 (bne_nil (b := true) h5)
  unfold dec dotEnd
  rw [skp_sgn h1, h2, h3, if_pos h8, ← h9, h6]
  dsimp only
  rw [h7]
theorem head_nodot {U s0 s1 W : Str} {b d1 q1 : Int} (h1 : skp sPM U 0 = (s0, b)) (h2 : run DG U b = d1) (h3 : Txt.slice U (some b) (some d1) = W) (h4 : skp (Str.ofString ".") U d1 = (s1, q1)) (h5 : (s1 != Str.ofString "") = false) : HeadF U s0 W (Str.ofString "") q1 := by
  refine ⟨⟨b, h1⟩, ?_⟩
  obtain ⟨h8, h9⟩ := skp_nil h4 (bne_nil (b := false) h5)
  unfold dec dotEnd
  rw [skp_sgn h1, h2, h3, h8, if_neg Bool.false_ne_true, h9]
section
variable {U s0 W P : Str} {d2 : Int} (H : HeadF U s0 W P d2)
include H
theorem dec_nil (h : (W ++ P == Str.ofString "") = true) : dec U = none := by
  rw [H.2, decTail, if_pos (nil_len h)]
theorem dec_more1 (hi : isone sE U d2 = false) (h : d2 < U.length) : dec U = none := by
  rw [H.2, decTail, hi]
  split
  · rfl
  · simp [h]
theorem dec_more2 {b q : Int} (hi : isone sE U d2 = true) (hb : sgn U (d2 + 1) = b) (hq : run DG U b = q) (h : q < U.length) : dec U = none := by
  rw [H.2, decTail, hi, hb, hq]
  split
  · rfl
  · rw [if_pos rfl, if_neg (fun x => x.2.2.2 h)]
theorem dec_bad {b q : Int} {D : Str} (hi : isone sE U d2 = true) (hb : sgn U (d2 + 1) = b) (hq : run DG U b = q) (hD : Txt.slice U (some b) (some q) = D) (h : ¬ (b < q ∧ D.length ≤ 9 ∧ val D ≤ 300)) : dec U = none := by
  rw [H.2, decTail, hi, hb, hq, hD]
  split
  · rfl
  · rw [if_pos rfl, if_neg (fun x => h ⟨x.1, x.2.1, x.2.2.1⟩)]
theorem dec_num {z : Bool} {v : Int} (h : (s0 == Str.ofString "-") = z) (hv : val (W ++ P) = v) : (if neg U 0 = true then - val (W ++ P) else val (W ++ P)) = if z = true then - v else v := by
  obtain ⟨b, hb⟩ := H.1
  rw [skp_neg hb h, hv]
theorem dec_val1 {z : Bool} {v x A B : Int} (hne : (W ++ P == Str.ofString "") = false) (hi : isone sE U d2 = false) (hq : ¬ d2 < U.length) (h : (s0 == Str.ofString "-") = z) (hv : val (W ++ P) = v) (hx : x = 0 - (P.length : Int))
    (hr : ratio (if z = true then - v else v) x = (A, B)) : dec U = some (A, B) := by
  rw [H.2, decTail, hi, if_neg (len_nil hne), if_neg Bool.false_ne_true, if_pos hq, dec_num H h hv, ← hr, hx]
theorem dec_val2 {z : Bool} {v x A B b q n : Int} {D : Str} (hne : (W ++ P == Str.ofString "") = false) (hi : isone sE U d2 = true) (hb : sgn U (d2 + 1) = b) (hq : run DG U b = q) (hD : Txt.slice U (some b) (some q) = D) (h1 : b < q) (h2 : D.length ≤ 9) (h3 : val D ≤ 300)
    (hn : (if neg U (d2 + 1) = true then - val D else val D) = n) (hl : ¬ q < U.length) (h : (s0 == Str.ofString "-") = z) (hv : val (W ++ P) = v) (hx : x = n - (P.length : Int))
    (hr : ratio (if z = true then - v else v) x = (A, B)) : dec U = some (A, B) := by
  rw [H.2, decTail, hi, if_neg (len_nil hne), if_pos rfl, hb, hq, hD, if_pos ⟨h1, h2, h3, hl⟩, dec_num H h hv, hn, ← hr, hx]
end
/-- a power read at p, or none: where it ends, and its worth -/
def RexpR (T : Str) (p q n : Int) : Prop :=
  (isone sE T p = false ∧ q = p ∧ n = 0) ∨
    (isone sE T p = true ∧ ∃ b D, sgn T (p + 1) = b ∧ run DG T b = q ∧ Txt.slice T (some b) (some q) = D ∧ b < q ∧ D.length ≤ 9 ∧ val D ≤ 300 ∧ (if neg T (p + 1) = true then - val D else val D) = n)
theorem dec_valR {U s0 W P : Str} {d2 v r x A B q n : Int} (H : HeadF U s0 W P d2) (hne : (W ++ P == Str.ofString "") = false) (hi : RexpR U d2 q n) (hl : ¬ q < U.length) (hv : val (W ++ P) = v)
    (hz : r = if (s0 == Str.ofString "-") = true then - v else v) (hx : x = n - (P.length : Int)) (hr : ratio r x = (A, B)) : dec U = some (A, B) := by
  subst hz
  rcases hi with ⟨hi, rfl, rfl⟩ | ⟨hi, b, D, hb, hq, hD, h1, h2, h3, hn⟩
  · exact dec_val1 H hne hi hl rfl hv hx hr
  · exact dec_val2 H hne hi hb hq hD h1 h2 h3 hn hl rfl hv hx hr
theorem dec_moreR {U s0 W P : Str} {d2 q n : Int} (H : HeadF U s0 W P d2) (hi : RexpR U d2 q n) (h : q < U.length) : dec U = none := by
  rcases hi with ⟨hi, rfl, rfl⟩ | ⟨hi, b, D, hb, hq, hD, h1, h2, h3, hn⟩
  · exact dec_more1 H hi h
  · exact dec_more2 H hi hb hq h
theorem sgn_ge (T : Str) (p : Int) : p ≤ sgn T p := by
  unfold sgn
  split <;> omega
theorem CtrE.to {w : World} {f : Addr} {led : Led} {vs : List Value} {cost : Nat} {post post' : (Value → Led → Prop) → Prop} {epost : (Addr → (Obj → Prop) → Led → Prop) → Prop} (C : CtrE w f led vs cost post epost) (h : ∀ k, post' k → post k) :
    CtrE w f led vs cost post' epost := by
  intro mean mg mb dp un gd cn cs ad ccd cl outer A₀ base h₀ L m sh sg sd sk so Q E B F X N Tp hk hdp hun XB TB D hret hexc
  exact C mean mg mb dp un gd cn cs ad ccd cl outer A₀ base h₀ L m sh sg sd sk so Q E B F X N Tp hk hdp hun XB TB D (h _ hret) hexc
theorem C_rexp1 {w : World} {x dx : Addr} {k1 k2 t1 t2 : Tok} {T : Str} {p : Int} {rest : Led} (hT : T.length ≤ 1000) (h0 : 0 ≤ p) (h1 : p ≤ T.length) (hx : @LT.lt Nat _ dx x) (hr : ∀ q ∈ rest, q.1 ≠ dx) :
    CtrE w 136 ((x, instObj 118 dx) :: (dx, scD w k1 T t1 k2 p t2) :: rest) [.ref x] 12
      (fun k => ∀ t t' q n, RexpR T p q n → p ≤ q → q ≤ T.length → -300 ≤ n → n ≤ 300 → k (.int n t) ((x, instObj 118 dx) :: (dx, scD w k1 T t1 k2 q t') :: rest))
      (fun k => isone sE T p = true → ∀ e d a1 msg tm t' b q D, sgn T (p + 1) = b → run DG T b = q → b ≤ q → q ≤ T.length → Txt.slice T (some b) (some q) = D → ¬ (b < q ∧ D.length ≤ 9 ∧ val D ≤ 300) → k e (XP 44 d .none) ((d, dictOf [⟨PyData.keyHash w.params (Str.ofString "message"), .str (Str.ofString "message") a1, .str msg tm⟩] 1) :: (x, instObj 118 dx) :: (dx, scD w k1 T t1 k2 q t') :: rest)) :=
  CtrE.to (C_readexp hT h0 h1 hx hr) fun k hk => ⟨fun hi t t' => hk t t' p 0 (.inl ⟨hi, rfl, rfl⟩) (Int.le_refl _) h1 (by decide) (by decide),
    fun hi t t' b q D hb hq hbq hq2 hD _ _ h4 h5 h6 n hn h7 h8 => hk t t' q n (.inr ⟨hi, b, D, hb, hq, hD, h4, h5, h6, hn⟩) (by have := sgn_ge T (p + 1); omega) hq2 h7 h8⟩
/-- what is known behind the part after a point -/
def headI {U s0 W : Str} {b d1 : Int} (_ : skp sPM U 0 = (s0, b)) (_ : run DG U b = d1) (_ : Txt.slice U (some b) (some d1) = W) (v : Value) (q : Int) : Prop :=
  ∃ P tP, v = .str P tP ∧ figs P ∧ W.length + P.length ≤ U.length ∧ HeadF U s0 W P q ∧ 0 ≤ q ∧ q ≤ U.length
/-- the number with its sign -/
def signI {U s0 W P : Str} {d2 q₀ n v : Int} (_ : HeadF U s0 W P d2) (_ : RexpR U d2 q₀ n) (_ : val (W ++ P) = v) (x : Value) (q : Int) : Prop :=
  q = q₀ ∧ ∃ r t, x = .int r t ∧ r = (if (s0 == Str.ofString "-") = true then - v else v) ∧ Builtin.Int.intBits r ≤ 1048576
theorem ratio_neg1 {v x g : Int} (h : x < 0) (hg : ((Int.gcd (-v) (10 ^ (-x).toNat) : Nat) : Int) = g) : ratio (if (true : Bool) = true then -v else v) x = (Int.fdiv (-v) g, Int.fdiv (10 ^ (-x).toNat) g) := ratio_neg h hg
theorem ratio_neg0 {v x g : Int} (h : x < 0) (hg : ((Int.gcd v (10 ^ (-x).toNat) : Nat) : Int) = g) : ratio (if (false : Bool) = true then -v else v) x = (Int.fdiv v g, Int.fdiv (10 ^ (-x).toNat) g) := ratio_neg h hg
theorem ratio_pos1 {v x : Int} (h : ¬ x < 0) : ratio (if (true : Bool) = true then -v else v) x = (-v * 10 ^ x.toNat, 1) := ratio_pos h
theorem ratio_pos0 {v x : Int} (h : ¬ x < 0) : ratio (if (false : Bool) = true then -v else v) x = (v * 10 ^ x.toNat, 1) := ratio_pos h

end
section
theorem C_new_numtext {w : World} {U : Str} {tU : Tok} {led : Led} :
    Ctr w 118 led [.str U tU] 4 (fun k => ∀ x dx k1 t1 k2 t2, @LT.lt Nat _ dx x → (∀ q ∈ led, @LT.lt Nat _ q.1 dx) → k (.ref x) ((x, instObj 118 dx) :: (dx, scD w k1 U t1 k2 0 t2) :: led)) := by
  unfold Ctr
  intro mean mg mb hd dp un gd cn cs ad ccd cl outer A₀ base h₀ L m sh sg sd sk so Q E B F X N Tp hk hdp hun hret
  k_steps
  exact hret _ _ _ _ _ _ (by assumption) (by first | assumption | exact of_allLt (by assumption)) _ _ (by k_asm) (by walk_at "mine drop")
theorem C_new_scanner {w : World} {U : Str} {tU : Tok} {led : Led} :
    Ctr w 237 led [.str U tU] 4 (fun k => ∀ x dx k1 t1 k2 t2, @LT.lt Nat _ dx x → (∀ q ∈ led, @LT.lt Nat _ q.1 dx) → k (.ref x) ((x, instObj 237 dx) :: (dx, scD w k1 U t1 k2 0 t2) :: led)) := by
  unfold Ctr
  intro mean mg mb hd dp un gd cn cs ad ccd cl outer A₀ base h₀ L m sh sg sd sk so Q E B F X N Tp hk hdp hun hret
  k_steps
  exact hret _ _ _ _ _ _ (by assumption) (by first | assumption | exact of_allLt (by assumption)) _ _ (by k_asm) (by walk_at "mine drop")

end
local macro_rules | `(tactic| walk_at "call ref") => `(tactic| (apply useN (C_cdiv ..); walk_at "mine go"))
local macro_rules | `(tactic| walk_at "binaryOp FloorDiv int int") => `(tactic| with_reducible refine floordiv_int (by omega) ?_ (Or.inl (PyProof.noPylong_of_log2 (by assumption))))

section
theorem C_fraction {w : World} {a b : Int} {ta tb : Tok} {led : Led} (hb : 0 < b) (hB : b.natAbs.log2 < 9000) :
    CtrN w 80 led [.int a ta, .int b tb] 4 (fun k => ∀ z t1 t2 g, ((Int.gcd a b : Nat) : Int) = g → 0 < g → (∀ q ∈ led, @LT.lt Nat _ q.1 z) → k (.ref z) ((z, { cls := .type "tuple", data := .seq #[.int (Int.fdiv a g) t1, .int (Int.fdiv b g) t2] }) :: led)) := by
  unfold CtrN
  intro mean mg mb dp un gd cn cs ad ccd cl outer A₀ base h₀ L m sh sg sd sk so Q E B F X N Tp hk hdp hun hret
  k_steps
  · omega
  exact hret _ _ _ _ (by assumption) (by assumption) (by assumption) _ _ (by k_asm) (by walk_at "mine drop")

end
local macro_rules | `(tactic| walk_at "call ref") => `(tactic| (apply useE (C_rexp1 ..); walk_at "mine s2"; rotate_left; (intros; intro g' h' tk' FG' Fw' up'; walk_at "mine stop"); rotate_left; walk_at "mine in"))
local macro_rules | `(tactic| walk_at "call ref") => `(tactic| (apply useN (C_fraction ..); walk_at "mine go"))
local macro_rules | `(tactic| walk_at "mine more") => `(tactic| first | exact pow_pos10 _ | exact pow_log10 (by omega))
local macro_rules | `(tactic| walk_at "binaryOp Pow int int") => `(tactic| with_reducible refine pow_int_small (by omega) (by omega) (by decide) ?_)
local macro_rules | `(tactic| walk_at "binaryOp Mult int int") => `(tactic| with_reducible refine mul_int ?_ (mul_ok10 (by walk_at "mine bits") (by omega)))
local macro_rules | `(tactic| walk_at "mine bits") => `(tactic| first | assumption | exact intBits_neg_le (by assumption))
local macro_rules | `(tactic| walk_at "call ref") => `(tactic| (apply use C_new_numtext; walk_at "mine go"))
local macro_rules | `(tactic| walk_at "call ref") => `(tactic| (apply use C_new_scanner; walk_at "mine go"))

section
local macro_rules | `(tactic| walk_at "exec If Compare") => `(tactic| (with_reducible refine ifOp .NotEq ?_; walk_at "mine stopJ"))
local macro_rules | `(tactic| walk_at "exec If Compare") => `(tactic| (with_reducible refine ifName ?_; walk_at "mine stopJ"))
theorem C_readdec {w : World} {U : Str} {tU : Tok} {rest : Led} (hT : U.length ≤ 1000) :
    CtrE w 143 rest [.str U tU] 20
      (fun k => ∀ z tA tB A B, (∀ q ∈ rest, @LT.lt Nat _ q.1 z) → dec U = some (A, B) → k (.ref z) ((z, { cls := .type "tuple", data := .seq #[.int A tA, .int B tB] }) :: rest))
      (fun k => dec U = none → ∀ e d a1 msg tm, k e (XP 44 d .none) ((d, dictOf [⟨PyData.keyHash w.params (Str.ofString "message"), .str (Str.ofString "message") a1, .str msg tm⟩] 1) :: rest)) := by
  unfold CtrE
  intro mean mg mb dp un gd cn cs ad ccd cl outer A₀ base h₀ L m sh sg sd sk so Q E B F X N Tp hk hdp hun XB TB D hret hexc
  have hP0 : (Str.ofString "").length = 0 := rfl
  k_steps
  refine ⟨?_⟩
  rename Fr _ _ _ _ => F1
  rename News _ _ _ _ => N1
  refine join_scan F1 (fun p hp => N1 p (List.Mem.tail _ hp)) (Str.ofString "parts") (headI (by assumption) (by assumption) (by assumption)) ?_ ?_
  · k_steps
    · have H := head_dot (U := U) (by assumption) (by assumption) (by assumption) (by assumption) (by assumption) (by assumption) (by assumption)
      exact joined (by k_asm) (by walk_at "mine drop") ⟨_, _, _, ⟨_, _, rfl, by assumption, by omega, H, by omega, by omega⟩, rfl, rfl⟩
    · have H := head_nodot (U := U) (by assumption) (by assumption) (by assumption) (by assumption) (by assumption)
      exact joined (by k_asm) (by walk_at "mine drop") ⟨_, _, _, ⟨_, _, rfl, figs_nil, by omega, H, by omega, by omega⟩, upd_same rfl, rfl⟩
  clear F1 N1
  intro v q t' h tk ⟨P, tP, hv, hfP, hPl, H, hq0, hq1⟩ F2 N2
  subst hv
  dsimp only
  k_steps
  · refine ⟨raise44 rfl ?_⟩
    k_steps
    walk_at "mine raised"
    exact hexc (dec_nil H (by assumption)) _ _ _ _ _ _ _ _ (by assumption) (by walk_at "mine flew") (by assumption)
  · refine ⟨raise44 rfl ?_⟩
    k_steps
    walk_at "mine raised"
    exact hexc (dec_moreR H (by assumption) (by assumption)) _ _ _ _ _ _ _ _ (by assumption) (by walk_at "mine flew") (by assumption)
  rotate_left
  · walk_at "mine leave"
    have hd := dec_bad H (by assumption) (by assumption) (by assumption) (by assumption) (by assumption)
    exact hexc hd _ _ _ _ _ _ _ _ (by assumption) (by walk_at "mine flew") (by assumption)
  refine ⟨?_⟩
  rename Fr _ _ _ _ => F1
  rename News _ _ _ _ => N1
  refine join_scan F1 N1 (Str.ofString "number") (signI H (by assumption) (by assumption)) ?_ ?_
  · refine wpAny_If ?_
    k_steps
    · exact joined (by k_asm) (by k_asm) ⟨_, _, _, ⟨rfl, _, _, rfl, (if_pos (by assumption)).symm, intBits_neg_le (by assumption)⟩, rfl, rfl⟩
    · exact joined (by k_asm) (by k_asm) ⟨_, _, _, ⟨rfl, _, _, rfl, (if_neg (by rw [(by assumption : (_ == Str.ofString "-") = false)]; decide)).symm, by assumption⟩, upd_same rfl, rfl⟩
  clear F1 N1
  intro v q1 t' h tk ⟨hq, r, tr, hv, hr, hb⟩ F2 N2
  subst hq hv
  dsimp only
  k_steps
  · have hd := dec_valR H (by assumption) (by assumption) (by assumption) (by assumption) hr rfl (ratio_neg (by assumption) (by assumption))
    exact hret _ _ _ _ _ (fun q hq => (by assumption : ∀ q ∈ _, @LT.lt Nat _ q.1 _) q (by repeat (first | exact hq | apply List.Mem.tail))) hd _ _ (by k_asm) (by walk_at "mine drop")
  · have hd := dec_valR H (by assumption) (by assumption) (by assumption) (by assumption) hr rfl (ratio_pos (by assumption))
    exact hret _ _ _ _ _ (of_allLt (And.right (And.right (by assumption)))) hd _ _ (by k_asm) (by walk_at "mine drop")

end
section
theorem C_peek1 {w : World} {x dx : Addr} {k1 k2 t1 t2 : Tok} {T : Str} {p : Int} {rest : Led} (hT : T.length ≤ 1000) (h0 : 0 ≤ p) :
    Ctr w 171 ((x, instObj 237 dx) :: (dx, scD w k1 T t1 k2 p t2) :: rest) [.ref x] 2
      (fun k => ∀ s t, Txt.slice T (some p) (some (p + 1)) = s → k (.str s t) ((x, instObj 237 dx) :: (dx, scD w k1 T t1 k2 p t2) :: rest)) := by
  unfold Ctr
  intro mean mg mb hd dp un gd cn cs ad ccd cl outer A₀ base h₀ L m sh sg sd sk so Q E B F X N Tp hk hdp hun hret
  refine (C_peek hT h0) mean mg mb hd dp un gd cn cs ad ccd cl outer A₀ base h₀ L m sh sg sd sk so Q E B F X N Tp hk hdp hun ⟨fun hl c t hc => ?_, fun hl t => ?_⟩
  · exact hret _ _ (by rw [slice_in h0 hl, hc])
  · exact hret _ _ (slice_out (by omega) (by omega))
theorem pk_in {T s : Str} {p : Int} (ha : ([Str.ofString "+", Str.ofString "-"].any fun x => x == s) = true) (h : Txt.slice T (some p) (some (p + 1)) = s) (h0 : 0 ≤ p) : p < T.length ∧ sgn T p = p + 1 := by
  by_cases hl : p < T.length
  · rw [slice_in h0 hl] at h
    subst h
    exact ⟨hl, sgn_yes hl rfl ha⟩
  · rw [slice_out (by omega) (by omega)] at h
    subst h
    exact absurd ha (by decide +kernel)
theorem pk_notin {T s : Str} {p : Int} (ha : ([Str.ofString "+", Str.ofString "-"].any fun x => x == s) = false) (h : Txt.slice T (some p) (some (p + 1)) = s) (h0 : 0 ≤ p) : sgn T p = p := by
  by_cases hl : p < T.length
  · rw [slice_in h0 hl] at h
    subst h
    exact sgn_no rfl ha
  · exact sgn_end hl
theorem pk_eq {T s S : Str} {p : Int} {d : Nat} (hS : S = ⟨#[d]⟩) (ha : (s == S) = true) (h : Txt.slice T (some p) (some (p + 1)) = s) (h0 : 0 ≤ p) : p < T.length ∧ cd T p = d := by
  by_cases hl : p < T.length
  · rw [slice_in h0 hl] at h
    subst h
    exact ⟨hl, eq_of' hS ha⟩
  · rw [slice_out (by omega) (by omega)] at h
    subst h
    subst hS
    exact absurd ha (by rw [Bool.not_eq_true]; exact beq_eq_false_iff_ne.mpr (fun z => by have := congrArg (fun y => y.cps.size) z; simp at this))
theorem pk_ne {T s S : Str} {p : Int} {d : Nat} (hS : S = ⟨#[d]⟩) (ha : (s == S) = false) (h : Txt.slice T (some p) (some (p + 1)) = s) (h0 : 0 ≤ p) : ¬ (p < T.length ∧ cd T p = d) := by
  rintro ⟨hl, hc⟩
  rw [slice_in h0 hl] at h
  subst h
  exact ne_of' hS ha hc

end
section
theorem turn_back {base g g' : Heap} {l : List Env} {e : Addr} {P : Obj → Prop} {news : Led} {h : Heap} (T : KtsTurn (l.filterMap (·.frame)) g g') (x : Flew base g' l e P news h) : Flew base g l e P news h := by
  obtain ⟨B, a, b, c, d⟩ := x
  refine ⟨B, a, fun y o q nm => b y o (T.other y o q nm) nm, fun q hq => ⟨(c q hq).1, ?_, (c q hq).2.2⟩, d⟩
  cases z : g.get? q.1 with
  | none => rfl
  | some o =>
    obtain ⟨sl, hs⟩ := T.up z
    rw [(c q hq).2.1] at hs
    cases hs
theorem turn_up {g g' h : Heap} {fs : List Addr} (T : KtsTurn fs g g') (u : g'.UpToSlots h) : g.UpToSlots h := fun b o q hn => by
  obtain ⟨sl, hs⟩ := T.up q
  obtain ⟨sl', hs'⟩ := u b _ hs hn
  exact ⟨sl', hs'⟩
theorem slice_small {T : Str} {p q : Int} (h0 : 0 ≤ p) (h1 : p ≤ q) (h2 : q ≤ T.length) (hT : T.length ≤ 1000) : (Txt.slice T (some p) (some q)).length ≤ 1000 := by
  have := len_slice h0 h1 h2
  omega
theorem raise63c {w : World} {A : Around} {E : Value → Shared → Prop} {s : Shared} {env : Env} {x : Expr} {pos : Pos} {Q : Flow → Shared → Prop} {hx : Addr} (hh : A.handled = some (.ref hx)) (h : wpAny (model prg w) A (eval x env) (Raised2 (Mine.hd0.heap_1 w.params) 63 hx E) E s) :
    wpAny (model prg w) A (exec (.Raise (some x) none pos) env) Q E s :=
  raise_at2 (K := Mine.hd0.heap_1 w.params) (C := 63) hh (by with_unfolding_all rfl) (by k_dflt k_is) h
/-- behind a number: nothing where none stands -/
def numE (T : Str) (p : Int) : Option Int :=
  if cd T (run DG T (sgn T p)) = 46 ∧ run DG T (sgn T p) < T.length then
    (if run DG T (sgn T p) - sgn T p + (run DG T (run DG T (sgn T p) + 1) - (run DG T (sgn T p) + 1)) = 0 then none else some (expo T (run DG T (run DG T (sgn T p) + 1))))
  else (if run DG T (sgn T p) - sgn T p = 0 then none else some (expo T (run DG T (sgn T p))))
theorem numE_dot {T : Str} {p b d1 d2 : Int} (hb : sgn T p = b) (h1 : run DG T b = d1) (hd : d1 < T.length ∧ cd T d1 = 46) (h2 : run DG T (d1 + 1) = d2) : numE T p = if d1 - b + (d2 - (d1 + 1)) = 0 then none else some (expo T d2) := by
  unfold numE
  rw [hb, h1, h2, if_pos ⟨hd.2, hd.1⟩]
theorem numE_nodot {T : Str} {p b d1 : Int} (hb : sgn T p = b) (h1 : run DG T b = d1) (hd : ¬ (d1 < T.length ∧ cd T d1 = 46)) : numE T p = if d1 - b = 0 then none else some (expo T d1) := by
  unfold numE
  rw [hb, h1, if_neg (fun x => hd ⟨x.2, x.1⟩)]

end
local macro_rules | `(tactic| walk_at "call ref") => `(tactic| (apply use (C_peek1 ..); walk_at "mine go"))
local macro_rules | `(tactic| walk_at "mine more") => `(tactic| (have hz9 := pk_in (by assumption) (by assumption) (by assumption); omega))
local macro_rules | `(tactic| walk_at "mine more") => `(tactic| (have hz9 := pk_eq s_dot (by assumption) (by assumption) (by omega); omega))
local macro_rules | `(tactic| walk_at "call ref") => `(tactic| (apply use (C_exponent ..); walk_at "mine go"))

local macro_rules | `(tactic| walk_at "call ref") => `(tactic| (apply useE (C_readdec ?a1); walk_at "mine VN"; k_dflt (case a1 => exact slice_small (by omega) (by omega) (by omega) (by assumption)); walk_at "mine goE2"))
local macro_rules | `(tactic| walk_at "call ref") => `(tactic| (apply use C_new_pathfault; walk_at "mine s2"; walk_at "mine stop"))
local macro_rules | `(tactic| walk_at "getAttr ref") => `(tactic| ((with_reducible show wpAny _ (Around.mark _ _) (getAttr _ _ _) _ _ _); walk_at "mine FN"; k_dflt (refine' getE (od := some _) (Frag.In.keeps (by k_asm) F9.keep) ⟨(N9 _ (List.Mem.head _)).1, rfl, rfl, (N9 _ (List.Mem.tail _ (List.Mem.head _))).1⟩ (by walk_at "mine u") (by k_is) (by k_is) (by walk_at "mine u") (by walk_at "mine u") ?_; k_whole)))

section
local macro_rules | `(tactic| walk_at "exec If Compare") => `(tactic| (with_reducible refine ifOp .In ?_; walk_at "mine stopJ"))
local macro_rules | `(tactic| walk_at "exec If Compare") => `(tactic| (with_reducible refine ifCall ?_; walk_at "mine stopJ"))
theorem C_number {w : World} {x dx : Addr} {k1 k2 t1 t2 : Tok} {T : Str} {p : Int} {rest : Led} (hT : T.length ≤ 1000) (h0 : 0 ≤ p) (h1 : p ≤ T.length) (hx : @LT.lt Nat _ dx x) (hr : ∀ q ∈ rest, q.1 ≠ dx) :
    CtrE w 220 ((x, instObj 237 dx) :: (dx, scD w k1 T t1 k2 p t2) :: rest) [.ref x] 40
      (fun k => ∀ z tA tB A B e t', (∀ q ∈ (x, instObj 237 dx) :: (dx, scD w k1 T t1 k2 e t') :: rest, @LT.lt Nat _ q.1 z) → numE T p = some e → p ≤ e → e ≤ T.length → dec (Txt.slice T (some p) (some e)) = some (A, B) → k (.ref z) ((z, { cls := .type "tuple", data := .seq #[.int A tA, .int B tB] }) :: (x, instObj 237 dx) :: (dx, scD w k1 T t1 k2 e t') :: rest))
      (fun k => (∀ e d a1 a2 msg tm t' cx tp, numE T p = none → k e (XP 63 d cx) ((d, dictOf [⟨PyData.keyHash w.params (Str.ofString "message"), .str (Str.ofString "message") a1, .str msg tm⟩, ⟨PyData.keyHash w.params (Str.ofString "place"), .str (Str.ofString "place") a2, .int p tp⟩] 2) :: (x, instObj 237 dx) :: (dx, scD w k1 T t1 k2 p t') :: rest)) ∧
        (∀ e d a1 a2 msg tm e' t' cx tp, numE T p = some e' → p ≤ e' → e' ≤ T.length → dec (Txt.slice T (some p) (some e')) = none → k e (XP 63 d cx) ((d, dictOf [⟨PyData.keyHash w.params (Str.ofString "message"), .str (Str.ofString "message") a1, .str msg tm⟩, ⟨PyData.keyHash w.params (Str.ofString "place"), .str (Str.ofString "place") a2, .int p tp⟩] 2) :: (x, instObj 237 dx) :: (dx, scD w k1 T t1 k2 e' t') :: rest))) := by
  unfold CtrE
  intro mean mg mb dp un gd cn cs ad ccd cl outer A₀ base h₀ L m sh sg sd sk so Q E B F X N Tp hk hdp hun XB TB D hret hexc
  k_steps
  refine ⟨?_⟩
  rename Fr _ _ _ _ => F1
  rename News _ _ _ _ => N1
  refine join_at F1 (by walk_at "mine news2") (fun q => sgn T p = q ∧ p ≤ q ∧ q ≤ T.length) ?_ ?_
  · k_steps
    · have hb := pk_in (by with_reducible assumption) (by with_reducible assumption) h0
      exact joined (by k_asm) (by walk_at "mine drop") ⟨_, _, ⟨hb.2, by omega, by omega⟩, rfl, rfl⟩
    · have hb := pk_notin (by with_reducible assumption) (by with_reducible assumption) h0
      exact joined (by k_asm) (by walk_at "mine drop") ⟨_, _, ⟨hb, by omega, by omega⟩, rfl, rfl⟩
  clear F1 N1
  intro q t' h tk ⟨hb, hq0, hq1⟩ F2 N2
  dsimp only
  k_steps
  refine ⟨?_⟩
  rename Fr _ _ _ _ => F1
  rename News _ _ _ _ => N1
  refine join_scan F1 (by walk_at "mine news2") (Str.ofString "many") (fun v e => ∃ n t, v = .int n t ∧ (numE T p = if n = 0 then none else some (expo T e)) ∧ p ≤ e ∧ e ≤ T.length) ?_ ?_
  · k_steps
    · have he := numE_dot hb (by with_reducible assumption) (pk_eq s_dot (by with_reducible assumption) (by with_reducible assumption) (by omega)) (by with_reducible assumption)
      exact joined (by k_asm) (by walk_at "mine drop") ⟨_, _, _, ⟨_, _, rfl, he, by omega, by omega⟩, rfl, rfl⟩
    · have he := numE_nodot hb (by with_reducible assumption) (pk_ne s_dot (by with_reducible assumption) (by with_reducible assumption) (by omega))
      exact joined (by k_asm) (by walk_at "mine drop") ⟨_, _, _, ⟨_, _, rfl, he, by omega, by omega⟩, upd_same rfl, rfl⟩
  clear F1 N1
  intro v e t' h tk ⟨n, tn, hv, hE, he0, he1⟩ F2 N2
  subst hv
  dsimp only
  k_steps
  · have he := hE.trans (if_pos (by with_reducible assumption))
    walk_at "mine leave"
    exact hexc.1 _ _ _ _ _ _ _ _ _ he _ _ _ (by with_reducible assumption) (by walk_at "mine flew") (by with_reducible assumption)
  · have he := hE.trans (if_neg (by with_reducible assumption))
    rw [show expo T _ = _ from by with_reducible assumption] at he
    refine ⟨wpAny_Try_except ?_⟩
    k_steps
    · exact hret _ _ _ _ _ _ _ (fun q hq => (by with_reducible assumption : ∀ q ∈ _, @LT.lt Nat _ q.1 _) q (by revert q; walk_at "mine sub")) he (by omega) (by omega) (by with_reducible assumption) _ _ (by k_asm) (by walk_at "mine drop")
    · refine ⟨?_⟩
      rename Below _ _ _ _ => B9
      intro hdn e9 d9 a9 msg9 tm9 g9 h9 tk9 FG9 Fw9 up9
      refine caughtP (C := 44) (KF := Mine.hd0.heap_1 w.params) (s' := ⟨_, _, _, _, _⟩) keep_XP (fun o ho => ho.1) Fw9 FG9 B9 up9 XB TB (dictsPush (by with_reducible assumption) D) (by k_dflt k_is) (by kts_isx) ?_
      intro h8 g8 oe tk8 T8 F8 hP8 hd8 N8 hne8 K8 X8 TB8 D8
      obtain ⟨oc, odc, odt, osl⟩ := oe
      obtain ⟨hc1, hc2, vs, hvs, hcx⟩ := hP8
      dsimp only at hc1 hc2 hvs
      subst hc1 hc2 hvs
      k_steps
      refine ⟨raise63c rfl ?_⟩
      k_steps
      refine ⟨?_⟩
      intro e2 d2 T2 a1 a2 hn1 hn2 hn3 h10 tk10 F10 N10
      obtain ⟨F11, N11⟩ := news_upd (pre := [(d2, _)]) (f := Obj.mapFields (·.setIfInBounds 2 (.ref e9))) F10 N10 (by intro q hq; rcases List.mem_singleton.mp hq with rfl; exact Nat.ne_of_gt hn3) hn1 rfl rfl
      refine ⟨_, _, _, _, _, rfl, Frag.In.keeps X8 F10.keep, (N10 _ (.tail _ (.head _))).1, rfl, rfl, rfl, (show 2 < 6 from by omega), hn1 _ (.head _), (N10 _ (.tail _ (.tail _ (.head _)))).1, rfl, hcx, ?_⟩
      refine suite_raise (P := XP 63 d2 (.ref e9)) keep_XP K8 rfl F11 (nf0 N11) (List.forall_mem_cons.mpr ⟨Nat.ne_of_gt hn3, hn1⟩) ⟨rfl, rfl, _, rfl, rfl⟩ rfl rfl rfl rfl (fun h11 tk11 H11 => ?_)
      refine leave_held H11 (fun h12 Fw12 up12 => ?_)
      exact hexc.2 _ _ _ _ _ _ _ _ _ _ he (by omega) (by omega) hdn _ _ _ (by with_reducible assumption) (turn_back T8 (Fw12.fewer (by walk_at "mine sub"))) (turn_up T8 up12)

end
section
theorem filt_range (r : Int) : ∀ n : Nat, ((List.range n).filter (fun (i : Nat) => decide ((i : Int) < r))).length = min n r.toNat
  | 0 => by simp
  | n + 1 => by
    rw [List.range_succ, List.filter_append, List.length_append, filt_range r n]
    by_cases h : (n : Int) < r
    · have h2 : n + 1 ≤ r.toNat := by omega
      rw [Nat.min_eq_left (Nat.le_of_succ_le h2), Nat.min_eq_left h2]
      simp [h]
    · have h2 : r.toNat ≤ n := by omega
      rw [Nat.min_eq_right h2, Nat.min_eq_right (Nat.le_succ_of_le h2)]
      simp [h]
theorem all_take (f : Nat → Bool) : ∀ (l : List Nat) (n : Nat), n ≤ l.length → ((l.take n).all f = true ↔ n ≤ (l.takeWhile f).length)
  | [], n, h => by simp at h; simp [h]
  | a :: l, 0, _ => by simp
  | a :: l, n + 1, h => by
    have ih := all_take f l n (by simpa using h)
    rw [List.take_succ_cons, List.all_cons, Bool.and_eq_true, List.takeWhile_cons]
    cases hf : f a
    · simp
    · simp only [true_and, if_true, List.length_cons]
      rw [ih]; omega
theorem filt_zero (f : Nat → Bool) (l : List Nat) : ((List.range l.length).filter (fun j => !f (l.getD j 0))).length = 0 ↔ l.all f = true := by
  rw [List.length_eq_zero_iff, List.filter_eq_nil_iff, List.all_eq_true]
  constructor
  · intro h x hx
    obtain ⟨j, hj, rfl⟩ := List.mem_iff_getElem.mp hx
    have := h j (List.mem_range.mpr hj)
    simpa [List.getD_eq_getElem?_getD, List.getElem?_eq_getElem hj] using this
  · intro h j hj
    have hj' := List.mem_range.mp hj
    have := h l[j] (List.getElem_mem hj')
    simpa [List.getD_eq_getElem?_getD, List.getElem?_eq_getElem hj'] using this
theorem behind_all {S T : Str} {p : Int} {i : Nat} (h0 : 0 ≤ p) (hi : i < ((T.length : Int) - p).toNat) {n : Nat}
    (hn : n = ((List.range (Txt.slice T (some p) (some (p + (i : Int) + 1))).cps.size).filter (fun j => !has S ((Txt.slice T (some p) (some (p + (i : Int) + 1))).cps.getD j 0))).length) :
    decide (n = 0) = decide ((i : Int) < run S T p - p) := by
  have e1 : (p + (i : Int) + 1 - p).toNat = i + 1 := by omega
  rw [slice_gen h0 (by omega) (by omega), e1] at hn
  have e2 : (T.cps.toList.drop p.toNat).length = ((T.length : Int) - p).toNat := by rw [List.length_drop, len_toList]; omega
  have hr : run S T p - p = ((T.cps.toList.drop p.toNat).takeWhile (has S)).length := by unfold run runL; omega
  have key := filt_zero (has S) ((T.cps.toList.drop p.toNat).take (i + 1))
  rw [all_take (has S) _ _ (by omega)] at key
  have e3 : n = 0 ↔ i + 1 ≤ ((T.cps.toList.drop p.toNat).takeWhile (has S)).length := by
    rw [← key, hn]
    simp [Array.getD_eq_getD_getElem?, List.getD_eq_getElem?_getD]
  rw [hr]
  rw [Bool.eq_iff_iff, decide_eq_true_eq, decide_eq_true_eq, e3]
  omega

end
local macro_rules | `(tactic| walk_at "mine enter") => `(tactic| (refine' code_defC ?B ?F ?X₀ ?N ?T ?hA ?hf ?hke ?ho ?hcd ?hroom ?hbind ?hkind ?hnd ?_ ?hco ?hgen ?hk; walk_at "mine e"; (case hkind => exact rfl); (case hnd => decide +kernel); k_whole; intro g' L' h' tk' cells' FG' F' N' Y' B' X' T' l1))
local macro_rules | `(tactic| walk_at "mine cells") => `(tactic| ((try k_lt l1); k_cells Y'; (try simp only [List.cons_append, List.nil_append] at N')))
local macro_rules | `(tactic| k_enter) => `(tactic| (walk_at "mine enter"; walk_at "mine cells"; walk_at "mine t"))

local macro_rules | `(tactic| walk_at "eval ListComp") => `(tactic| walk_at "mine stop")

section
theorem getD_of {y : Str} {j c : Nat} (h : y.cps[j]? = some c) : y.cps.getD j 0 = c := by
  rw [Array.getD_eq_getD_getElem?, h]; rfl
theorem slice_line {T : Str} {p q : Int} (hT : T.length ≤ 1000) (h0 : 0 ≤ p) (h1 : p ≤ q) : (Txt.slice T (some p) (some q)).cps.size ≤ sizeLine := by
  show (Txt.slice T (some p) (some q)).length ≤ sizeLine
  rw [slice_clip h0 (by omega)]
  have := len_slice (T := T) (p := min p T.length) (q := min q T.length) (by omega) (by omega) (by omega)
  rw [PySem.sizeLine_eq]
  omega
open PyProof.Rows.LCg PyProof.Rows.LCt in
theorem C_behind {w : World} {T S : Str} {tT tS tp : Tok} {p : Int} {led : Led} (hT : T.length ≤ 1000) (h0 : 0 ≤ p) (h1 : p ≤ 2000) :
    CtrN w 267 led [.str T tT, .int p tp, .str S tS] 4 (fun k => ∀ t, k (.int (run S T p) t) led) := by
  unfold CtrN
  intro mean mg mb dp un gd cn cs ad ccd cl outer A₀ base h₀ L m sh sg sd sk so Q E B F X N Tp hk hdp hun hret
  k_steps
  refine ⟨?_⟩
  rename Fr _ _ _ _ => F9
  refine LCt.ListComp_T F9 (by with_unfolding_all rfl) (by decide) (by rfl) (by decide) (by rfl) ?_
  k_steps
  rename Fr _ _ _ _ => F9
  rename News _ _ _ _ => N9
  refine LCt.CompSrcT.range rfl F9 N9 (by assumption) (small_one (by omega) (by omega) (by omega) (by omega)) (rangeSize_nat _ _) (by rw [PySem.sizeLine_eq]; omega) ?_
  intro hg
  refine rest_len (fun i => decide ((i : Int) < run S T p - p)) ?_ ?_
  · intro i v I oI C oC D m₂ ys h tk E' hi hv hC hx F2 N2 off ne
    obtain ⟨t9, rfl⟩ := hv
    k_steps
    refine ⟨ListComp_TS F2 (by with_unfolding_all rfl) (by decide) (by rfl) (by decide) (by rfl) ?_⟩
    k_steps
    rename Fr _ _ _ _ => F9
    rename News _ _ _ _ => N9
    refine ⟨_, _, _, rfl, rfl, F9, N9, slice_line hT h0 (by omega), ?_⟩
    rintro s₂ ⟨g, rfl⟩
    refine rest_len (fun j => !has S ((Txt.slice T (some p) (some (p + (i : Int) + 1))).cps.getD j 0)) ?_ ?_
    · intro j v2 I2 oI2 C2 oC2 D2 m2 ys2 h2 tk2 E2 hj hv2 hC2 hx2 F3 N3 off3 ne3
      obtain ⟨c, u, hc, rfl⟩ := hv2
      k_steps
      refine ⟨by rw [getD_of hc], ?_⟩
      split
      · k_steps
        exact CompEnd.intro (by k_asm) (by k_asm) _ (by walk_at "mine sub") off3 trivial rfl
      · exact CompEnd.intro (by k_asm) (by k_asm) _ (by walk_at "mine sub") off3 trivial rfl
    · intro ys2 hys2
      intro D3 h3 tk3 F4 N4 off4
      cases ys2 with
      | nil =>
        k_steps
        rename News _ _ _ _ => N5
        refine PySem.SeqAt.eq_listAt (e := fun _ => true) (News.isList N5 (by k_mem)) (News.isList N5 (by k_mem)) rfl (by ktr_units) (fun j h1 => absurd h1 (by simp)) ?_
        k_steps
        refine ⟨?_, ?_⟩
        · rw [← behind_all h0 hi hys2]; rfl
        · k_steps
          exact CompEnd.intro (by k_asm) (by k_asm) _ (by walk_at "mine sub") off trivial rfl
      | cons y1 yr =>
        k_steps
        rename News _ _ _ _ => N5
        refine PySem.SeqAt.eq_list_lengthsAt (News.isList N5 (by k_mem)) (News.isList N5 (by k_mem)) (by simp) (by ktr_units) ?_
        k_steps
        refine ⟨?_, ?_⟩
        · rw [← behind_all h0 hi hys2]; rfl
        · rw [if_neg Bool.false_ne_true]
          exact CompEnd.intro (by k_asm) (by k_asm) _ (by walk_at "mine sub") off trivial rfl
  · intro ys hys
    intro D h tk F4 N4 off4
    have hl9 : ys.toArray.size = ys.length := List.size_toArray
    rw [filt_range] at hys
    have h5 : ys.length ≤ T.length := by
      rw [hys]
      exact Nat.le_trans (Nat.min_le_left _ _) (by omega)
    have hr9 : p + (ys.length : Int) = run S T p := by
      rw [hys]
      have h2 := @run_ge S T p
      by_cases h3 : p < T.length
      · have h4 := @run_le S T p h0 (by omega)
        rw [Nat.min_eq_right (Int.toNat_le_toNat (by omega)), Int.toNat_of_nonneg (by omega)]
        omega
      · have h4 := @run_end S T p h3
        rw [h4, Int.sub_self, Int.toNat_zero, Nat.min_zero]
        exact Int.add_zero p
    clear hys
    have hfit9 : (ys.toArray.size : Int) < 2 ^ 63 := by rw [hl9]; omega
    have hl8 : h.IsList D ys.toArray := News.isList N4 (List.Mem.head _)
    k_steps
    rw [hr9]
    exact hret _ _ _ (by k_asm) (by walk_at "mine drop")

end
section
theorem C_behind' {w : World} {T S : Str} {tT tS tp : Tok} {p : Int} {led : Led} (hT : T.length ≤ 1000) (h0 : 0 ≤ p) (h1 : p ≤ 2000) :
    CtrN w 267 led [.str T tT, .int p tp, .str S tS] 4 (fun k => ∀ t q, run S T p = q → p ≤ q → (p ≤ T.length → q ≤ T.length) → (¬ p < T.length → q = p) → k (.int q t) led) := by
  unfold CtrN
  intro mean mg mb dp un gd cn cs ad ccd cl outer A₀ base h₀ L m sh sg sd sk so Q E B F X N Tp hk hdp hun hret
  refine (C_behind hT h0 h1) mean mg mb dp un gd cn cs ad ccd cl outer A₀ base h₀ L m sh sg sd sk so Q E B F X N Tp hk hdp hun (fun t => ?_)
  exact hret t _ rfl run_ge (fun h => run_le h0 h) (fun h => run_end h)
theorem sgn_at {T : Str} {p : Int} (h0 : 0 ≤ p) : (p + if ([Str.ofString "+", Str.ofString "-"].any fun x => x == Txt.slice T (some p) (some (p + 1))) = true then 1 else 0) = sgn T p := by
  split
  · exact (pk_in (by assumption) rfl h0).2.symm
  · rename_i h
    rw [Bool.not_eq_true] at h
    rw [pk_notin h rfl h0, Int.add_zero]
theorem sgn_at1 {T : Str} {p : Int} (h0 : 0 ≤ p) : (p + 1 + if ([Str.ofString "+", Str.ofString "-"].any fun x => x == Txt.slice T (some (p + 1)) (some (p + 2))) = true then 1 else 0) = sgn T (p + 1) := by
  rw [← sgn_at (by omega), show p + 1 + 1 = p + 2 by omega]
theorem sgn_two (T : Str) (p : Int) : sgn T p = p ∨ (sgn T p = p + 1 ∧ p < T.length) := by
  unfold sgn
  split
  · exact Or.inr ⟨rfl, (by assumption : _ ∧ _).1⟩
  · exact Or.inl rfl
theorem expo_two (T : Str) {p : Int} (h0 : 0 ≤ p) (h1 : p ≤ T.length) : p ≤ expo T p ∧ expo T p ≤ T.length := by
  unfold expo
  split
  · have h2 := sgn_two T (p + 1)
    have h3 := (by assumption : _ ∧ _).1
    have h4 := @run_le DG T (sgn T (p + 1)) (by omega) (by omega)
    split <;> omega
  · omega

end
local macro_rules | `(tactic| walk_at "call ref") => `(tactic| (apply useN (C_behind' ..); walk_at "mine go"))

section
theorem C_lblank {w : World} {T : Str} {tT tp : Tok} {p : Int} {led : Led} (hT : T.length ≤ 1000) (h0 : 0 ≤ p) (h1 : p ≤ 2000) :
    CtrN w 274 led [.str T tT, .int p tp] 6 (fun k => ∀ t q, run BL T p = q → p ≤ q → (p ≤ T.length → q ≤ T.length) → (¬ p < T.length → q = p) → k (.int q t) led) := by
  unfold CtrN
  intro mean mg mb dp un gd cn cs ad ccd cl outer A₀ base h₀ L m sh sg sd sk so Q E B F X N Tp hk hdp hun hret
  k_steps
  exact hret _ _ (by assumption) (by assumption) (by assumption) (by assumption) _ _ (by k_asm) (by walk_at "mine drop")
theorem C_lexpo {w : World} {T : Str} {tT tp : Tok} {p : Int} {led : Led} (hT : T.length ≤ 1000) (h0 : 0 ≤ p) (h1 : p ≤ T.length) :
    CtrN w 281 led [.str T tT, .int p tp] 6 (fun k => ∀ t q, expo T p = q → p ≤ q → q ≤ T.length → k (.int q t) led) := by
  unfold CtrN
  intro mean mg mb dp un gd cn cs ad ccd cl outer A₀ base h₀ L m sh sg sd sk so Q E B F X N Tp hk hdp hun hret
  have h8 := expo_two T h0 h1
  k_steps
  · rename run _ T _ = _ => hq
    rename (_ + 1 + ite _ _ _ < _) => hlt
    rw [sgn_at1 h0] at hq hlt
    have h9 := (expo_is (by assumption) (by assumption) (by assumption) rfl hq).trans (if_pos hlt)
    exact hret _ _ h9 (by omega) (by omega) _ _ (by k_asm) (by walk_at "mine drop")
  · rename run _ T _ = _ => hq
    rename (¬ _ + 1 + ite _ _ _ < _) => hlt
    rw [sgn_at1 h0] at hq hlt
    have h9 := (expo_is (by assumption) (by assumption) (by assumption) rfl hq).trans (if_neg hlt)
    exact hret _ _ h9 (by omega) (by omega) _ _ (by k_asm) (by walk_at "mine drop")
  · exact hret _ _ (expo_no (by assumption) (by assumption)) (by omega) (by omega) _ _ (by k_asm) (by walk_at "mine drop")
  · exact hret _ _ (expo_end (by assumption)) (by omega) (by omega) _ _ (by k_asm) (by walk_at "mine drop")

end
local macro_rules | `(tactic| walk_at "call ref") => `(tactic| (apply useN (C_lblank ..); walk_at "mine go"))
local macro_rules | `(tactic| walk_at "call ref") => `(tactic| (apply useN (C_lexpo ..); walk_at "mine go"))

section
def Jlow (u : Str → Option Value) (led : Led) (a b : Int) (n : Nat) (m₁ : Str → Option Value) (nx : Led) : Prop :=
  (∀ q ∈ led, q ∈ nx) ∧ ∃ (x y : Int) (tx ty : Tok), m₁ = (fun z => if z = Str.ofString "one" then some (.int x tx) else if z = Str.ofString "other" then some (.int y ty) else u z) ∧ 0 ≤ x ∧ 0 ≤ y ∧ Int.gcd x y = Int.gcd a b ∧ n = y.toNat
theorem fr_dup {h₀ h : Heap} {L : Addr} {a b : Str} {va vb va' vb' : Option Value} {u : Str → Option Value} (F : Fr h₀ L h (fun z => if z = a then va else if z = b then vb else if z = a then va' else if z = b then vb' else u z)) : Fr h₀ L h (fun z => if z = a then va else if z = b then vb else u z) := by
  have e : (fun z => if z = a then va else if z = b then vb else if z = a then va' else if z = b then vb' else u z) = (fun z => if z = a then va else if z = b then vb else u z) := by
    funext z
    by_cases h1 : z = a
    · simp only [if_pos h1]
    · by_cases h2 : z = b
      · simp only [if_pos h2, if_neg h1]
      · simp only [if_neg h2, if_neg h1]
  rw [e] at F
  exact F
theorem C_llow {w : World} {a b : Int} {ta tb : Tok} {led : Led} (hb : 0 < b) (hB : b.natAbs.log2 < 9000) :
    CtrN w 288 led [.int a ta, .int b tb] 4 (fun k => ∀ z t1 t2 g, ((Int.gcd a b : Nat) : Int) = g → 0 < g → (∀ q ∈ led, @LT.lt Nat _ q.1 z) → k (.ref z) ((z, { cls := .type "tuple", data := .seq #[.int (Int.fdiv a g) t1, .int (Int.fdiv b g) t2] }) :: led)) := by
  unfold CtrN
  intro mean mg mb dp un gd cn cs ad ccd cl outer A₀ base h₀ L m sh sg sd sk so Q E B F X N Tp hk hdp hun hret
  k_steps
  refine ⟨?_⟩
  rename Fr _ _ _ _ => F1
  rename News _ _ _ _ => N1
  refine while_mine (Jlow _ led a b) F1 N1 ⟨by walk_at "mine sub", _, _, _, _, rfl, by split <;> omega, Int.le_of_lt hb, gcd_abs a b, rfl⟩ ?_ ?_
  rotate_left
  · first | passes_own | with_unfolding_all passes_own
  rintro n m₁ nx h₁ tk₁ F2 N2 ⟨hsub, x, y, tx, ty, rfl, hx, hy, hg, rfl⟩
  clear F1 N1
  (try dsimp only at F2)
  have hlog : y = 0 → x.natAbs.log2 < 9000 := by
    intro hy0
    subst hy0
    have hx' : x = Int.gcd a b := by rw [← hg, Int.gcd_zero_right]; omega
    rw [hx']
    exact log2_gcd hb hB
  have hpos : y = 0 → x = Int.gcd a b ∧ 0 < x := by
    intro hy0
    subst hy0
    have hx' : x = Int.gcd a b := by rw [← hg, Int.gcd_zero_right]; omega
    have hp := Int.gcd_pos_of_ne_zero_right a (show b ≠ 0 by omega)
    omega
  k_steps
  · have h1 := Int.fmod_nonneg hx (show 0 ≤ y by omega)
    have h2 := Int.fmod_lt_of_pos x (show 0 < y by omega)
    rename Fr _ _ _ _ => F9
    exact wend (fr_dup F9) (by k_asm) ⟨fun q hq => by first | exact hsub q hq | exact List.Mem.tail _ (hsub q hq), y, Int.fmod x y, _, _, rfl, by omega, h1, (gcd_step hx (by omega)).trans hg, rfl⟩ (by omega)
  · have hy0 : y = 0 := by omega
    have h1 := hlog hy0
    have h2 := (hpos hy0).2
    have h3 := (hpos hy0).1
    clear hlog hpos
    k_steps
    rename (∀ p ∈ nx, p.1 < _) => l9
    exact hret _ _ _ _ h3.symm h2 (fun q hq => l9 q (hsub q hq)) _ _ (by k_asm) (cb_drop (by k_asm) (List.forall_mem_cons.mpr ⟨List.Mem.head _, fun q hq => List.Mem.tail _ (hsub q hq)⟩))

end
section
theorem tn_sub {x i : Int} (h0 : 0 ≤ i) (h1 : i ≤ x) : x.toNat - i.toNat = (x - i).toNat := by
  obtain ⟨a, rfl⟩ := Int.eq_ofNat_of_zero_le h0
  obtain ⟨b, rfl⟩ := Int.eq_ofNat_of_zero_le (Int.le_trans h0 h1)
  rw [← Int.ofNat_sub (Int.ofNat_le.mp h1)]
  rfl
theorem tn_add {p i : Int} (h0 : 0 ≤ p) (h1 : 0 ≤ i) : p.toNat + i.toNat = (p + i).toNat := (Int.toNat_add h0 h1).symm
theorem toNat_len {n : Nat} {p : Int} (h0 : 0 ≤ p) : n - p.toNat = ((n : Int) - p).toNat := by
  obtain ⟨a, rfl⟩ := Int.eq_ofNat_of_zero_le h0
  rw [Int.toNat_sub, Int.toNat_natCast]
theorem valL_digits : ∀ (l : List Nat) (n : Nat), (∀ c ∈ l, 48 ≤ c ∧ c ≤ 57) → valL l (n : Int) = ((l.foldl (fun acc c => acc * 10 + (c - 48)) n : Nat) : Int)
  | [], n, _ => rfl
  | c :: r, n, h => by
    have h1 := h c List.mem_cons_self
    have ih := valL_digits r (n * 10 + (c - 48)) (fun x hx => h x (List.mem_cons_of_mem _ hx))
    rw [List.foldl_cons, ← ih]
    show valL r ((n : Int) * 10 + ((c : Int) - 48)) = _
    congr 1
    omega
theorem text_val {D : Str} (h : figs D) (hne : D.length ≠ 0) (hl : D.length ≤ 4300) : PySem.intText? D = some (val D) := by
  rw [PySem.intText_digits h (fun e => hne (by rw [← len_toList, e]; rfl)) hl]
  exact congrArg some (valL_digits D.cps.toList 0 h).symm
/-- the signs from p up to q -/
def sl (T : Str) (p q : Int) : List Nat := (T.cps.toList.drop p.toNat).take (q - p).toNat
theorem slice_sl {T : Str} {p q : Int} (h0 : 0 ≤ p) (h1 : p ≤ q) (h2 : q ≤ T.length) : (Txt.slice T (some p) (some q)).cps.toList = sl T p q := by
  rw [slice_gen h0 h1 h2]; rfl
theorem str_ext {A B : Str} (h : A.cps.toList = B.cps.toList) : A = B := by
  cases A; cases B
  exact congrArg Str.mk (Array.toList_inj.mp h)
theorem sl_cons {T : Str} {p q : Int} (h0 : 0 ≤ p) (h1 : p < q) (h2 : q ≤ T.length) : sl T p q = cd T p :: sl T (p + 1) q := by
  obtain ⟨c, hc, hd⟩ := code_at h0 (show p < T.length by omega)
  unfold sl
  rw [hd, show (q - p).toNat = (q - (p + 1)).toNat + 1 by omega, List.take_succ_cons]
  unfold cd
  rw [hc]
theorem slice_rev {T : Str} {p : Int} (h0 : 0 ≤ p) : Txt.slice T (some (p + 1)) (some p) = Str.ofString "" := by
  rw [s_nil]
  have e : Txt.slice T (some (p + 1)) (some p) = PySem.StrLaws.sliceText T (some (p + 1)) (some p) := rfl
  have e2 : Builtin.Str.strSliceIndices (some (p + 1)) (some p) 1 T.length = [] := by
    unfold Builtin.Str.strSliceIndices PySem.sliceRange
    have a1 : ¬ p < 0 := by omega
    have a2 : ¬ p + 1 < 0 := by omega
    have a3 : ¬ max 0 (min (p + 1) (T.length : Int)) < max 0 (min p (T.length : Int)) := by omega
    simp [a1, a2]
    omega
  rw [e, PySem.StrLaws.sliceText, e2]
  split
  · rename_i h
    have h3 : 0 = T.length := by simpa using h
    exact str_ext (by rw [List.eq_nil_of_length_eq_zero ((len_toList T).trans h3.symm)])
  · rfl
theorem drop_takeWhile (p : Nat → Bool) : ∀ l : List Nat, l.drop (l.takeWhile p).length = l.dropWhile p
  | [] => rfl
  | a :: r => by
    rw [List.takeWhile_cons, List.dropWhile_cons]
    cases p a with
    | true => simp [drop_takeWhile p r]
    | false => rfl
theorem lstrip_list (x y : Str) : (Txt.lstripChars x y).cps.toList = x.cps.toList.dropWhile (has y) := by
  have e : (fun c => y.cps.contains c) = has y := by
    funext c
    unfold has
    rw [Bool.eq_iff_iff, decide_eq_true_eq, Array.contains_iff_mem]
    simp
  rw [← drop_takeWhile]
  unfold Txt.lstripChars Txt.stripBy
  rw [show y.cps.contains = has y from e]
  split
  · rename_i h
    unfold PySem.stripSame PySem.stripLo at h
    rw [if_pos rfl, Bool.and_eq_true, beq_iff_eq] at h
    rw [h.1, List.drop_zero]
  · unfold PySem.stripped PySem.stripLo PySem.stripHi
    rw [if_pos rfl, if_neg Bool.false_ne_true, PySem.StrLaws.strSub_toList]
    exact List.take_of_length_le (by rw [List.length_drop, len_toList]; exact Nat.le_refl _)
/-- the figures of a power that stands from p up to q -/
def powS (T : Str) (p q : Int) : Str := Txt.lstripChars (Txt.slice T (some (p + 1)) (some q)) sPM
theorem pow_none {T : Str} {p : Int} (h0 : 0 ≤ p) : powS T p p = Str.ofString "" := by
  refine str_ext ?_
  unfold powS
  rw [lstrip_list, slice_rev h0, s_nil]
  rfl
theorem run_first {S T : Str} {p q : Int} (h0 : 0 ≤ p) (h : run S T p = q) (hl : p < q) : p < T.length ∧ has S (cd T p) = true := by
  by_cases h1 : p < T.length
  · refine ⟨h1, ?_⟩
    cases e : has S (cd T p) with
    | true => rfl
    | false =>
      have := run_stop' h0 h1 e
      omega
  · have := run_end (S := S) h1
    omega
theorem expo_more {T : Str} {p q : Int} (h0 : 0 ≤ p) (h : expo T p = q) (hne : q ≠ p) : p < T.length ∧ (cd T p = 101 ∨ cd T p = 69) ∧ ∃ b, sgn T (p + 1) = b ∧ run DG T b = q ∧ b < q ∧ p < b ∧ q ≤ T.length := by
  unfold expo at h
  split at h
  · rename_i h1
    split at h
    · have h3 := sgn_two T (p + 1)
      refine ⟨h1.1, h1.2, _, rfl, h, by omega, by omega, ?_⟩
      rw [← h]
      exact run_le (by omega) (by omega)
    · exact absurd h.symm hne
  · exact absurd h.symm hne
theorem fig_not {c : Nat} (h : has DG c = true) : has sPM c = false := by
  have := has_dg h
  rw [pm_has]
  exact decide_eq_false (by omega)
theorem sgn_yes' {T : Str} {p : Int} (h : sgn T p = p + 1) : p < T.length ∧ (cd T p = 43 ∨ cd T p = 45) := by
  unfold sgn at h
  split at h
  · assumption
  · omega
theorem sgn_no' {T : Str} {p : Int} (hl : p < T.length) (h : sgn T p = p) : ¬ (cd T p = 43 ∨ cd T p = 45) := by
  unfold sgn at h
  split at h
  · omega
  · rename_i h1
    exact fun x => h1 ⟨hl, x⟩
theorem drop_figs {T : Str} {b q : Int} (h0 : 0 ≤ b) (hb : run DG T b = q) (hl : b < q) (hq : q ≤ T.length) : (sl T b q).dropWhile (has sPM) = sl T b q := by
  rw [sl_cons h0 hl hq, List.dropWhile_cons, fig_not (run_first h0 hb hl).2]
  rfl
theorem pow_some {T : Str} {p q b : Int} (h0 : 0 ≤ p) (hb : sgn T (p + 1) = b) (hq : run DG T b = q) (hl : b < q) (hle : q ≤ T.length) (hp : p < T.length) : powS T p q = Txt.slice T (some b) (some q) := by
  refine str_ext ?_
  have h3 := sgn_two T (p + 1)
  unfold powS
  rw [lstrip_list, slice_sl (by omega) (by omega) hle, slice_sl (by omega) (by omega) hle]
  rcases h3 with h3 | h3
  · rw [h3] at hb
    subst hb
    exact drop_figs (by omega) hq hl hle
  · rw [h3.1] at hb
    subst hb
    rw [sl_cons (by omega) (by omega) hle, List.dropWhile_cons, pm_has, decide_eq_true (sgn_yes' h3.1).2]
    exact drop_figs (by omega) hq hl hle
theorem minus_figs {T : Str} {b q : Int} (h0 : 0 ≤ b) (hb : run DG T b = q) (hl : b ≤ q) (hq : q ≤ T.length) : 45 ∉ sl T b q := by
  intro h
  have := figs_run h0 (by omega) hb
  unfold figs at this
  rw [slice_sl h0 hl hq] at this
  have := this 45 h
  omega
theorem minus_in {T : Str} {p q b : Int} (h0 : 0 ≤ p) (hc : cd T p = 101 ∨ cd T p = 69) (hb : sgn T (p + 1) = b) (hq : run DG T b = q) (hl : b < q) (hle : q ≤ T.length) (hp : p < T.length) : has (Txt.slice T (some p) (some q)) 45 = neg T (p + 1) := by
  have h3 := sgn_two T (p + 1)
  have h4 := minus_figs (by omega) hq (by omega) hle
  unfold has neg
  rw [slice_sl (by omega) (by omega) hle, sl_cons (by omega) (by omega) hle]
  rw [Bool.eq_iff_iff, decide_eq_true_eq, decide_eq_true_eq, List.mem_cons]
  rcases h3 with h3 | h3
  · rw [h3] at hb
    subst hb
    have h5 := sgn_no' (by omega) h3
    constructor
    · rintro (h | h)
      · omega
      · exact absurd h h4
    · rintro ⟨_, h⟩
      exact absurd (Or.inr h) h5
  · rw [h3.1] at hb
    subst hb
    rw [sl_cons (by omega) (by omega) hle, List.mem_cons]
    constructor
    · rintro (h | h | h)
      · omega
      · exact ⟨by omega, h.symm⟩
      · exact absurd h h4
    · rintro ⟨_, h⟩
      exact Or.inr (Or.inl h.symm)
theorem minus_none {T : Str} {p : Int} (h0 : 0 ≤ p) (h1 : p ≤ T.length) : has (Txt.slice T (some p) (some p)) 45 = false := by
  unfold has
  rw [slice_sl h0 (by omega) h1]
  unfold sl
  rw [show (p - p).toNat = 0 by omega, List.take_zero]
  rfl
theorem take_takeWhile (f : Nat → Bool) : ∀ (l : List Nat) (n : Nat), ((l.take n).takeWhile f).length = min n (l.takeWhile f).length
  | [], n => by simp
  | a :: r, 0 => by simp
  | a :: r, n + 1 => by
    rw [List.take_succ_cons, List.takeWhile_cons, List.takeWhile_cons]
    cases f a with
    | true => simp [take_takeWhile f r n]
    | false => simp
section
variable {T : Str} {p e : Int} (h0 : 0 ≤ p) (h1 : p ≤ e) (h2 : e ≤ T.length)
include h0 h1 h2
theorem cut_list : (Txt.slice T (some p) (some e)).cps.toList = (T.cps.toList.drop p.toNat).take (e - p).toNat := slice_sl h0 h1 h2
theorem cut_len : ((Txt.slice T (some p) (some e)).length : Int) = e - p := len_slice h0 h1 h2
theorem cut_drop {i : Int} (hi : 0 ≤ i) (hie : i ≤ e - p) : (Txt.slice T (some p) (some e)).cps.toList.drop i.toNat = (T.cps.toList.drop (p + i).toNat).take (e - (p + i)).toNat := by
  rw [cut_list h0 h1 h2, List.drop_take, List.drop_drop, tn_sub hi hie, tn_add h0 hi, show e - p - i = e - (p + i) by omega]
theorem cut_cd {i : Int} (hi : 0 ≤ i) (hie : i < e - p) : cd (Txt.slice T (some p) (some e)) i = cd T (p + i) := by
  have hl := cut_len h0 h1 h2
  obtain ⟨c, hc, hd⟩ := code_at hi (show i < (Txt.slice T (some p) (some e)).length by omega)
  obtain ⟨c', hc', hd'⟩ := code_at (T := T) (show 0 ≤ p + i by omega) (by omega)
  have hs : (e - (p + i)).toNat = (e - (p + i + 1)).toNat + 1 := by
    rw [show e - (p + i) = (e - (p + i + 1)) + 1 by omega, Int.toNat_add (by omega) (by decide)]
    rfl
  rw [cut_drop h0 h1 h2 hi (by omega), hd', hs, List.take_succ_cons] at hd
  injection hd with hd
  unfold cd
  rw [hc, hc', hd]
theorem cut_slice {i j : Int} (hi : 0 ≤ i) (hij : i ≤ j) (hje : j ≤ e - p) : Txt.slice (Txt.slice T (some p) (some e)) (some i) (some j) = Txt.slice T (some (p + i)) (some (p + j)) := by
  have hl := cut_len h0 h1 h2
  refine str_ext ?_
  rw [slice_sl hi hij (by omega), slice_sl (by omega) (by omega) (by omega)]
  unfold sl
  rw [cut_drop h0 h1 h2 hi (by omega), List.take_take, Nat.min_eq_left (Int.toNat_le_toNat (by omega)), show p + j - (p + i) = j - i by omega]
theorem cut_run {S : Str} {i q : Int} (hi : 0 ≤ i) (hie : i ≤ e - p) (hq : run S T (p + i) = q) (hqe : q ≤ e) : run S (Txt.slice T (some p) (some e)) i = q - p := by
  unfold run runL at hq ⊢
  rw [cut_drop h0 h1 h2 hi hie, take_takeWhile]
  omega
theorem cut_sgn {i q : Int} (hi : 0 ≤ i) (hie : i ≤ e - p) (hq : sgn T (p + i) = q) (hqe : q ≤ e) : sgn (Txt.slice T (some p) (some e)) i = q - p := by
  have hl := cut_len h0 h1 h2
  have h3 := sgn_two T (p + i)
  rcases h3 with h3 | h3
  · unfold sgn
    rw [if_neg]
    · omega
    · rintro ⟨h4, h5⟩
      rw [cut_cd h0 h1 h2 hi (by omega)] at h5
      exact sgn_no' (by omega) h3 h5
  · unfold sgn
    rw [if_pos]
    · omega
    · refine ⟨by omega, ?_⟩
      rw [cut_cd h0 h1 h2 hi (by omega)]
      exact (sgn_yes' h3.1).2
theorem cut_neg {i : Int} (hi : 0 ≤ i) (hie : i < e - p) : neg (Txt.slice T (some p) (some e)) i = neg T (p + i) := by
  have hl := cut_len h0 h1 h2
  unfold neg
  rw [cut_cd h0 h1 h2 hi hie, Bool.eq_iff_iff, decide_eq_true_eq, decide_eq_true_eq]
  exact ⟨fun h => ⟨by omega, h.2⟩, fun h => ⟨by omega, h.2⟩⟩
theorem cut_isone {S : Str} {i : Int} (hi : 0 ≤ i) : isone S (Txt.slice T (some p) (some e)) i = (decide (p + i < e) && isone S T (p + i)) := by
  have hl := cut_len h0 h1 h2
  unfold isone
  by_cases h : i < e - p
  · rw [cut_cd h0 h1 h2 hi h, decide_eq_true (show i < ((Txt.slice T (some p) (some e)).length : Int) by omega), decide_eq_true (show p + i < e by omega), decide_eq_true (show p + i < (T.length : Int) by omega)]
    rfl
  · rw [decide_eq_false (show ¬ i < ((Txt.slice T (some p) (some e)).length : Int) by omega), decide_eq_false (show ¬ p + i < e by omega)]
    rfl
end

end
section
/-- the parts of a number that begins at p: behind its sign, behind its figures, behind the part after a point, and both rows of figures -/
structure Parts (T : Str) (p b d1 d2 : Int) (W P : Str) : Prop where
  sg : sgn T p = b
  fg : run DG T b = d1
  ws : Txt.slice T (some b) (some d1) = W
  dt : dotEnd T d1 = (d2, P)
theorem parts_dot {T W P : Str} {p b d1 d2 : Int} (h0 : 0 ≤ d1) (hb : sgn T p = b) (h1 : run DG T b = d1) (hW : Txt.slice T (some b) (some d1) = W) (hd : (Txt.slice T (some d1) (some (d1 + 1)) == Str.ofString ".") = true) (h2 : run DG T (d1 + 1) = d2) (hP : Txt.slice T (some (d1 + 1)) (some d2) = P) : Parts T p b d1 d2 W P := by
  obtain ⟨h3, h4⟩ := pk_eq s_dot hd rfl h0
  refine ⟨hb, h1, hW, ?_⟩
  unfold dotEnd isone
  rw [h4, decide_eq_true h3, h2, hP]
  exact if_pos (by decide +kernel)
theorem has_dot {c : Nat} : has (Str.ofString ".") c = decide (c = 46) := by
  unfold has
  rw [s_dot]
  simp
theorem parts_nodot {T W : Str} {p b d1 : Int} (h0 : 0 ≤ d1) (hb : sgn T p = b) (h1 : run DG T b = d1) (hW : Txt.slice T (some b) (some d1) = W) (hd : (Txt.slice T (some d1) (some (d1 + 1)) == Str.ofString ".") = false) : Parts T p b d1 d1 W (Str.ofString "") := by
  have h3 := pk_ne s_dot hd rfl h0
  refine ⟨hb, h1, hW, ?_⟩
  unfold dotEnd isone
  rw [if_neg]
  rw [Bool.and_eq_true, has_dot, decide_eq_true_eq, decide_eq_true_eq]
  exact h3
theorem bk (p b : Int) : p + (b - p) = b := by omega
theorem bk1 (p b : Int) : p + (b - p + 1) = b + 1 := by omega
section
variable {T W P : Str} {p b d1 d2 : Int} (H : Parts T p b d1 d2 W P) (h0 : 0 ≤ p) (h1 : p ≤ T.length)
include H h0 h1
theorem Parts.le : p ≤ b ∧ b ≤ d1 ∧ d1 ≤ d2 ∧ d2 ≤ T.length := by
  have h3 := sgn_two T p
  have h4 := H.sg
  have h5 := H.fg
  have h6 := @run_ge DG T b
  have h7 := @run_le DG T b (by omega) (by omega)
  have h8 := H.dt
  unfold dotEnd at h8
  split at h8
  · rename_i hi
    unfold isone at hi
    rw [Bool.and_eq_true, decide_eq_true_eq] at hi
    injection h8 with h8 h9
    have h10 := @run_ge DG T (d1 + 1)
    have h11 := @run_le DG T (d1 + 1) (by omega) (by omega)
    omega
  · injection h8 with h8 h9
    omega
theorem Parts.count : numE T p = if (W ++ P).length = 0 then none else some (expo T d2) := by
  obtain ⟨h3, h4, h5, h6⟩ := H.le h0 h1
  have h8 := H.dt
  have hW : (W.length : Int) = d1 - b := by rw [← H.ws]; exact len_slice (by omega) h4 (by omega)
  unfold dotEnd isone at h8
  split at h8
  · rename_i hi
    rw [Bool.and_eq_true, decide_eq_true_eq, has_dot, decide_eq_true_eq] at hi
    injection h8 with h8 h9
    have hP : (P.length : Int) = d2 - (d1 + 1) := by rw [← h9, h8]; exact len_slice (by omega) (by have := @run_ge DG T (d1 + 1); omega) (by omega)
    rw [numE_dot H.sg H.fg hi h8, len_append]
    by_cases hz : W.length + P.length = 0
    · rw [if_pos hz, if_pos (by omega)]
    · rw [if_neg hz, if_neg (by omega)]
  · rename_i hi
    rw [Bool.and_eq_true, decide_eq_true_eq, has_dot, decide_eq_true_eq] at hi
    injection h8 with h8 h9
    subst h8
    have hP : P.length = 0 := by rw [← h9]; rfl
    rw [numE_nodot H.sg H.fg hi, len_append]
    by_cases hz : W.length + P.length = 0
    · rw [if_pos hz, if_pos (by omega)]
    · rw [if_neg hz, if_neg (by omega)]
theorem Parts.dec {e : Int} (he : expo T d2 = e) (hne : (W ++ P).length ≠ 0) : dec (Txt.slice T (some p) (some e)) =
    if (powS T d2 e).length ≤ 9 ∧ val (powS T d2 e) ≤ 300 then some (ratio (if neg T p = true then - val (W ++ P) else val (W ++ P)) ((if has (Txt.slice T (some d2) (some e)) 45 = true then - val (powS T d2 e) else val (powS T d2 e)) - P.length)) else none := by
  obtain ⟨h3, h4, h5, h6⟩ := H.le h0 h1
  obtain ⟨h7, h8⟩ := expo_two T (show 0 ≤ d2 by omega) h6
  rw [he] at h7 h8
  have hl := cut_len h0 (show p ≤ e by omega) h8
  have hpe : p < e := by
    rcases Int.lt_or_le p e with h | h
    · exact h
    · exfalso
      have hW : (W.length : Int) = d1 - b := by rw [← H.ws]; exact len_slice (by omega) h4 (by omega)
      have h9 := H.dt
      unfold dotEnd at h9
      split at h9
      · injection h9 with h9 h10
        have := @run_ge DG T (d1 + 1)
        omega
      · injection h9 with h9 h10
        have hP : P.length = 0 := by rw [← h10]; rfl
        rw [len_append] at hne
        omega
  have i1 : p ≤ e := Int.le_of_lt hpe
  have m2 : p ≤ d1 := Int.le_trans h3 h4
  have m3 : p ≤ d2 := Int.le_trans m2 h5
  have m4 : d2 ≤ e := by omega
  have m5 : d1 ≤ e := Int.le_trans h5 m4
  have m6 : b ≤ e := Int.le_trans h4 m5
  have m7 : 0 ≤ d2 := Int.le_trans h0 m3
  have m8 : 0 ≤ e := Int.le_trans h0 i1
  have m9 : 0 ≤ b := Int.le_trans h0 h3
  have n1 : 0 ≤ d1 := Int.le_trans h0 m2
  have n2 : d1 ≤ T.length := Int.le_trans h5 h6
  have n3 : 0 ≤ d1 - p + 1 := by omega
  have n4 : 0 ≤ d2 - p + 1 := by omega
  have c1 : sgn (Txt.slice T (some p) (some e)) 0 = b - p := cut_sgn h0 (by first | assumption | exact Int.sub_nonneg_of_le (by assumption) | exact Int.sub_le_sub_right (by assumption) _ | exact bk _ _ | exact bk1 _ _ | exact Int.le_refl _ | omega) h8 (by first | assumption | exact Int.sub_nonneg_of_le (by assumption) | exact Int.sub_le_sub_right (by assumption) _ | exact bk _ _ | exact bk1 _ _ | exact Int.le_refl _ | omega) (by first | assumption | exact Int.sub_nonneg_of_le (by assumption) | exact Int.sub_le_sub_right (by assumption) _ | exact bk _ _ | exact bk1 _ _ | exact Int.le_refl _ | omega) (by rw [Int.add_zero]; exact H.sg) (by first | assumption | exact Int.sub_nonneg_of_le (by assumption) | exact Int.sub_le_sub_right (by assumption) _ | exact bk _ _ | exact bk1 _ _ | exact Int.le_refl _ | omega)
  have c2 : run DG (Txt.slice T (some p) (some e)) (b - p) = d1 - p := cut_run h0 (by first | assumption | exact Int.sub_nonneg_of_le (by assumption) | exact Int.sub_le_sub_right (by assumption) _ | exact bk _ _ | exact bk1 _ _ | exact Int.le_refl _ | omega) h8 (by first | assumption | exact Int.sub_nonneg_of_le (by assumption) | exact Int.sub_le_sub_right (by assumption) _ | exact bk _ _ | exact bk1 _ _ | exact Int.le_refl _ | omega) (by first | assumption | exact Int.sub_nonneg_of_le (by assumption) | exact Int.sub_le_sub_right (by assumption) _ | exact bk _ _ | exact bk1 _ _ | exact Int.le_refl _ | omega) (by rw [show p + (b - p) = b by first | assumption | exact Int.sub_nonneg_of_le (by assumption) | exact Int.sub_le_sub_right (by assumption) _ | exact bk _ _ | exact bk1 _ _ | exact Int.le_refl _ | omega]; exact H.fg) (by first | assumption | exact Int.sub_nonneg_of_le (by assumption) | exact Int.sub_le_sub_right (by assumption) _ | exact bk _ _ | exact bk1 _ _ | exact Int.le_refl _ | omega)
  have c3 : Txt.slice (Txt.slice T (some p) (some e)) (some (b - p)) (some (d1 - p)) = W := by
    rw [cut_slice h0 (by first | assumption | exact Int.sub_nonneg_of_le (by assumption) | exact Int.sub_le_sub_right (by assumption) _ | exact bk _ _ | exact bk1 _ _ | exact Int.le_refl _ | omega) h8 (by first | assumption | exact Int.sub_nonneg_of_le (by assumption) | exact Int.sub_le_sub_right (by assumption) _ | exact bk _ _ | exact bk1 _ _ | exact Int.le_refl _ | omega) (by first | assumption | exact Int.sub_nonneg_of_le (by assumption) | exact Int.sub_le_sub_right (by assumption) _ | exact bk _ _ | exact bk1 _ _ | exact Int.le_refl _ | omega) (by first | assumption | exact Int.sub_nonneg_of_le (by assumption) | exact Int.sub_le_sub_right (by assumption) _ | exact bk _ _ | exact bk1 _ _ | exact Int.le_refl _ | omega), show p + (b - p) = b by first | assumption | exact Int.sub_nonneg_of_le (by assumption) | exact Int.sub_le_sub_right (by assumption) _ | exact bk _ _ | exact bk1 _ _ | exact Int.le_refl _ | omega, show p + (d1 - p) = d1 by first | assumption | exact Int.sub_nonneg_of_le (by assumption) | exact Int.sub_le_sub_right (by assumption) _ | exact bk _ _ | exact bk1 _ _ | exact Int.le_refl _ | omega]; exact H.ws
  have c4 : dotEnd (Txt.slice T (some p) (some e)) (d1 - p) = (d2 - p, P) := by
    have h9 := H.dt
    unfold dotEnd at h9 ⊢
    rw [cut_isone h0 (by first | assumption | exact Int.sub_nonneg_of_le (by assumption) | exact Int.sub_le_sub_right (by assumption) _ | exact bk _ _ | exact bk1 _ _ | exact Int.le_refl _ | omega) h8 (by first | assumption | exact Int.sub_nonneg_of_le (by assumption) | exact Int.sub_le_sub_right (by assumption) _ | exact bk _ _ | exact bk1 _ _ | exact Int.le_refl _ | omega), show p + (d1 - p) = d1 by first | assumption | exact Int.sub_nonneg_of_le (by assumption) | exact Int.sub_le_sub_right (by assumption) _ | exact bk _ _ | exact bk1 _ _ | exact Int.le_refl _ | omega]
    split at h9
    · rename_i hi
      injection h9 with h9 h10
      have h11 := @run_ge DG T (d1 + 1)
      rw [hi, decide_eq_true (show d1 < e by first | assumption | exact Int.sub_nonneg_of_le (by assumption) | exact Int.sub_le_sub_right (by assumption) _ | exact bk _ _ | exact bk1 _ _ | exact Int.le_refl _ | omega), Bool.true_and, if_pos rfl, cut_run (q := d2) h0 (by first | assumption | exact Int.sub_nonneg_of_le (by assumption) | exact Int.sub_le_sub_right (by assumption) _ | exact bk _ _ | exact bk1 _ _ | exact Int.le_refl _ | omega) h8 (by first | assumption | exact Int.sub_nonneg_of_le (by assumption) | exact Int.sub_le_sub_right (by assumption) _ | exact bk _ _ | exact bk1 _ _ | exact Int.le_refl _ | omega) (by first | assumption | exact Int.sub_nonneg_of_le (by assumption) | exact Int.sub_le_sub_right (by assumption) _ | exact bk _ _ | exact bk1 _ _ | exact Int.le_refl _ | omega) (by rw [← h9]; congr 1; omega) (by first | assumption | exact Int.sub_nonneg_of_le (by assumption) | exact Int.sub_le_sub_right (by assumption) _ | exact bk _ _ | exact bk1 _ _ | exact Int.le_refl _ | omega)]
      rw [cut_slice h0 (by first | assumption | exact Int.sub_nonneg_of_le (by assumption) | exact Int.sub_le_sub_right (by assumption) _ | exact bk _ _ | exact bk1 _ _ | exact Int.le_refl _ | omega) h8 (by first | assumption | exact Int.sub_nonneg_of_le (by assumption) | exact Int.sub_le_sub_right (by assumption) _ | exact bk _ _ | exact bk1 _ _ | exact Int.le_refl _ | omega) (by first | assumption | exact Int.sub_nonneg_of_le (by assumption) | exact Int.sub_le_sub_right (by assumption) _ | exact bk _ _ | exact bk1 _ _ | exact Int.le_refl _ | omega) (by first | assumption | exact Int.sub_nonneg_of_le (by assumption) | exact Int.sub_le_sub_right (by assumption) _ | exact bk _ _ | exact bk1 _ _ | exact Int.le_refl _ | omega), show p + (d1 - p + 1) = d1 + 1 by first | assumption | exact Int.sub_nonneg_of_le (by assumption) | exact Int.sub_le_sub_right (by assumption) _ | exact bk _ _ | exact bk1 _ _ | exact Int.le_refl _ | omega, show p + (d2 - p) = d2 by first | assumption | exact Int.sub_nonneg_of_le (by assumption) | exact Int.sub_le_sub_right (by assumption) _ | exact bk _ _ | exact bk1 _ _ | exact Int.le_refl _ | omega, ← h10, h9]
    · rename_i hi
      injection h9 with h9 h10
      rw [Bool.not_eq_true] at hi
      rw [hi, Bool.and_false, if_neg Bool.false_ne_true, ← h10, h9]
  have c5 : neg (Txt.slice T (some p) (some e)) 0 = neg T p := by
    rw [cut_neg h0 (by first | assumption | exact Int.sub_nonneg_of_le (by assumption) | exact Int.sub_le_sub_right (by assumption) _ | exact bk _ _ | exact bk1 _ _ | exact Int.le_refl _ | omega) h8 (by first | assumption | exact Int.sub_nonneg_of_le (by assumption) | exact Int.sub_le_sub_right (by assumption) _ | exact bk _ _ | exact bk1 _ _ | exact Int.le_refl _ | omega) (by first | assumption | exact Int.sub_nonneg_of_le (by assumption) | exact Int.sub_le_sub_right (by assumption) _ | exact bk _ _ | exact bk1 _ _ | exact Int.le_refl _ | omega), Int.add_zero]
  unfold Mine.dec
  rw [c1, c2, c3, c4]
  unfold decTail
  rw [if_neg hne, c5, cut_isone h0 (by first | assumption | exact Int.sub_nonneg_of_le (by assumption) | exact Int.sub_le_sub_right (by assumption) _ | exact bk _ _ | exact bk1 _ _ | exact Int.le_refl _ | omega) h8 (by first | assumption | exact Int.sub_nonneg_of_le (by assumption) | exact Int.sub_le_sub_right (by assumption) _ | exact bk _ _ | exact bk1 _ _ | exact Int.le_refl _ | omega), show p + (d2 - p) = d2 by first | assumption | exact Int.sub_nonneg_of_le (by assumption) | exact Int.sub_le_sub_right (by assumption) _ | exact bk _ _ | exact bk1 _ _ | exact Int.le_refl _ | omega]
  by_cases hq : e = d2
  · subst hq
    rw [decide_eq_false (show ¬ e < e by first | assumption | exact Int.sub_nonneg_of_le (by assumption) | exact Int.sub_le_sub_right (by assumption) _ | exact bk _ _ | exact bk1 _ _ | exact Int.le_refl _ | omega), Bool.false_and, if_neg Bool.false_ne_true, if_pos (by first | assumption | exact Int.sub_nonneg_of_le (by assumption) | exact Int.sub_le_sub_right (by assumption) _ | exact bk _ _ | exact bk1 _ _ | exact Int.le_refl _ | omega)]
    rw [minus_none (by first | assumption | exact Int.sub_nonneg_of_le (by assumption) | exact Int.sub_le_sub_right (by assumption) _ | exact bk _ _ | exact bk1 _ _ | exact Int.le_refl _ | omega) h8, if_neg Bool.false_ne_true, pow_none (by first | assumption | exact Int.sub_nonneg_of_le (by assumption) | exact Int.sub_le_sub_right (by assumption) _ | exact bk _ _ | exact bk1 _ _ | exact Int.le_refl _ | omega)]
    rw [show val (Str.ofString "") = 0 by decide +kernel, if_pos (show (Str.ofString "").length ≤ 9 ∧ (0 : Int) ≤ 300 from ⟨by decide +kernel, by first | assumption | exact Int.sub_nonneg_of_le (by assumption) | exact Int.sub_le_sub_right (by assumption) _ | exact bk _ _ | exact bk1 _ _ | exact Int.le_refl _ | omega⟩)]
  · obtain ⟨g1, g2, b2, g3, g4, g5, g6, g7⟩ := expo_more (by first | assumption | exact Int.sub_nonneg_of_le (by assumption) | exact Int.sub_le_sub_right (by assumption) _ | exact bk _ _ | exact bk1 _ _ | exact Int.le_refl _ | omega) he hq
    have o2 : b2 ≤ e := by omega
    have o1 : p ≤ b2 := by omega
    have g8 : isone sE T d2 = true := by
      unfold isone
      rw [decide_eq_true g1]
      rcases g2 with g2 | g2 <;> rw [g2] <;> decide +kernel
    have c6 : sgn (Txt.slice T (some p) (some e)) (d2 - p + 1) = b2 - p := cut_sgn h0 (by first | assumption | exact Int.sub_nonneg_of_le (by assumption) | exact Int.sub_le_sub_right (by assumption) _ | exact bk _ _ | exact bk1 _ _ | exact Int.le_refl _ | omega) h8 (by first | assumption | exact Int.sub_nonneg_of_le (by assumption) | exact Int.sub_le_sub_right (by assumption) _ | exact bk _ _ | exact bk1 _ _ | exact Int.le_refl _ | omega) (by first | assumption | exact Int.sub_nonneg_of_le (by assumption) | exact Int.sub_le_sub_right (by assumption) _ | exact bk _ _ | exact bk1 _ _ | exact Int.le_refl _ | omega) (by rw [show p + (d2 - p + 1) = d2 + 1 by first | assumption | exact Int.sub_nonneg_of_le (by assumption) | exact Int.sub_le_sub_right (by assumption) _ | exact bk _ _ | exact bk1 _ _ | exact Int.le_refl _ | omega]; exact g3) (by first | assumption | exact Int.sub_nonneg_of_le (by assumption) | exact Int.sub_le_sub_right (by assumption) _ | exact bk _ _ | exact bk1 _ _ | exact Int.le_refl _ | omega)
    have c7 : run DG (Txt.slice T (some p) (some e)) (b2 - p) = e - p := cut_run h0 (by first | assumption | exact Int.sub_nonneg_of_le (by assumption) | exact Int.sub_le_sub_right (by assumption) _ | exact bk _ _ | exact bk1 _ _ | exact Int.le_refl _ | omega) h8 (by first | assumption | exact Int.sub_nonneg_of_le (by assumption) | exact Int.sub_le_sub_right (by assumption) _ | exact bk _ _ | exact bk1 _ _ | exact Int.le_refl _ | omega) (by first | assumption | exact Int.sub_nonneg_of_le (by assumption) | exact Int.sub_le_sub_right (by assumption) _ | exact bk _ _ | exact bk1 _ _ | exact Int.le_refl _ | omega) (by rw [show p + (b2 - p) = b2 by first | assumption | exact Int.sub_nonneg_of_le (by assumption) | exact Int.sub_le_sub_right (by assumption) _ | exact bk _ _ | exact bk1 _ _ | exact Int.le_refl _ | omega]; exact g4) (by first | assumption | exact Int.sub_nonneg_of_le (by assumption) | exact Int.sub_le_sub_right (by assumption) _ | exact bk _ _ | exact bk1 _ _ | exact Int.le_refl _ | omega)
    have c8 : Txt.slice (Txt.slice T (some p) (some e)) (some (b2 - p)) (some (e - p)) = powS T d2 e := by
      rw [cut_slice h0 (by first | assumption | exact Int.sub_nonneg_of_le (by assumption) | exact Int.sub_le_sub_right (by assumption) _ | exact bk _ _ | exact bk1 _ _ | exact Int.le_refl _ | omega) h8 (by first | assumption | exact Int.sub_nonneg_of_le (by assumption) | exact Int.sub_le_sub_right (by assumption) _ | exact bk _ _ | exact bk1 _ _ | exact Int.le_refl _ | omega) (by first | assumption | exact Int.sub_nonneg_of_le (by assumption) | exact Int.sub_le_sub_right (by assumption) _ | exact bk _ _ | exact bk1 _ _ | exact Int.le_refl _ | omega) (by first | assumption | exact Int.sub_nonneg_of_le (by assumption) | exact Int.sub_le_sub_right (by assumption) _ | exact bk _ _ | exact bk1 _ _ | exact Int.le_refl _ | omega), show p + (b2 - p) = b2 by first | assumption | exact Int.sub_nonneg_of_le (by assumption) | exact Int.sub_le_sub_right (by assumption) _ | exact bk _ _ | exact bk1 _ _ | exact Int.le_refl _ | omega, show p + (e - p) = e by first | assumption | exact Int.sub_nonneg_of_le (by assumption) | exact Int.sub_le_sub_right (by assumption) _ | exact bk _ _ | exact bk1 _ _ | exact Int.le_refl _ | omega, pow_some (by first | assumption | exact Int.sub_nonneg_of_le (by assumption) | exact Int.sub_le_sub_right (by assumption) _ | exact bk _ _ | exact bk1 _ _ | exact Int.le_refl _ | omega) g3 g4 g5 g7 g1]
    have c9 : neg (Txt.slice T (some p) (some e)) (d2 - p + 1) = has (Txt.slice T (some d2) (some e)) 45 := by
      rw [cut_neg h0 (by first | assumption | exact Int.sub_nonneg_of_le (by assumption) | exact Int.sub_le_sub_right (by assumption) _ | exact bk _ _ | exact bk1 _ _ | exact Int.le_refl _ | omega) h8 (by first | assumption | exact Int.sub_nonneg_of_le (by assumption) | exact Int.sub_le_sub_right (by assumption) _ | exact bk _ _ | exact bk1 _ _ | exact Int.le_refl _ | omega) (by first | assumption | exact Int.sub_nonneg_of_le (by assumption) | exact Int.sub_le_sub_right (by assumption) _ | exact bk _ _ | exact bk1 _ _ | exact Int.le_refl _ | omega), minus_in (by first | assumption | exact Int.sub_nonneg_of_le (by assumption) | exact Int.sub_le_sub_right (by assumption) _ | exact bk _ _ | exact bk1 _ _ | exact Int.le_refl _ | omega) g2 g3 g4 g5 g7 g1, show p + (d2 - p + 1) = d2 + 1 by first | assumption | exact Int.sub_nonneg_of_le (by assumption) | exact Int.sub_le_sub_right (by assumption) _ | exact bk _ _ | exact bk1 _ _ | exact Int.le_refl _ | omega]
    rw [g8, decide_eq_true (show d2 < e by first | assumption | exact Int.sub_nonneg_of_le (by assumption) | exact Int.sub_le_sub_right (by assumption) _ | exact bk _ _ | exact bk1 _ _ | exact Int.le_refl _ | omega), Bool.true_and, if_pos rfl, c6, c7, c8, c9]
    have h9 : ¬ e - p < (Txt.slice T (some p) (some e)).length := by first | assumption | exact Int.sub_nonneg_of_le (by assumption) | exact Int.sub_le_sub_right (by assumption) _ | exact bk _ _ | exact bk1 _ _ | exact Int.le_refl _ | omega
    have h10 : b2 - p < e - p := by first | assumption | exact Int.sub_nonneg_of_le (by assumption) | exact Int.sub_le_sub_right (by assumption) _ | exact bk _ _ | exact bk1 _ _ | exact Int.le_refl _ | omega
    by_cases hz : (powS T d2 e).length ≤ 9 ∧ val (powS T d2 e) ≤ 300
    · rw [if_pos hz, if_pos ⟨h10, hz.1, hz.2, h9⟩]
    · rw [if_neg hz, if_neg (fun x => hz ⟨x.2.1, x.2.2.1⟩)]
end
/-- the fraction made of the number and its power is in lowest terms that same one -/
theorem low_ratio {n x g : Int} (hg : ((Int.gcd (n * 10 ^ (if x > 0 then x else 0).toNat) (10 ^ (if 0 - x > 0 then 0 - x else 0).toNat) : Nat) : Int) = g) : (Int.fdiv (n * 10 ^ (if x > 0 then x else 0).toNat) g, Int.fdiv (10 ^ (if 0 - x > 0 then 0 - x else 0).toNat) g) = ratio n x := by
  unfold ratio
  by_cases hx : x < 0
  · rw [if_pos hx]
    rw [if_neg (show ¬ x > 0 by omega), if_pos (show 0 - x > 0 by omega)] at hg ⊢
    rw [show (0 : Int).toNat = 0 from rfl, Int.pow_zero, Int.mul_one, show 0 - x = -x by omega] at hg ⊢
    rw [hg]
  · rw [if_neg hx]
    rw [if_neg (show ¬ 0 - x > 0 by omega)] at hg ⊢
    rw [show (0 : Int).toNat = 0 from rfl, Int.pow_zero] at hg ⊢
    have e : (if x > 0 then x else 0) = x := by split <;> omega
    rw [e] at hg ⊢
    have : g = 1 := by rw [← hg, Int.gcd_one]; rfl
    rw [this, Int.fdiv_one, Int.fdiv_one]

end
section
theorem figs_pow {T : Str} {p q : Int} (h0 : 0 ≤ p) (h1 : p ≤ T.length) (he : expo T p = q) : figs (powS T p q) ∧ (powS T p q).length ≤ T.length := by
  by_cases hq : q = p
  · subst hq
    rw [pow_none h0]
    exact ⟨figs_nil, Nat.zero_le _⟩
  · obtain ⟨g1, g2, b2, g3, g4, g5, g6, g7⟩ := expo_more h0 he hq
    rw [pow_some h0 g3 g4 g5 g7 g1]
    have h3 := len_slice (T := T) (p := b2) (q := q) (by omega) (by omega) g7
    exact ⟨figs_run (by omega) (by omega) g4, by omega⟩
theorem len_slice_le (T : Str) (i j : Option Int) : (Txt.slice T i j).length ≤ T.length := PyProof.Txt.length_slice_le T i j
theorem bits_one : Builtin.Int.intBits 1 ≤ 1 := by decide +kernel
theorem bits_mone : Builtin.Int.intBits (-1) ≤ 1 := by decide +kernel
theorem val_small {U : Str} {n : Int} (h : figs U) (hn : n = val U) (hl : U.length ≤ 1000) : 0 ≤ n ∧ Builtin.Int.intBits n ≤ 1048576 := by
  subst hn
  exact ⟨val_pos h, val_bits h hl⟩
section
variable {prog : Program} {w : World} {A : Around} {E : Value → Shared → Prop} {s : Shared} {value slice : Expr} {x : Str} {t u : Tok} {h₀ : Heap} {L : Addr} {m : Str → Option Value} {news : Led} {Q : Value → Shared → Prop}
theorem slice_atom {i j : Int} {ui uj : Tok} (hF : Fr h₀ L s.heap m) (hN : News h₀ L s.heap news) (hx : x.length ≤ 1000)
    (h : ∀ S h' t' k, Txt.slice x (some i) (some j) = S → S.length ≤ 1000 → Fr h₀ L h' m → News h₀ L h' news → Q (.str S t') { s with heap := h', toks := k })
    (hs : subscripted slice false (.str x t) (.ref s.heap.objs.size) = operate [.ref s.heap.objs.size, .str x t] (getItem (.str x t) (.ref s.heap.objs.size)))
    (ht : ∀ r, letTemporaryGo value (.str x t) r = pure ()) :
    wpAny (model prog w) A (subscriptTail value slice (.str x t) (.ref s.heap.objs.size)) Q E { s with heap := s.heap.push { cls := .type "slice", data := .fields #[.int i ui, .int j uj, .none] } } :=
  slice_strN_ss hF hN (fun h' t' k F' N' => h _ h' t' k rfl (Nat.le_trans (len_slice_le _ _ _) hx) F' N') hs ht (by rw [PySem.sizeLine_eq]; omega)
theorem in_minus (h : ∀ b, has x 45 = b → Q (.bool b) s) : wpAny (model prog w) A (compareOp .In (.str (Str.ofString "-") u) (.str x t)) Q E s := by
  rw [s_minus]
  exact in_one (h _ rfl)
theorem int_figs {U : Str} (hf : figs U) (hne : U.length ≠ 0) (hl : U.length ≤ 640) (h : ∀ v, val U = v → 0 ≤ v → Builtin.Int.intBits v ≤ 1048576 → Q (.int v s.toks) { s with toks := s.toks + 1 }) : wpAny (model prog w) A (call (.type "int") [.str U t]) Q E s :=
  KIN.call_text (text_val hf hne (by omega)) hl (h _ rfl (val_pos hf) (val_bits hf (by omega)))
theorem lstrip_pow {T S : Str} {p q : Int} (hS : Txt.slice T (some (p + 1)) (some q) = S) (h0 : 0 ≤ p) (h1 : p ≤ T.length) (hT : T.length ≤ 1000) (he : expo T p = q)
    (h : ∀ U t' k, powS T p q = U → figs U → U.length ≤ T.length → Q (.str U t') { s with toks := k }) :
    wpAny (model prog w) A (call (.builtin "str.lstrip") [.str S t, .str (Str.ofString "+-") u]) Q E s := by
  obtain ⟨h3, h4⟩ := figs_pow h0 h1 he
  refine SC.lstripChars (fun t' k => ?_) ?_
  · subst hS
    exact h _ t' k rfl h3 h4
  · have := len_slice_le T (some (p + 1)) (some q)
    rw [hS] at this
    rw [PySem.sizeLine_eq]
    omega
theorem mul_one10 {a b : Int} (ha : Builtin.Int.intBits a ≤ 1048576) (hb : Builtin.Int.intBits b ≤ 1) (h : Q (.int (a * b) s.toks) { s with toks := s.toks + 1 }) : wpAny (model prog w) A (binaryOp .Mult (.int a t) (.int b u)) Q E s :=
  mul_int h (PySem.IntMulOk.of_le ha hb (by omega))
end
theorem isone_false {S U : Str} {i : Int} (h : ¬ i < U.length) : isone S U i = false := (isone_out h).symm
theorem sgn_at' {T S : Str} {p : Int} (hS : Txt.slice T (some p) (some (p + 1)) = S) (h0 : 0 ≤ p) : sgn T p = (p + if ([Str.ofString "+", Str.ofString "-"].any fun x => x == S) = true then 1 else 0) := by
  subst hS
  exact (sgn_at h0).symm
theorem Parts.pos {T W P : Str} {p b d1 d2 : Int} (H : Parts T p b d1 d2 W P) (h0 : 0 ≤ p) (h1 : p ≤ T.length) (hne : (W ++ P).length ≠ 0) : p < T.length := by
  obtain ⟨h3, h4, h5, h6⟩ := H.le h0 h1
  rcases Int.lt_or_le p T.length with h | h
  · exact h
  · exfalso
    have hW : (W.length : Int) = d1 - b := by rw [← H.ws]; exact len_slice (by omega) h4 (by omega)
    have h9 := H.dt
    unfold dotEnd at h9
    rw [isone_false (by omega), if_neg Bool.false_ne_true] at h9
    injection h9 with h9 h10
    have hP : P.length = 0 := by rw [← h10]; rfl
    rw [len_append] at hne
    omega
theorem parts_dot' {T S S2 W P : Str} {p d1 d2 : Int} (hS : Txt.slice T (some p) (some (p + 1)) = S) (h0 : 0 ≤ p) (h1 : run DG T (p + if ([Str.ofString "+", Str.ofString "-"].any fun x => x == S) = true then 1 else 0) = d1) (hd1 : 0 ≤ d1) (hW : Txt.slice T (some (p + if ([Str.ofString "+", Str.ofString "-"].any fun x => x == S) = true then 1 else 0)) (some d1) = W)
    (hS2 : Txt.slice T (some d1) (some (d1 + 1)) = S2) (hd : (S2 == Str.ofString ".") = true) (h2 : run DG T (d1 + 1) = d2) (hP : Txt.slice T (some (d1 + 1)) (some d2) = P) : Parts T p (p + if ([Str.ofString "+", Str.ofString "-"].any fun x => x == S) = true then 1 else 0) d1 d2 W P :=
  parts_dot hd1 (sgn_at' hS h0) h1 hW (by rw [hS2]; exact hd) h2 hP
theorem parts_nodot' {T S S2 W : Str} {p d1 : Int} (hS : Txt.slice T (some p) (some (p + 1)) = S) (h0 : 0 ≤ p) (h1 : run DG T (p + if ([Str.ofString "+", Str.ofString "-"].any fun x => x == S) = true then 1 else 0) = d1) (hd1 : 0 ≤ d1) (hW : Txt.slice T (some (p + if ([Str.ofString "+", Str.ofString "-"].any fun x => x == S) = true then 1 else 0)) (some d1) = W)
    (hS2 : Txt.slice T (some d1) (some (d1 + 1)) = S2) (hd : (S2 == Str.ofString ".") = false) : Parts T p (p + if ([Str.ofString "+", Str.ofString "-"].any fun x => x == S) = true then 1 else 0) d1 d1 W (Str.ofString "") :=
  parts_nodot hd1 (sgn_at' hS h0) h1 hW (by rw [hS2]; exact hd)
theorem Parts.figs {T W P : Str} {p b d1 d2 : Int} (H : Parts T p b d1 d2 W P) (h0 : 0 ≤ p) (h1 : p ≤ T.length) : figs W ∧ figs P ∧ (W ++ P).length ≤ T.length ∧ (P.length : Int) ≤ T.length := by
  obtain ⟨h3, h4, h5, h6⟩ := H.le h0 h1
  have hW : (W.length : Int) = d1 - b := by rw [← H.ws]; exact len_slice (by omega) h4 (by omega)
  have hf : Mine.figs W := by rw [← H.ws]; exact figs_run (by omega) (by omega) H.fg
  rw [len_append]
  have h9 := H.dt
  unfold dotEnd at h9
  split at h9
  · rename_i hi
    unfold isone at hi
    rw [Bool.and_eq_true, decide_eq_true_eq] at hi
    injection h9 with h9 h10
    have h11 := @run_ge DG T (d1 + 1)
    have h12 := @run_le DG T (d1 + 1) (by omega) (by omega)
    have hP : (P.length : Int) = d2 - (d1 + 1) := by rw [← h10, h9]; exact len_slice (by omega) (by omega) (by omega)
    refine ⟨hf, ?_, by omega, by omega⟩
    rw [← h10]
    exact figs_run (by omega) (by omega) rfl
  · injection h9 with h9 h10
    subst h10
    have : (Str.ofString "").length = 0 := rfl
    exact ⟨hf, figs_nil, by omega, by omega⟩
section
variable {M : Model} {A : Around} {E : Value → Shared → Prop} {s : Shared} {h₀ : Heap} {L : Addr} {m : Str → Option Value} {news : Led} {Q : Value → Shared → Prop} {e : Expr} {env : Env}
/-- what is left when an int is reckoned, of which R is known -/
def IntMade (h₀ : Heap) (L : Addr) (m : Str → Option Value) (news : Led) (s : Shared) (R : Int → Prop) (v : Value) (s' : Shared) : Prop :=
  ∃ n t h' k, v = .int n t ∧ s' = { s with heap := h', toks := k } ∧ R n ∧ Fr h₀ L h' m ∧ News h₀ L h' news
theorem join_int (R : Int → Prop) (_F : Fr h₀ L s.heap m) (_N : News h₀ L s.heap news) (h1 : wpAny M A (eval e env) (IntMade h₀ L m news s R) E s)
    (h2 : ∀ n t h' k, R n → Fr h₀ L h' m → News h₀ L h' news → Q (.int n t) { s with heap := h', toks := k }) : wpAny M A (eval e env) Q E s :=
  wpAny_mono h1 (fun v s' h => by
    obtain ⟨n, t, h', k, rfl, rfl, hR, F, N⟩ := h
    exact h2 n t h' k hR F N) fun _ _ x => x
theorem int_made {R : Int → Prop} {n : Int} {t : Tok} {h' : Heap} {k : Nat} (hR : R n) (F : Fr h₀ L h' m) (N : News h₀ L h' news) : IntMade h₀ L m news s R (.int n t) { s with heap := h', toks := k } := ⟨n, t, h', k, rfl, rfl, hR, F, N⟩
end
theorem mul_sign {prog : Program} {w : World} {A : Around} {E : Value → Shared → Prop} {s : Shared} {t u : Tok} {Q : Value → Shared → Prop} {a b : Int} (hb : b = 1 ∨ b = -1) (ha : Builtin.Int.intBits a ≤ 1048576)
    (h : ∀ r, a * b = r → (r = a ∨ r = -a) → Builtin.Int.intBits r ≤ 1048576 → Q (.int r s.toks) { s with toks := s.toks + 1 }) : wpAny (model prog w) A (binaryOp .Mult (.int a t) (.int b u)) Q E s := by
  rcases hb with rfl | rfl
  · exact mul_one10 ha bits_one (h _ rfl (by omega) (by rw [Int.mul_one]; exact ha))
  · exact mul_one10 ha bits_mone (h _ rfl (by omega) (by rw [show a * (-1) = -a by omega]; exact intBits_neg_le ha))
abbrev xA {T : Str} {a b : Int} (_ : expo T a = b) : Int := a
abbrev xB {T : Str} {a b : Int} (_ : expo T a = b) : Int := b
theorem bits_zero : Builtin.Int.intBits 0 ≤ 1048576 := by decide +kernel
theorem has_of {X S : Str} {c : Nat} {z b : Bool} (h : X = S) (hz : has S c = z) (hb : z = b) : has X c = b := by
  rw [h, hz, hb]
theorem sign_yes {z : Bool} (h : z = true) : (if z = true then (-1 : Int) else 1) = -1 := if_pos h
theorem sign_no {z : Bool} (h : z = false) : (if z = true then (-1 : Int) else 1) = 1 := if_neg (by rw [h]; decide)
theorem sign_mul {z : Bool} {n r v : Int} (hn : (if z = true then (-1 : Int) else 1) = n) (hr : v * n = r) : (if z = true then -v else v) = r := by
  subst hr
  subst hn
  cases z <;> simp
theorem num_end {D : Option (Int × Int)} {U V : Str} {z1 z2 : Bool} {u v n1 n3 r1 r3 g l : Int} (hdec : D = if U.length ≤ 9 ∧ val U ≤ 300 then some (ratio (if z1 = true then - val V else val V) ((if z2 = true then - val U else val U) - l)) else none)
    (hn1 : (if z2 = true then (-1 : Int) else 1) = n1) (hn3 : (if z1 = true then (-1 : Int) else 1) = n3) (hr1 : u * n1 = r1) (hr3 : v * n3 = r3) (hu : val U = u) (hv : val V = v) (hl : ¬ 9 < (U.length : Int)) (hu3 : u ≤ 300)
    (hg : ((Int.gcd (r3 * 10 ^ (if r1 - l > 0 then r1 - l else 0).toNat) (10 ^ (if 0 - (r1 - l) > 0 then 0 - (r1 - l) else 0).toNat) : Nat) : Int) = g) :
    D = some (Int.fdiv (r3 * 10 ^ (if r1 - l > 0 then r1 - l else 0).toNat) g, Int.fdiv (10 ^ (if 0 - (r1 - l) > 0 then 0 - (r1 - l) else 0).toNat) g) := by
  rw [if_pos ⟨by omega, by omega⟩, hu, hv, sign_mul hn1 hr1, sign_mul hn3 hr3] at hdec
  rw [hdec, low_ratio hg]
theorem val_nil {U : Str} (h : (U != Str.ofString "") = false) : val U = 0 := by
  have := nil_len (bne_nil (b := false) h)
  have h2 : U.cps.toList = [] := List.eq_nil_of_length_eq_zero ((len_toList U).trans this)
  unfold val
  rw [h2]
  rfl
/-- what holds behind a statement that may also return -/
def JoinQ (g : Heap) (L : Addr) (s : Shared) (R : (Str → Option Value) → Led → Prop) (Q : Flow → Shared → Prop) (f : Flow) (s' : Shared) : Prop :=
  match f with
  | .next => Stop (Join g L s R .next s')
  | .cont => Q .cont s'
  | .brk => Q .brk s'
  | .ret v => Q (.ret v) s'
theorem joinQ {M : Model} {A : Around} {t : Sem Flow} {E : Value → Shared → Prop} {s : Shared} {g : Heap} {L : Addr} {m₀ : Str → Option Value} {Q : Flow → Shared → Prop} (_ : Fr g L s.heap m₀) (R : (Str → Option Value) → Led → Prop)
    (h1 : wpAny M A t (JoinQ g L s R Q) E s) (h2 : ∀ m led h tk, R m led → Fr g L h m → News g L h led → Q .next ⟨h, s.gens, s.drawn, tk, s.os⟩) : wpAny M A t Q E s :=
  wpAny_mono h1 (fun f s' x => by
    cases f with
    | next =>
      obtain ⟨⟨m, led, h, tk, _, b, F, N, r⟩⟩ := x
      subst b
      exact h2 m led h tk r F N
    | cont => exact x
    | brk => exact x
    | ret v => exact x) fun _ _ x => x
theorem chkJQ {M : Model} {A : Around} {t : Sem Flow} {E : Value → Shared → Prop} {s s₀ : Shared} {g : Heap} {L : Addr} {R : (Str → Option Value) → Led → Prop} {Q : Flow → Shared → Prop} (h : False) : wpAny M A t (JoinQ g L s₀ R Q) E s := h.elim
/-- the law's number: behind its first if -/
def numJ (T : Str) (tT : Tok) (p : Int) (tp : Tok) (led : Led) (m : Str → Option Value) (l : Led) : Prop :=
  ∃ W tW P tP b d1 d2 te, Parts T p b d1 d2 W P ∧ m (Str.ofString "text") = some (.str T tT) ∧ m (Str.ofString "at") = some (.int p tp) ∧ m (Str.ofString "ahead") = some (.str W tW) ∧ m (Str.ofString "behind") = some (.str P tP) ∧ m (Str.ofString "end") = some (.int d2 te) ∧ l = led
theorem same5 {m : Str → Option Value} {x1 x2 x3 x4 x5 : Str} {v1 v2 v3 v4 v5 : Value} (h1 : m x1 = some v1) (h2 : m x2 = some v2) (h3 : m x3 = some v3) (h4 : m x4 = some v4) (h5 : m x5 = some v5) : m = upd (upd (upd (upd (upd m x5 v5) x4 v4) x3 v3) x2 v2) x1 v1 := by
  rw [← upd_same h5, ← upd_same h4, ← upd_same h3, ← upd_same h2, ← upd_same h1]
/-- the power is small: behind the last if -/
def powJ {g h : Heap} {L : Addr} {m₀ : Str → Option Value} {l₀ : Led} {T U : Str} {a b : Int} (_ : Fr g L h m₀) (_ : News g L h l₀) (_ : powS T a b = U) (m : Str → Option Value) (l : Led) : Prop := m = m₀ ∧ l = l₀ ∧ U.length ≤ 9 ∧ val U ≤ 300
abbrev xU {T U : Str} {a b : Int} (_ : powS T a b = U) : Str := U

end
local macro_rules | `(tactic| walk_at "subscriptTail Name Slice str ref") => `(tactic| (walk_at "mine FN"; refine' slice_atom (s := ⟨_, _, _, _, _⟩) F9 N9 (by first | assumption | omega) ?_ (by walk_at "mine u") (by walk_at "mine u"); intros; k_sweep))
local macro_rules | `(tactic| walk_at "compareOp In str str") => `(tactic| (refine in_minus ?_; intros))
local macro_rules | `(tactic| walk_at "call type:int") => `(tactic| (refine' int_figs (by walk_at "mine figs") (by walk_at "mine noz") (by walk_at "mine lens") ?_; intros; k_sweep))
local macro_rules | `(tactic| walk_at "mine noz") => `(tactic| first | exact len_nil (by walk_at "mine r") | exact len_nil (bne_nil (b := true) (by walk_at "mine r")))
local macro_rules | `(tactic| walk_at "call builtin:str.lstrip") => `(tactic| (refine' lstrip_pow (by walk_at "mine r") (by walk_at "mine fact") (by walk_at "mine fact") (by walk_at "mine fact") (by walk_at "mine r") ?_; intros; k_sweep))
local macro_rules | `(tactic| walk_at "binaryOp Mult int int") => `(tactic| (with_reducible refine mul_sign (by assumption) (by walk_at "mine bits") ?_; intros))
local macro_rules | `(tactic| walk_at "subscriptTail Name Name str int") => `(tactic| walk_at "subscriptTail Name Attribute str int")
local macro_rules | `(tactic| walk_at "call ref") => `(tactic| (apply useN (C_llow ..); walk_at "mine go"))
local macro_rules | `(tactic| walk_at "eval IfExp") => `(tactic| (with_reducible refine atNeg ?_; walk_at "mine stop"))
local macro_rules | `(tactic| walk_at "mine bits") => `(tactic| first | walk_at "mine r" | exact bits_zero)
local macro_rules | `(tactic| walk_at "IntMade") => `(tactic| walk_at "mine stop")
local macro_rules | `(tactic| walk_at "mine above") => `(tactic| first | walk_at "mine r" | exact of_allLt (by walk_at "mine r") | exact of_allLt1 (by walk_at "mine r") | exact of_allLt2 (by walk_at "mine r") | exact of_allLt3 (by walk_at "mine r") | exact of_allLt4 (by walk_at "mine r"))

section
local macro_rules | `(tactic| walk_at "call ref") => `(tactic| (with_reducible refine atC 281 ?_; walk_at "mine stop"))
local macro_rules | `(tactic| walk_at "mine 281") => `(tactic| ((with_reducible apply useN (C_lexpo ..)); walk_at "mine go"))
local macro_rules | `(tactic| walk_at "exec If Compare") => `(tactic| (with_reducible refine ifSub ?_; walk_at "mine stopJ"))
local macro_rules | `(tactic| walk_at "exec If BoolOp") => `(tactic| ((fail_if_success (with_reducible refine chkJQ ?_)); walk_at "mine stop"))
local macro_rules | `(tactic| walk_at "JoinQ") => `(tactic| dsimp only [JoinQ])
local macro_rules | `(tactic| walk_at "eval IfExp") => `(tactic| (with_reducible refine atTern ?_; walk_at "mine stop"))
theorem C_lnumber {w : World} {T : Str} {tT tp : Tok} {p : Int} {led : Led} (hT : T.length ≤ 600) (h0 : 0 ≤ p) (h1 : p ≤ T.length) :
    CtrN w 295 led [.str T tT, .int p tp] 12 (fun k =>
      (∀ z ta tb, (∀ q ∈ led, @LT.lt Nat _ q.1 z) → numE T p = none → k (.ref z) ((z, { cls := .type "tuple", data := .seq #[.int p ta, .none, .int p tb] }) :: led)) ∧
      (∀ z ta e, (∀ q ∈ led, @LT.lt Nat _ q.1 z) → numE T p = some e → p ≤ e → e ≤ T.length → dec (Txt.slice T (some p) (some e)) = none → k (.ref z) ((z, { cls := .type "tuple", data := .seq #[.int p ta, .none, .none] }) :: led)) ∧
      (∀ z y tA tB A B te e, (∀ q ∈ led, @LT.lt Nat _ q.1 y) → @LT.lt Nat _ y z → numE T p = some e → p ≤ e → e ≤ T.length → dec (Txt.slice T (some p) (some e)) = some (A, B) → k (.ref z) ((z, { cls := .type "tuple", data := .seq #[.none, .ref y, .int e te] }) :: (y, { cls := .type "tuple", data := .seq #[.int A tA, .int B tB] }) :: led))) := by
  unfold CtrN
  intro mean mg mb dp un gd cn cs ad ccd cl outer A₀ base h₀ L m sh sg sd sk so Q E B F X N Tp hk hdp hun hret
  have hTk : T.length ≤ 1000 := Nat.le_trans hT (by decide)
  k_steps
  refine ⟨?_⟩
  rename Fr _ _ _ _ => F1
  refine join F1 (numJ T tT p tp led) ?_ ?_
  · k_steps
    · have H := parts_dot' (by with_reducible assumption) h0 (by with_reducible assumption) (by omega) (by with_reducible assumption) (by with_reducible assumption) (by with_reducible assumption) (by with_reducible assumption) (by with_reducible assumption)
      rename Fr _ _ _ _ => F9
      exact joined F9 (by walk_at "mine drop") ⟨_, _, _, _, _, _, _, _, H, rfl, rfl, rfl, rfl, rfl, rfl⟩
    · have H := parts_nodot' (by with_reducible assumption) h0 (by with_reducible assumption) (by omega) (by with_reducible assumption) (by with_reducible assumption) (by with_reducible assumption)
      rename Fr _ _ _ _ => F9
      exact joined F9 (by walk_at "mine drop") ⟨_, _, _, _, _, _, _, _, H, rfl, rfl, rfl, rfl, rfl, rfl⟩
  rename News _ _ _ _ => N1
  clear F1 N1
  intro m1 l1 h tk ⟨W, tW, P, tP, b, d1, d2, te, H, e1, e2, e3, e4, e5, hl⟩ F2 N2
  rw [hl] at N2
  rw [same5 e1 e2 e3 e4 e5] at F2
  clear e1 e2 e3 e4 e5
  have hle := H.le h0 h1
  have hd3 : d2 ≤ T.length := hle.2.2.2
  have hd0 : 0 ≤ d2 := Int.le_trans h0 (Int.le_trans hle.1 (Int.le_trans hle.2.1 hle.2.2.1))
  obtain ⟨hf1, hf2, hl1, hl2⟩ := H.figs h0 h1
  have hWl : W.length ≤ 1000 := by rw [len_append] at hl1; omega
  have hPl : P.length ≤ 1000 := by rw [len_append] at hl1; omega
  dsimp only
  k_steps
  · have hn := (H.count h0 h1).trans (if_pos (nil_len (by with_reducible assumption)))
    exact hret.1 _ _ _ (by walk_at "mine above") hn _ _ (by k_asm) (by walk_at "mine drop")
  have hne := len_nil (show (_ ++ _ == Str.ofString "") = false from (by with_reducible assumption))
  have hn := (H.count h0 h1).trans (if_neg hne)
  have hp1 := H.pos h0 h1 hne
  refine ⟨?_⟩
  walk_at "mine 281"
  rename expo T _ = _ => he
  have hdec := H.dec h0 h1 he hne
  k_steps
  rename powS _ _ _ = _ => hU
  rw [hU] at hdec
  refine ⟨?_⟩
  rename Fr _ _ _ _ => F1
  rename News _ _ _ _ => N1
  refine joinQ F1 (powJ F1 N1 hU) ?_ ?_
  · k_steps
    · rw [if_neg (fun x => by omega)] at hdec
      exact hret.2.1 _ _ _ (by walk_at "mine above") (he ▸ hn) (by omega) (by omega) hdec _ _ (by k_asm) (by walk_at "mine drop")
    · rw [if_neg (fun x => by omega)] at hdec
      exact hret.2.1 _ _ _ (by walk_at "mine above") (he ▸ hn) (by omega) (by omega) hdec _ _ (by k_asm) (by walk_at "mine drop")
    · exact joined (by k_asm) (by k_asm) ⟨rfl, rfl, by omega, by omega⟩
    · exact joined (by k_asm) (by k_asm) ⟨rfl, rfl, by omega, by rw [val_nil (by with_reducible assumption)]; decide⟩
  intro m1 l1 h tk ⟨hm, hl, hU9, hU3⟩ F2 N2
  rw [hm] at F2
  rw [hl] at N2
  clear F1 N1
  dsimp only
  k_steps
  rename Fr _ _ _ _ => F9
  rename News _ _ _ _ => N9
  refine ⟨?_⟩
  refine join_int (s := ⟨_, _, _, _, _⟩) (fun n => val (xU hU) = n ∧ Builtin.Int.intBits n ≤ 1048576 ∧ 0 ≤ n ∧ n ≤ 300) F9 N9 (IfExp_ ?_) ?_
  · k_steps
    · exact ⟨int_made ⟨(by with_reducible assumption), (by with_reducible assumption), by omega, by omega⟩ (by k_asm) (by k_asm)⟩
    · exact ⟨int_made ⟨val_nil (by with_reducible assumption), bits_zero, by decide, by decide⟩ (by k_asm) (by k_asm)⟩
  intro n0 t0 h3 k0 hn0 F0 N0
  obtain ⟨hn0, hb0, hn5, hn6⟩ := hn0
  dsimp only [xU] at hn0
  k_steps
  rename Fr _ _ _ _ => F9
  rename News _ _ _ _ => N9
  refine ⟨?_⟩
  refine join_int (s := ⟨_, _, _, _, _⟩) (fun n => (if has (Txt.slice T (some (xA he)) (some (xB he))) 45 = true then (-1 : Int) else 1) = n ∧ (n = 1 ∨ n = -1)) F9 N9 (IfExp_ ?_) ?_
  · k_steps
    · exact ⟨int_made ⟨sign_yes (has_of (by with_reducible assumption) (by with_reducible assumption) (by with_reducible assumption)), Or.inr rfl⟩ (by k_asm) (by k_asm)⟩
    · exact ⟨int_made ⟨sign_no (has_of (by with_reducible assumption) (by with_reducible assumption) (by with_reducible assumption)), Or.inl rfl⟩ (by k_asm) (by k_asm)⟩
  intro n1 t1 h1' k1 hn1 F1 N1
  obtain ⟨hn1, hn2⟩ := hn1
  k_steps
  rename Fr _ _ _ _ => F9
  rename News _ _ _ _ => N9
  refine ⟨?_⟩
  refine join_int (s := ⟨_, _, _, _, _⟩) (fun n => (if neg T p = true then (-1 : Int) else 1) = n ∧ (n = 1 ∨ n = -1)) F9 N9 (IfExp_ ?_) ?_
  · k_steps
    · exact ⟨int_made ⟨sign_yes (neg_yes hp1 (by with_reducible assumption) (by with_reducible assumption)), Or.inr rfl⟩ (by k_asm) (by k_asm)⟩
    · exact ⟨int_made ⟨sign_no (neg_no (by with_reducible assumption) (by with_reducible assumption)), Or.inl rfl⟩ (by k_asm) (by k_asm)⟩
  intro n3 t3 h3' k3 hn3 F3 N3
  obtain ⟨hn3, hn4⟩ := hn3
  k_steps
  have hend := num_end hdec hn1 hn3 (by with_reducible assumption) (by with_reducible assumption) hn0 (by with_reducible assumption) (by omega) (by omega) (by with_reducible assumption)
  exact hret.2.2 _ _ _ _ _ _ _ _ (fun q hq => (by with_reducible assumption : ∀ q ∈ _, @LT.lt Nat _ q.1 _) q (by repeat (first | exact hq | apply List.Mem.tail))) (And.left (by with_reducible assumption)) (he ▸ hn) (by omega) (by omega) hend _ _ (by k_asm) (by walk_at "mine drop")

end
section
theorem way8 {w : Int} (h0 : 0 ≤ w) (h8 : w ≤ 8) (a0 : w ≠ 0) (a1 : w ≠ 1) (a2 : w ≠ 2) (a3 : w ≠ 3) (a4 : w ≠ 4) (a5 : w ≠ 5) (a6 : w ≠ 6) (a7 : w ≠ 7) : w = 8 := by
  obtain ⟨n, rfl⟩ := Int.eq_ofNat_of_zero_le h0
  have h : n ≤ 8 := Int.ofNat_le.mp h8
  have e : ∀ k : Fin 9, k.1 = 0 ∨ k.1 = 1 ∨ k.1 = 2 ∨ k.1 = 3 ∨ k.1 = 4 ∨ k.1 = 5 ∨ k.1 = 6 ∨ k.1 = 7 ∨ k.1 = 8 := by decide
  have e' := ((((((((e ⟨n, Nat.lt_succ_of_le h⟩).resolve_left fun x => a0 (congrArg Int.ofNat x)).resolve_left fun x => a1 (congrArg Int.ofNat x)).resolve_left fun x => a2 (congrArg Int.ofNat x)).resolve_left fun x => a3 (congrArg Int.ofNat x)).resolve_left fun x => a4 (congrArg Int.ofNat x)).resolve_left fun x => a5 (congrArg Int.ofNat x)).resolve_left fun x => a6 (congrArg Int.ofNat x)).resolve_left fun x => a7 (congrArg Int.ofNat x)
  exact congrArg Int.ofNat e'
/-- a value without parts -/
inductive Fl where
  | none
  | bool (b : Bool)
  | int (n : Int)
  | str (s : Str)
def Fl.v : Fl → Tok → Value
  | .none, _ => .none
  | .bool b, _ => .bool b
  | .int n, t => .int n t
  | .str s, t => .str s t
def ob : Option Int → Tok → Value
  | .none, _ => .none
  | .some n, t => .int n t
abbrev Due := Fl × (Fl ⊕ Fl × Fl) × Option Int
def due5 (T : Str) (p : Int) : Due :=
  match numE T p with
  | none => (.int p, .inl .none, some p)
  | some e => match dec (Txt.slice T (some p) (some e)) with
    | none => (.int p, .inl .none, none)
    | some (A, B) => (.none, .inr (.int A, .int B), some e)
def due6 (T : Str) (p : Int) : Due :=
  if p < T.length ∧ (cd T p = 48 ∨ cd T p = 49) then (.none, .inl (.int ((cd T p : Int) - 48)), some (p + 1)) else (.int p, .inl .none, some p)
def due7 (T : Str) (p : Int) : Due :=
  if run BL T p < T.length then
    (if has LS (cd T (run BL T p)) = true then (.none, .inl (.str ⟨#[cd T (run BL T p)]⟩), some (run BL T p + 1)) else (.int (run BL T p), .inl .none, some (run BL T p)))
  else (.none, .inl .none, some (run BL T p))
/-- what a scanner over T at p is to tell of the asking way: the place of what is refused, what it tells, where it stands behind -/
def due (way : Int) (T : Str) (p : Int) : Due :=
  if way = 0 then (.none, .inl .none, some (run BL T p)) else
  if way = 1 then (.none, .inl (.bool (sep T p).1), some (sep T p).2) else
  if way = 2 then (.none, .inl (.bool (looks T p)), some p) else
  if way = 3 then (.none, .inl (.int (run DG T p - p)), some (run DG T p)) else
  if way = 4 then (.none, .inl .none, some (expo T p)) else
  if way = 5 then due5 T p else
  if way = 6 then due6 T p else
  if way = 7 then due7 T p else
  (.none, .inr (.str (Txt.slice T (some p) (some (p + 1))), .bool (decide ((T.length : Int) ≤ p))), some p)
section
variable {T : Str} {p q : Int}
theorem due_0 (h : run BL T p = q) : due 0 T p = (.none, .inl .none, some q) := by subst h; rfl
theorem due_1 {b : Bool} (h : sep T p = (b, q)) : due 1 T p = (.none, .inl (.bool b), some q) := by
  show ((.none, .inl (.bool (sep T p).1), some (sep T p).2) : Due) = _
  rw [h]
theorem due_2 {b : Bool} (h : looks T p = b) : due 2 T p = (.none, .inl (.bool b), some p) := by subst h; rfl
theorem due_3 (h : run DG T p = q) : due 3 T p = (.none, .inl (.int (q - p)), some q) := by subst h; rfl
theorem due_4 (h : expo T p = q) : due 4 T p = (.none, .inl .none, some q) := by subst h; rfl
theorem due_5n (h : numE T p = none) : due 5 T p = (.int p, .inl .none, some p) := by
  show due5 T p = _
  unfold due5
  rw [h]
theorem due_5b {e : Int} (h : numE T p = some e) (h2 : dec (Txt.slice T (some p) (some e)) = none) : due 5 T p = (.int p, .inl .none, none) := by
  show due5 T p = _
  unfold due5
  rw [h]
  dsimp only
  rw [h2]
theorem due_5 {e A B : Int} (h : numE T p = some e) (h2 : dec (Txt.slice T (some p) (some e)) = some (A, B)) : due 5 T p = (.none, .inr (.int A, .int B), some e) := by
  show due5 T p = _
  unfold due5
  rw [h]
  dsimp only
  rw [h2]
theorem due_6 {c : Nat} (h : p < T.length) (hc : cd T p = c) (h2 : c = 48 ∨ c = 49) : due 6 T p = (.none, .inl (.int ((c : Int) - 48)), some (p + 1)) := by
  subst hc
  show due6 T p = _
  unfold due6
  rw [if_pos ⟨h, h2⟩]
theorem due_6n (h : ¬ (p < T.length ∧ (cd T p = 48 ∨ cd T p = 49))) : due 6 T p = (.int p, .inl .none, some p) := if_neg h
theorem due_7e (hq : run BL T p = q) (h : ¬ q < T.length) : due 7 T p = (.none, .inl .none, some q) := by
  subst hq
  exact if_neg h
theorem due_7 {c : Nat} (hq : run BL T p = q) (h : q < T.length) (hc : cd T q = c) (h2 : has LS c = true) : due 7 T p = (.none, .inl (.str ⟨#[c]⟩), some (q + 1)) := by
  subst hq
  subst hc
  show due7 T p = _
  unfold due7
  rw [if_pos h, if_pos h2]
theorem due_7n {c : Nat} (hq : run BL T p = q) (h : q < T.length) (hc : cd T q = c) (h2 : has LS c = false) : due 7 T p = (.int q, .inl .none, some q) := by
  subst hq
  subst hc
  show due7 T p = _
  unfold due7
  rw [if_pos h, if_neg (by rw [h2]; decide)]
theorem due_8 {S : Str} {b : Bool} (h : Txt.slice T (some p) (some (p + 1)) = S) (h2 : decide ((T.length : Int) ≤ p) = b) : due 8 T p = (.none, .inr (.str S, .bool b), some p) := by
  subst h
  subst h2
  rfl
end
theorem has_LS (c : Nat) : has LS c = true → True := fun _ => trivial
theorem figs_01 {S : Str} (h : ([Str.ofString "0", Str.ofString "1"].any fun x => x == S) = true) : (S = Str.ofString "0" ∨ S = Str.ofString "1") := by
  simp only [List.any_cons, List.any_nil, Bool.or_false, Bool.or_eq_true, beq_iff_eq] at h
  exact h.imp Eq.symm Eq.symm
theorem figs_f01 {S : Str} (h : ([Str.ofString "0", Str.ofString "1"].any fun x => x == S) = true) : figs S := by
  rcases figs_01 h with rfl | rfl
  · rw [s_0]; intro c hc; simp at hc; omega
  · rw [s_1]; intro c hc; simp at hc; omega
theorem figs_l01 {S : Str} (h : ([Str.ofString "0", Str.ofString "1"].any fun x => x == S) = true) : S.length = 1 := by
  rcases figs_01 h with rfl | rfl <;> rfl
/-- a flag's sign -/
theorem flag_in {T S : Str} {p v : Int} (hS : Txt.slice T (some p) (some (p + 1)) = S) (h : ([Str.ofString "0", Str.ofString "1"].any fun x => x == S) = true) (h0 : 0 ≤ p) (hv : val S = v) : due 6 T p = (.none, .inl (.int v), some (p + 1)) := by
  rcases figs_01 h with rfl | rfl
  · obtain ⟨a, b⟩ := pk_eq s_0 (beq_self_eq_true _) hS h0
    rw [due_6 a b (Or.inl rfl), ← hv, show val (Str.ofString "0") = 0 by decide +kernel]
    rfl
  · obtain ⟨a, b⟩ := pk_eq s_1 (beq_self_eq_true _) hS h0
    rw [due_6 a b (Or.inr rfl), ← hv, show val (Str.ofString "1") = 1 by decide +kernel]
    rfl
theorem flag_out {T S : Str} {p : Int} (hS : Txt.slice T (some p) (some (p + 1)) = S) (h : ([Str.ofString "0", Str.ofString "1"].any fun x => x == S) = false) (h0 : 0 ≤ p) : due 6 T p = (.int p, .inl .none, some p) := by
  simp only [List.any_cons, List.any_nil, Bool.or_false, Bool.or_eq_false_iff] at h
  have e : ∀ X : Str, (X == S) = false → (S == X) = false := fun X h => by rw [Bool.eq_false_iff] at h ⊢; intro z; exact h (by rw [beq_iff_eq] at z ⊢; exact z.symm)
  have h1 := pk_ne s_0 (e _ h.1) hS h0
  have h2 := pk_ne s_1 (e _ h.2) hS h0
  refine due_6n ?_
  rintro ⟨a, b | b⟩
  · exact h1 ⟨a, b⟩
  · exact h2 ⟨a, b⟩
/-- a comma's sign -/
theorem comma_in {T S : Str} {p q r : Int} (hq : run BL T p = q) (hS : Txt.slice T (some q) (some (q + 1)) = S) (h : (S == Str.ofString ",") = true) (h0 : 0 ≤ q) (hr : run BL T (q + 1) = r) : due 1 T p = (.none, .inl (.bool (S == Str.ofString ",")), some r) := by
  rw [h]
  obtain ⟨a, b⟩ := pk_eq s_comma h hS h0
  refine due_1 ?_
  unfold sep
  rw [hq, hr, if_pos ⟨a, b⟩]
theorem comma_out {T S : Str} {p q : Int} (hq : run BL T p = q) (hS : Txt.slice T (some q) (some (q + 1)) = S) (h : (S == Str.ofString ",") = false) (h0 : 0 ≤ q) : due 1 T p = (.none, .inl (.bool (S == Str.ofString ",")), some q) := by
  rw [h]
  have a := pk_ne s_comma h hS h0
  refine due_1 ?_
  unfold sep
  rw [hq, if_neg a]
theorem any_signs (D : Str) (c : Nat) : has D c = (List.map PyData.str (signs D)).any (datHitsStr ⟨#[c]⟩) := by
  unfold has signs
  rw [Bool.eq_iff_iff, decide_eq_true_eq, List.any_eq_true]
  constructor
  · intro h
    exact ⟨_, List.mem_map_of_mem (List.mem_map_of_mem h), beq_self_eq_true _⟩
  · rintro ⟨d, hd, h⟩
    obtain ⟨s, hs, rfl⟩ := List.mem_map.mp hd
    obtain ⟨a, ha, rfl⟩ := List.mem_map.mp hs
    have h' : ((⟨#[a]⟩ : Str) == ⟨#[c]⟩) = true := h
    have e : a = c := by
      have := congrArg Str.cps (beq_iff_eq.mp h')
      simpa using this
    exact e ▸ ha
theorem looks_any {T S : Str} {p : Int} (hS : Txt.slice T (some p) (some (p + 1)) = S) (h0 : 0 ≤ p) : due 2 T p = (.none, .inl (.bool ((List.map PyData.str (signs (Str.ofString "+-." ++ Str.ofString "0123456789"))).any (datHitsStr S))), some p) := by
  refine due_2 ?_
  by_cases hl : p < T.length
  · rw [slice_in h0 hl] at hS
    subst hS
    rw [← looks_in hl rfl]
    exact any_signs _ _
  · rw [slice_out (by omega) (by omega)] at hS
    subst hS
    rw [← looks_out hl]
    decide +kernel
abbrev tup (a : Array Value) : Obj := { cls := .type "tuple", data := .seq a }
def DuePost (way : Int) (T : Str) (p : Int) (led : Led) (k : Value → Led → Prop) : Prop :=
  (∀ z t1 t2 t3 pl f b, due way T p = (pl, .inl f, b) → (∀ q ∈ led, @LT.lt Nat _ q.1 z) → k (.ref z) ((z, tup #[pl.v t1, f.v t2, ob b t3]) :: led)) ∧
  (∀ z y t1 t2 t3 t4 pl f g b, due way T p = (pl, .inr (f, g), b) → (∀ q ∈ led, @LT.lt Nat _ q.1 y) → @LT.lt Nat _ y z → k (.ref z) ((z, tup #[pl.v t1, .ref y, ob b t3]) :: (y, tup #[f.v t2, g.v t4]) :: led))
section
variable {way : Int} {T : Str} {p : Int} {led : Led} {k : Value → Led → Prop} (h : DuePost way T p led k) {z y : Addr} {q n m : Int} {b : Bool} {S : Str} {t t1 t2 : Tok}
include h
theorem DuePost.nn (hd : due way T p = (.none, .inl .none, some q)) (hl : ∀ q ∈ led, @LT.lt Nat _ q.1 z) : k (.ref z) ((z, tup #[.none, .none, .int q t]) :: led) := h.1 z 0 0 t _ _ _ hd hl
theorem DuePost.nb (hd : due way T p = (.none, .inl (.bool b), some q)) (hl : ∀ q ∈ led, @LT.lt Nat _ q.1 z) : k (.ref z) ((z, tup #[.none, .bool b, .int q t]) :: led) := h.1 z 0 0 t _ _ _ hd hl
theorem DuePost.ni (hd : due way T p = (.none, .inl (.int n), some q)) (hl : ∀ q ∈ led, @LT.lt Nat _ q.1 z) : k (.ref z) ((z, tup #[.none, .int n t1, .int q t]) :: led) := h.1 z 0 t1 t _ _ _ hd hl
theorem DuePost.ns (hd : due way T p = (.none, .inl (.str S), some q)) (hl : ∀ q ∈ led, @LT.lt Nat _ q.1 z) : k (.ref z) ((z, tup #[.none, .str S t1, .int q t]) :: led) := h.1 z 0 t1 t _ _ _ hd hl
theorem DuePost.fn (hd : due way T p = (.int n, .inl .none, some q)) (hl : ∀ q ∈ led, @LT.lt Nat _ q.1 z) : k (.ref z) ((z, tup #[.int n t1, .none, .int q t]) :: led) := h.1 z t1 0 t _ _ _ hd hl
theorem DuePost.fb (hd : due way T p = (.int n, .inl .none, none)) (hl : ∀ q ∈ led, @LT.lt Nat _ q.1 z) : k (.ref z) ((z, tup #[.int n t1, .none, .none]) :: led) := h.1 z t1 0 0 _ _ _ hd hl
theorem DuePost.ii (hd : due way T p = (.none, .inr (.int n, .int m), some q)) (hl : ∀ q ∈ led, @LT.lt Nat _ q.1 y) (hy : @LT.lt Nat _ y z) : k (.ref z) ((z, tup #[.none, .ref y, .int q t]) :: (y, tup #[.int n t1, .int m t2]) :: led) := h.2 z y 0 t1 t t2 _ _ _ _ hd hl hy
theorem DuePost.sb (hd : due way T p = (.none, .inr (.str S, .bool b), some q)) (hl : ∀ q ∈ led, @LT.lt Nat _ q.1 y) (hy : @LT.lt Nat _ y z) : k (.ref z) ((z, tup #[.none, .ref y, .int q t]) :: (y, tup #[.str S t1, .bool b]) :: led) := h.2 z y 0 t1 t 0 _ _ _ _ hd hl hy
end
theorem has_same {T S : Str} {q : Int} {c c' : Nat} (h : has S c' = true) (hc' : cd T q = c') (hc : cd T q = c) : has S c = true := by
  rw [← hc, hc']; exact h

end
local macro_rules | `(tactic| walk_at "call ref") => `(tactic| (apply useN (C_lnumber ..); walk_at "mine go"))
local macro_rules | `(tactic| walk_at "mine figs") => `(tactic| exact figs_f01 (by walk_at "mine r"))
local macro_rules | `(tactic| walk_at "mine noz") => `(tactic| (rw [figs_l01 (by walk_at "mine r")]; decide))
local macro_rules | `(tactic| walk_at "mine lens") => `(tactic| (rw [figs_l01 (by walk_at "mine r")]; decide))

section
theorem C_due {w : World} {T : Str} {tT tp tw : Tok} {p way : Int} {led : Led} (hw : 0 ≤ way) (hw8 : way ≤ 8) (hT : T.length ≤ 600) (h0 : 0 ≤ p) (h1 : p ≤ T.length) :
    CtrN w 302 led [.int way tw, .str T tT, .int p tp] 16 (DuePost way T p led) := by
  unfold CtrN
  intro mean mg mb dp un gd cn cs ad ccd cl outer A₀ base h₀ L m sh sg sd sk so Q E B F X N Tp hk hdp hun hret
  k_steps
  all_goals try (rename way = _ => hway; subst hway)
  · exact hret.nn (due_0 (by with_reducible assumption)) (by walk_at "mine above") _ _ (by k_asm) (by walk_at "mine drop")
  · exact hret.nb (comma_in (by with_reducible assumption) (by with_reducible assumption) (by with_reducible assumption) (by omega) (by with_reducible assumption)) (by walk_at "mine above") _ _ (by k_asm) (by walk_at "mine drop")
  · exact hret.nb (comma_out (by with_reducible assumption) (by with_reducible assumption) (by with_reducible assumption) (by omega)) (by walk_at "mine above") _ _ (by k_asm) (by walk_at "mine drop")
  · exact hret.nb (looks_any (by with_reducible assumption) (by omega)) (fun q hq => Heap.lt_size ((by with_reducible assumption : News _ _ _ (_ :: led)) q (List.Mem.tail _ hq)).1) _ _ (by k_asm) (by walk_at "mine drop")
  · exact hret.ni (due_3 (by with_reducible assumption)) (by walk_at "mine above") _ _ (by k_asm) (by walk_at "mine drop")
  · exact hret.nn (due_4 (by with_reducible assumption)) (by walk_at "mine above") _ _ (by k_asm) (by walk_at "mine drop")
  · exact hret.fn (due_5n (by with_reducible assumption)) (by walk_at "mine above") _ _ (by k_asm) (by walk_at "mine drop")
  · exact hret.fb (due_5b (by with_reducible assumption) (by with_reducible assumption)) (by walk_at "mine above") _ _ (by k_asm) (by walk_at "mine drop")
  · exact hret.ii (due_5 (by with_reducible assumption) (by with_reducible assumption)) (by with_reducible assumption) (by with_reducible assumption) _ _ (by k_asm) (by walk_at "mine drop")
  · exact hret.ni (flag_in (by with_reducible assumption) (by with_reducible assumption) (by omega) (by with_reducible assumption)) (by walk_at "mine above") _ _ (by k_asm) (by walk_at "mine drop")
  · exact hret.fn (flag_out (by with_reducible assumption) (by with_reducible assumption) (by omega)) (by walk_at "mine above") _ _ (by k_asm) (by walk_at "mine drop")
  · exact hret.nn (due_7e (by with_reducible assumption) (by omega)) (by walk_at "mine above") _ _ (by k_asm) (by walk_at "mine drop")
  · exact hret.ns (due_7 (by with_reducible assumption) (by omega) (by with_reducible assumption) (has_same (by with_reducible assumption) (by with_reducible assumption) (by with_reducible assumption))) (by walk_at "mine above") _ _ (by k_asm) (by walk_at "mine drop")
  · exact hret.fn (due_7n (by with_reducible assumption) (by omega) (by with_reducible assumption) (by with_reducible assumption)) (by walk_at "mine above") _ _ (by k_asm) (by walk_at "mine drop")
  · obtain rfl : way = 8 := way8 hw hw8 (by assumption) (by assumption) (by assumption) (by assumption) (by assumption) (by assumption) (by assumption) (by assumption)
    exact hret.sb (due_8 (by with_reducible assumption) rfl) (by walk_at "mine above") (And.left (by with_reducible assumption)) _ _ (by k_asm) (by walk_at "mine drop")

end
section
open PySem.Calls PySem.Spec
/-- a contract of a def that catches what its callees raise, called from the law's own frame -/
noncomputable def CtrA (w : World) (f : Addr) (led : Led) (vs : List Value) (cost : Nat) (post : (Value → Led → Prop) → Prop) : Prop :=
  ∀ (mean : ExcName → Option Value) (mg mb : Str → Option Value) (dp un : Nat) (gd : Option (List Code)) (cn : Str) (cs : Scope) (a : Addr) (ccd : Value) (cl : List (Str × Addr)) (A₀ : Around) (base h₀ : Heap) (L : Addr) (m : Str → Option Value) (sh : Heap) (sg : Array GenState) (sd : Drawn) (sk : Nat) (so : OsState)
    (Q E : Value → Shared → Prop),
    Below A₀ base [] h₀ → Fr h₀ L sh m → (Mine.hd0.heap_1 w.params).In h₀ → News h₀ L sh led → Top vw lo mean mg mb h₀ → cs.kind = .function → dp + cost < recursionLimit → un + 8 * cost < cLine →
    (Mine.hd0.heap_1 w.params).In base → Top vw lo mean mg mb base →
    post (fun r led' => ∀ h' tk', Fr h₀ L h' m → News h₀ L h' led' → Q r ⟨h', sg, sd, tk', so⟩) →
    wpAny (model prg w) (top none dp un gd cn cs L a ccd cl []) (call (.ref f) vs) Q E ⟨sh, sg, sd, sk, so⟩
theorem useA {w : World} {fn : Addr} {led : Led} {vs : List Value} {cost : Nat} {post : (Value → Led → Prop) → Prop} (C : CtrA w fn led vs cost post)
    {mean : ExcName → Option Value} {mg mb : Str → Option Value} {dp un : Nat} {gd : Option (List Code)} {cn : Str} {cs : Scope} {a : Addr} {ccd : Value} {cl : List (Str × Addr)} {A₀ : Around} {base h₀ : Heap} {L : Addr} {m : Str → Option Value} {s : Shared} {Q E : Value → Shared → Prop}
    {A : Around} {av : List Value} (hV : av = vs) (hA : A = top none dp un gd cn cs L a ccd cl []) (B : Below A₀ base [] h₀) (F : Fr h₀ L s.heap m) (X : (Mine.hd0.heap_1 w.params).In h₀) (N : News h₀ L s.heap led) (T : Top vw lo mean mg mb h₀) (K : cs.kind = .function) (D : dp + cost < recursionLimit) (U : un + 8 * cost < cLine)
    (XB : (Mine.hd0.heap_1 w.params).In base) (TB : Top vw lo mean mg mb base)
    (hret : post (fun r led' => ∀ h' tk', Fr h₀ L h' m → News h₀ L h' led' → Q r { s with heap := h', toks := tk' })) :
    wpAny (model prg w) A (call (.ref fn) av) Q E s :=
  by subst hA hV; exact C _ _ _ _ _ _ _ _ _ _ _ _ _ _ _ _ _ _ _ _ _ _ _ B F X N T K D U XB TB hret
section
variable {prog : Program} {w : World} {A₀ A : Around} {s : Shared} {base h₀ : Heap} {L : Addr} {m : Str → Option Value} {env : Env} {news : List (Addr × Obj)} {K : Frag} {p : Program} {loose : List Str} {mean : ExcName → Option Value} {mg mb : Str → Option Value}
    {R : Result → Shared → Prop} {name qual : Str} {params : Arguments} {body : List Stmt} {scope : Scope} {dV kV doc pm cdv ct oc : Value} {an od : Option Addr} {osl : Array (Option Value)} {f : Addr} {args : Args} {binds : List (Str × Value)}
theorem code_defA (B : Below A₀ base [] h₀) (F : Fr h₀ L s.heap m) (X₀ : K.In h₀) (N : News h₀ L s.heap news) (T : Top p loose mean mg mb h₀) (hA : A.frames = some [env]) (hf : env.frame = some L) (hke : env.scope.kind = .function)
    (ho : K.lookup f = some ⟨oc, od, .func (fnOf name qual params body scope dV kV doc pm an cdv ct), osl⟩) (hcd : codeIn K cdv qual = true) (hroom : A.depth < recursionLimit)
    (hbind : BindsTo s (fnOf name qual params body scope dV kV doc pm an cdv ct) args binds) (hloc : ∀ y ∈ binds, scope.names.lookup y.1 = some .local)
    (h : ∀ g L' h₁, Fr h₀ L g m → Fr g L' h₁ (fun y => binds.reverse.lookup y) → News g L' h₁ news → Below A base [env] g → K.In g → Top p loose mean mg mb g → KtsDicts ([env].filterMap (·.frame)) g →
      wpAny (model prog w) (A.deeper (envOf qual scope L' f cdv)) (execs body (envOf qual scope L' f cdv))
        (fun fl s' => LeaveS0 ([env].filterMap (·.frame)) h₀ L m g R (match fl with | .ret v => v | _ => .none) s')
        (fun e s' => wpAny (model prog w) (A.deeper (envOf qual scope L' f cdv)) (leaving (envOf qual scope L' f cdv) e) (fun _ s'' => R (.error e) s'') (fun e' s'' => R (.error e') s'') s')
        { s with heap := h₁, toks := s.toks + binds.length })
    (hco : scope.isCoroutine = false) (hgen : scope.isGenerator = false) (hk : scope.kind = .function)
    (hcell : ∀ x ∈ scope.names, x.2 ≠ .cell) : codeAny (model prog w) A (.call (.ref f) args) R s := by
  have X := X₀.keeps F.keep
  obtain ⟨FG, B₂, st, _⟩ := groundX (R := R) B F N hA hf hke
  refine codeAny_call_def (fd := fnOf name qual params body scope dV kV doc pm an cdv ct) (body := body) (binds := binds) hroom (X _ _ ho) rfl (T.nolimit.keeps F.keep) (codeRec_of X hcd) rfl hbind hcell hloc (fun h₁ hns hk₁ => ?_) hco hgen hk
  have hfs : [env].filterMap (·.frame) = [L] := by simp [hf]
  obtain ⟨oL, es, ep, hLg, hLd, hLk, hLf⟩ := FG.ns
  refine wpAny_mono (h _ s.heap.objs.size h₁ FG ⟨hns, fun b o e => hk₁ b o (of_hideAll _ e), Nat.le_of_eq (hideAll_size _ _)⟩
    (fun p hp => ⟨hk₁ _ _ (N p hp).1, Nat.ne_of_lt (Heap.lt_size (N p hp).1), hideAll_none _ (List.mem_map_of_mem hp)⟩) B₂ (X₀.keeps st) (T.keeps st) (fun b hb => by
      rw [hfs, List.mem_singleton] at hb
      subst hb
      exact ⟨oL, es, ep, hLg, hLd⟩)) (fun fl s' hl => ?_) fun _ _ y => y
  obtain ⟨g', L', m', news', T', F', N', k⟩ := hl
  rw [hfs] at T'
  have nL₀ : h₀.get? L = none := kts_self F
  obtain ⟨sl, hs⟩ := T'.up hLg
  refine k ⟨⟨_, es, ep, F'.keep _ _ hs, hLd, hLk, hLf⟩, fun b o e => F'.keep b o (T'.other b o (st b o e) (fun q => by
    rw [List.mem_singleton] at q
    rw [q, nL₀] at e
    cases e)), F.above⟩ fun p hp => ⟨(N' p hp).1, fun q => ?_, ?_⟩
  · have := (N' p hp).2.2; rw [q, hs] at this; cases this
  · cases q : h₀.get? p.1 with
    | none => rfl
    | some o =>
      obtain ⟨sl', hs'⟩ := T'.up (st _ _ q)
      have := (N' p hp).2.2
      rw [hs'] at this
      cases this
end
@[reducible] def AskPost (w : World) (way : Int) (T : Str) (p : Int) (x dx : Addr) (k1 t1 k2 : Tok) (rest : Led) (k : Value → Led → Prop) : Prop :=
  (∀ z v1 v2 t' pl f b q, due way T p = (pl, .inl f, b) → (b = some q ∨ b = none) → p ≤ q → q ≤ T.length → (∃ t, v1 = pl.v t) → (∃ t, v2 = f.v t) → (∀ r ∈ (x, instObj 237 dx) :: (dx, scD w k1 T t1 k2 q t') :: rest, @LT.lt Nat _ r.1 z) → k (.ref z) ((z, tup #[v1, v2]) :: (x, instObj 237 dx) :: (dx, scD w k1 T t1 k2 q t') :: rest)) ∧
  (∀ z y v1 v2 v3 t' pl f g b q, due way T p = (pl, .inr (f, g), b) → (b = some q ∨ b = none) → p ≤ q → q ≤ T.length → (∃ t, v1 = pl.v t) → (∃ t, v2 = f.v t) → (∃ t, v3 = g.v t) → (∀ r ∈ (y, tup #[v2, v3]) :: (x, instObj 237 dx) :: (dx, scD w k1 T t1 k2 q t') :: rest, @LT.lt Nat _ r.1 z) → (∀ r ∈ (x, instObj 237 dx) :: (dx, scD w k1 T t1 k2 q t') :: rest, @LT.lt Nat _ r.1 y) → k (.ref z) ((z, tup #[v1, .ref y]) :: (y, tup #[v2, v3]) :: (x, instObj 237 dx) :: (dx, scD w k1 T t1 k2 q t') :: rest))
/-- what is in flight when an ask is refused -/
def AskedR (w : World) (way : Int) (T : Str) (p : Int) (x dx : Addr) (k1 t1 k2 : Tok) (rest : Led) (base g : Heap) (L : Addr) (m : Str → Option Value) (l : List Env) (s : Shared) (e : Value) (s' : Shared) : Prop :=
  ∃ e9 d9 a1 a2 msg tm n tp q t9 cx b g9 h9 tk9, e = .ref e9 ∧ s' = ⟨h9, s.gens, s.drawn, tk9, s.os⟩ ∧ due way T p = (.int n, .inl .none, b) ∧ (b = some q ∨ b = none) ∧ p ≤ q ∧ q ≤ T.length ∧ Fr g L g9 m ∧
    Flew base g9 l e9 (XP 63 d9 cx) ((d9, dictOf [⟨PyData.keyHash w.params (Str.ofString "message"), .str (Str.ofString "message") a1, .str msg tm⟩, ⟨PyData.keyHash w.params (Str.ofString "place"), .str (Str.ofString "place") a2, .int n tp⟩] 2) :: (x, instObj 237 dx) :: (dx, scD w k1 T t1 k2 q t9) :: rest) h9 ∧ g9.UpToSlots h9
theorem sealA {α : Type} {M : Model} {A : Around} {env : Env} {t : Sem α} {Q : α → Shared → Prop} {E : Value → Shared → Prop} {s : Shared} {A₀ : Around} {outer : List Env} {w : World} {base g : Heap} {L : Addr} {m : Str → Option Value} (way : Int) (T : Str) (p : Int) (x dx : Addr) (k1 t1 k2 : Tok) (rest : Led)
    (_ : Fr g L s.heap m) (_ : Below A₀ base outer g) (h1 : let E' := AskedR w way T p x dx k1 t1 k2 rest base g L m (env :: outer) s; wpAny M (A.deeper env) t Q E' s)
    (h2 : ∀ e s', AskedR w way T p x dx k1 t1 k2 rest base g L m (env :: outer) s e s' → E e s') : wpAny M (A.deeper env) t Q E s :=
  wpAny_mono h1 (fun _ _ x => x) h2

end
local macro_rules | `(tactic| walk_at "call ref") => `(tactic| (apply use (C_separator ..); walk_at "mine go"))
local macro_rules | `(tactic| walk_at "call ref") => `(tactic| (apply use (C_looks ..); walk_at "mine go"))
local macro_rules | `(tactic| walk_at "call ref") => `(tactic| (apply useE (C_number ..); walk_at "mine goE"))
local macro_rules | `(tactic| walk_at "call ref") => `(tactic| (apply useE (C_flag ..); walk_at "mine goE"))
local macro_rules | `(tactic| walk_at "call ref") => `(tactic| (apply useE (C_command ..); walk_at "mine goE"))

section
local macro_rules | `(tactic| walk_at "mine fresh") => `(tactic| first | walk_at "mine above" | (refine List.forall_mem_cons.mpr ⟨by (try dsimp only); omega, ?_⟩; walk_at "mine fresh"))
local macro_rules | `(tactic| k_enter) => `(tactic| (refine' code_defA ?B ?F ?X₀ ?N ?T ?hA ?hf ?hke ?ho ?hcd ?hroom ?hbind ?hloc ?_ ?hco ?hgen ?hk ?hcell; walk_at "mine e"; (case hcell => decide); (case hloc => exact locs rfl); k_whole; intro g' L' h' FG' F' N' B' X' T' D'; walk_at "mine t"))
theorem C_asked {w : World} {x dx : Addr} {k1 k2 t1 t2 tw : Tok} {T : Str} {p way : Int} {rest : Led} (hw : 0 ≤ way) (hw8 : way ≤ 8) (hT : T.length ≤ 600) (h0 : 0 ≤ p) (h1 : p ≤ T.length) (hx : @LT.lt Nat _ dx x) (hr : ∀ q ∈ rest, q.1 ≠ dx) :
    CtrA w 309 ((x, instObj 237 dx) :: (dx, scD w k1 T t1 k2 p t2) :: rest) [.int way tw, .ref x] 60 (AskPost w way T p x dx k1 t1 k2 rest) := by
  unfold CtrA
  intro mean mg mb dp un gd cn cs ad ccd cl A₀ base h₀ L m sh sg sd sk so Q E B F X N Tp hk hdp hun XB TB hret
  k_steps
  refine ⟨wpAny_Try_except ?_⟩
  rename Below _ _ _ _ => B9
  rename KtsDicts _ _ => D9
  rename Fr _ _ _ _ => F9
  refine sealA (w := w) way T p x dx k1 t1 k2 rest F9 B9 ?_ ?_
  rotate_left
  · rintro e s' ⟨e9, d9, a1, a2, msg9, tm9, n9, tp9, q9, t9, cx9, b9, g9, h9, tk9, he9, hs9, hdue, hb9, hq9, hl9, FG9, Fw9, up9⟩
    subst he9 hs9
    refine caughtP (C := 63) (KF := Mine.hd0.heap_1 w.params) (s' := ⟨_, _, _, _, _⟩) keep_XP (fun o ho => ho.1) Fw9 FG9 B9 up9 XB TB D9 (by k_dflt k_is) (by kts_isx) ?_
    intro h8 g8 oe tk8 T8 F8 hP8 hd8 N8 hne8 K8 X8 TB8 D8
    obtain ⟨oc, odc, odt, osl⟩ := oe
    obtain ⟨hc1, hc2, vs, hvs, hcx⟩ := hP8
    dsimp only at hc1 hc2 hvs
    subst hc1 hc2 hvs
    k_steps
    exact hret.1 _ (.int _ _) .none _ _ _ _ _ hdue hb9 hq9 hl9 ⟨_, rfl⟩ ⟨0, rfl⟩ (by walk_at "mine fresh") _ _ (by k_asm) (by walk_at "mine drop")
  intro ek9
  k_steps
  all_goals try (rename way = _ => hway; subst hway)
  · exact hret.1 _ .none (.none) _ _ _ _ _ (due_0 (by with_reducible assumption)) (Or.inl rfl) (by omega) (by omega) ⟨0, rfl⟩ ⟨0, rfl⟩ (by walk_at "mine fresh") _ _ (by k_asm) (by walk_at "mine drop")
  · exact hret.1 _ .none (.bool _) _ _ _ _ _ (due_1 (by with_reducible assumption)) (Or.inl rfl) (by omega) (by omega) ⟨0, rfl⟩ ⟨0, rfl⟩ (by walk_at "mine fresh") _ _ (by k_asm) (by walk_at "mine drop")
  · exact hret.1 _ .none (.bool _) _ _ _ _ _ (due_2 rfl) (Or.inl rfl) (by omega) (by omega) ⟨0, rfl⟩ ⟨0, rfl⟩ (by walk_at "mine fresh") _ _ (by k_asm) (by walk_at "mine drop")
  · exact hret.1 _ .none (.int _ _) _ _ _ _ _ (due_3 (by with_reducible assumption)) (Or.inl rfl) (by omega) (by omega) ⟨0, rfl⟩ ⟨_, rfl⟩ (by walk_at "mine fresh") _ _ (by k_asm) (by walk_at "mine drop")
  · exact hret.1 _ .none (.none) _ _ _ _ _ (due_4 (by with_reducible assumption)) (Or.inl rfl) (by omega) (by omega) ⟨0, rfl⟩ ⟨0, rfl⟩ (by walk_at "mine fresh") _ _ (by k_asm) (by walk_at "mine drop")
  · refine hret.2 _ _ .none (.int _ _) (.int _ _) _ _ _ _ _ _ (due_5 (by with_reducible assumption) (by with_reducible assumption)) (Or.inl rfl) (by omega) (by omega) ⟨0, rfl⟩ ⟨_, rfl⟩ ⟨_, rfl⟩ ?_ ?_ _ _ (by k_asm) (by walk_at "mine drop")
    all_goals walk_at "mine fresh"
  · refine ⟨?_⟩
    refine ⟨?_, ?_⟩
    · intro e9 d9 a1 a2 msg9 tm9 t9 cx9 tp9 hn9 g9 h9 tk9 FG9 Fw9 up9
      exact ⟨_, _, _, _, _, _, _, _, _, _, _, _, _, _, _, rfl, rfl, due_5n hn9, Or.inl rfl, by omega, by omega, FG9, Fw9, up9⟩
    · intro e9 d9 a1 a2 msg9 tm9 e8 t9 cx9 tp9 hn9 he9 hl9 hd9 g9 h9 tk9 FG9 Fw9 up9
      exact ⟨_, _, _, _, _, _, _, _, _, _, _, _, _, _, _, rfl, rfl, due_5b hn9 hd9, Or.inr rfl, by omega, by omega, FG9, Fw9, up9⟩
  · exact hret.1 _ .none (.int _ _) _ _ _ _ _ (due_6 (by with_reducible assumption) (by with_reducible assumption) (Or.inl rfl)) (Or.inl rfl) (by omega) (by omega) ⟨0, rfl⟩ ⟨_, rfl⟩ (by walk_at "mine fresh") _ _ (by k_asm) (by walk_at "mine drop")
  · exact hret.1 _ .none (.int _ _) _ _ _ _ _ (due_6 (by with_reducible assumption) (by with_reducible assumption) (Or.inr rfl)) (Or.inl rfl) (by omega) (by omega) ⟨0, rfl⟩ ⟨_, rfl⟩ (by walk_at "mine fresh") _ _ (by k_asm) (by walk_at "mine drop")
  · refine ⟨?_⟩
    intro e9 d9 a1 a2 msg9 tm9 hn9 g9 h9 tk9 FG9 Fw9 up9
    exact ⟨_, _, _, _, _, _, _, _, _, _, _, _, _, _, _, rfl, rfl, due_6n hn9, Or.inl rfl, by omega, by omega, FG9, Fw9, up9⟩
  · exact hret.1 _ .none (.none) _ _ _ _ _ (due_7e (by with_reducible assumption) (by with_reducible assumption)) (Or.inl rfl) (by omega) (by omega) ⟨0, rfl⟩ ⟨0, rfl⟩ (by walk_at "mine fresh") _ _ (by k_asm) (by walk_at "mine drop")
  · exact hret.1 _ .none (.str _ _) _ _ _ _ _ (due_7 (by with_reducible assumption) (by with_reducible assumption) (by with_reducible assumption) (by with_reducible assumption)) (Or.inl rfl) (by omega) (by omega) ⟨0, rfl⟩ ⟨_, rfl⟩ (by walk_at "mine fresh") _ _ (by k_asm) (by walk_at "mine drop")
  · refine ⟨?_⟩
    intro e9 d9 a1 a2 msg9 tm9 q9 t9 hq9 hp9 hl9 hn9 g9 h9 tk9 FG9 Fw9 up9
    exact ⟨_, _, _, _, _, _, _, _, _, _, _, _, _, _, _, rfl, rfl, due_7n hq9 hl9 rfl hn9, Or.inl rfl, by omega, by omega, FG9, Fw9, up9⟩
  · obtain rfl : way = 8 := way8 hw hw8 (by assumption) (by assumption) (by assumption) (by assumption) (by assumption) (by assumption) (by assumption) (by assumption)
    refine hret.2 _ _ .none (.str _ _) (.bool _) _ _ _ _ _ _ (due_8 (by with_reducible assumption) rfl) (Or.inl rfl) (by omega) (by omega) ⟨0, rfl⟩ ⟨_, rfl⟩ ⟨0, rfl⟩ ?_ ?_ _ _ (by k_asm) (by walk_at "mine drop")
    all_goals walk_at "mine fresh"

end
section
/-- a contract with none being handled, that reads the law's own list of ints -/
noncomputable def CtrS (w : World) (sc : Addr) (vs : List Value) (ns : List Int) (f : Addr) (led : Led) (args : List Value) (cost : Nat) (post : (Value → Led → Prop) → Prop) : Prop :=
  ∀ (mean : ExcName → Option Value) (mg mb : Str → Option Value) (dp un : Nat) (gd : Option (List Code)) (cn : Str) (cs : Scope) (a : Addr) (ccd : Value) (cl : List (Str × Addr)) (outer : List Env) (A₀ : Around) (base h₀ : Heap) (L : Addr) (m : Str → Option Value) (sh : Heap) (sg : Array GenState) (sd : Drawn) (sk : Nat) (so : OsState)
    (Q E : Value → Shared → Prop),
    Below A₀ base outer h₀ → Fr h₀ L sh m → (Mine.hd0.heap_1 w.params).In h₀ → News h₀ L sh led → Top vw lo mean mg mb h₀ → cs.kind = .function → dp + cost < recursionLimit → un + 8 * cost < cLine →
    base.IsList sc vs.toArray → IntsAre vs ns →
    post (fun r led' => ∀ h' tk', Fr h₀ L h' m → News h₀ L h' led' → Q r ⟨h', sg, sd, tk', so⟩) →
    wpAny (model prg w) (top none dp un gd cn cs L a ccd cl outer) (call (.ref f) args) Q E ⟨sh, sg, sd, sk, so⟩
theorem useS {w : World} {sc : Addr} {vs : List Value} {ns : List Int} {fn : Addr} {led : Led} {args : List Value} {cost : Nat} {post : (Value → Led → Prop) → Prop} (C : CtrS w sc vs ns fn led args cost post)
    {mean : ExcName → Option Value} {mg mb : Str → Option Value} {dp un : Nat} {gd : Option (List Code)} {cn : Str} {cs : Scope} {a : Addr} {ccd : Value} {cl : List (Str × Addr)} {outer : List Env} {A₀ : Around} {base h₀ : Heap} {L : Addr} {m : Str → Option Value} {s : Shared} {Q E : Value → Shared → Prop}
    {A : Around} {av : List Value} (hV : av = args) (hA : A = top none dp un gd cn cs L a ccd cl outer) (B : Below A₀ base outer h₀) (F : Fr h₀ L s.heap m) (X : (Mine.hd0.heap_1 w.params).In h₀) (N : News h₀ L s.heap led) (T : Top vw lo mean mg mb h₀) (K : cs.kind = .function) (D : dp + cost < recursionLimit) (U : un + 8 * cost < cLine)
    (hL : base.IsList sc vs.toArray) (hI : IntsAre vs ns)
    (hret : post (fun r led' => ∀ h' tk', Fr h₀ L h' m → News h₀ L h' led' → Q r { s with heap := h', toks := tk' })) :
    wpAny (model prg w) A (call (.ref fn) av) Q E s :=
  by subst hA hV; exact C _ _ _ _ _ _ _ _ _ _ _ _ _ _ _ _ _ _ _ _ _ _ _ _ B F X N T K D U hL hI hret
theorem IsList_keep {h₀ h : Heap} {L a : Addr} {m : Str → Option Value} {vs : Array Value} (F : Fr h₀ L h m) (hL : h₀.IsList a vs) : h.IsList a vs := by
  obtain ⟨o, ho, r⟩ := hL
  exact ⟨o, F.keep _ _ ho, r⟩
section
variable {prog : Program} {w : World} {A : Around} {E : Value → Shared → Prop} {s : Shared} {l : Addr} {vs : List Value} {Q : Value → Shared → Prop}
theorem len_news (hl : s.heap.IsList l vs.toArray) (hf : vs.length < 100) (h : Q (.int (vs.length : Int) (s.toks + 1)) { s with toks := s.toks + 1 + 1 }) : wpAny (model prog w) A (call (.builtin "len") [.ref l]) Q E s := by
  refine PyProof.Rows.len_list hl ?_ ?_
  · rw [List.size_toArray]; omega
  · rw [List.size_toArray]; exact h
theorem item_news {value slice : PySem.Expr} {k : Int} {u : Tok} (hl : s.heap.IsList l vs.toArray) (hf : vs.length < 100) (h0 : 0 ≤ k) (h1 : k < (vs.length : Int)) (h : ∀ hk : k.toNat < vs.length, Q vs[k.toNat] s)
    (hs : subscripted slice false (.ref l) (.int k u) = operate [.ref l, .int k u] (getItem (.ref l) (.int k u))) :
    wpAny (model prog w) A (subscriptTail value slice (.ref l) (.int k u)) Q E s :=
  item_litK hl h0 (by omega) (List.getElem?_eq_getElem (by omega)) (h (by omega)) hs
end

end
section
theorem C_pool {w : World} {sc : Addr} {vs : List Value} {ns : List Int} {led : Led} {k : Int} {tk : Tok} (h0 : 0 ≤ k) (h1 : k ≤ 1) (hn : ns.length ≤ 63) :
    CtrS w sc vs ns 248 led [.ref sc, .int k tk] 4 (fun kk => ∀ z a b ta tb c, 0 ≤ a → 0 ≤ b → b < 2147483647 → (∀ q ∈ led, @LT.lt Nat _ q.1 z) → kk (.ref z) ((z, srcObj a b ta tb c) :: led)) := by
  unfold CtrS
  intro mean mg mb dp un gd cn cs ad ccd cl outer A₀ base h₀ L m sh sg sd sk so Q E B F X N Tp hk hdp hun hL hI hret
  k_steps
  all_goals
    refine hret _ _ _ _ _ _ ?_ ?_ ?_ (by with_reducible assumption) _ _ (by k_asm) (by walk_at "mine drop")
    · omega
    · exact Int.fmod_nonneg_of_pos _ (by decide)
    · exact Int.fmod_lt_of_pos _ (by decide)

end
local macro_rules | `(tactic| walk_at "call ref") => `(tactic| (apply use (C_take ..); walk_at "mine go1"))
local macro_rules | `(tactic| walk_at "mine len") => `(tactic| ((with_reducible show wpAny _ _ (call (Value.builtin "len") [Value.ref _]) _ _ _); k_dflt (refine' len_news (News.isList (by k_asm) (by k_mem)) (by omega) ?_; k_whole)))
local macro_rules | `(tactic| walk_at "mine item") => `(tactic| ((with_reducible show wpAny _ _ (subscriptTail _ _ (Value.ref _) (Value.int _ _)) _ _ _); k_dflt (refine' item_news (News.isList (by k_asm) (by k_mem)) (by omega) (by omega) (by omega) ?_ (by walk_at "mine u"); k_whole); intros))

section
local macro_rules | `(tactic| walk_at "call builtin:len") => `(tactic| walk_at "mine len")
local macro_rules | `(tactic| walk_at "subscriptTail Name Call ref int") => `(tactic| walk_at "mine item")
theorem C_one0 {w : World} {src l : Addr} {c cl : Nat} {a b : Int} {ta tb : Tok} {vs : List Value} {rest : Led} (ha : 0 ≤ a) (hb : 0 ≤ b) (hb2 : b < 2147483647) (hn : 0 < vs.length) (hn2 : vs.length < 100) (hl : l ≠ src) (hr : ∀ p ∈ rest, p.1 ≠ src) :
    Ctr w 262 ((src, srcObj a b ta tb c) :: (l, listOf vs.toArray cl) :: rest) [.ref src, .ref l] 4
      (fun k => ∀ (r : Int) a' b' ta' tb', 0 ≤ r → (h : r.toNat < vs.length) → 0 ≤ a' → 0 ≤ b' → b' < 2147483647 → k vs[r.toNat] ((src, srcObj a' b' ta' tb' c) :: (l, listOf vs.toArray cl) :: rest)) := by
  unfold Ctr
  intro mean mg mb hd dp un gd cn cs ad ccd cls outer A₀ base h₀ L m sh sg sd sk so Q E B F X N T hk hdp hun hret
  have hr2 : ∀ p ∈ (l, listOf vs.toArray cl) :: rest, p.1 ≠ src := List.forall_mem_cons.mpr ⟨hl, hr⟩
  k_steps
  refine hret _ _ _ _ _ ?_ (by with_reducible assumption) ?_ ?_ ?_ _ _ (by k_asm) (by k_asm)
  all_goals with_reducible assumption
theorem C_one {w : World} {src l : Addr} {c cl : Nat} {a b : Int} {ta tb : Tok} {vs : List Value} {rest : Led} (ha : 0 ≤ a) (hb : 0 ≤ b) (hb2 : b < 2147483647) (hn : 0 < vs.length) (hn2 : vs.length < 100) (hm : (l, listOf vs.toArray cl) ∈ rest) (hr : ∀ p ∈ rest, p.1 ≠ src) :
    Ctr w 262 ((src, srcObj a b ta tb c) :: rest) [.ref src, .ref l] 4
      (fun k => ∀ (r : Int) a' b' ta' tb', 0 ≤ r → (h : r.toNat < vs.length) → 0 ≤ a' → 0 ≤ b' → b' < 2147483647 → k vs[r.toNat] ((src, srcObj a' b' ta' tb' c) :: rest)) := by
  unfold Ctr
  intro mean mg mb hd dp un gd cn cs ad ccd cls outer A₀ base h₀ L m sh sg sd sk so Q E B F X N T hk hdp hun hret
  refine (C_one0 (l := l) (c := c) (cl := cl) (ta := ta) (tb := tb) ha hb hb2 hn hn2 (hr _ hm) hr) mean mg mb hd dp un gd cn cs ad ccd cls outer A₀ base h₀ L m sh sg sd sk so Q E B F X (fun q hq => N q ?_) T hk hdp hun ?_
  rotate_left
  intro r a' b' ta' tb' h0 h1 h2 h3 h4 h' tk' F' N'
  refine hret r a' b' ta' tb' h0 h1 h2 h3 h4 h' tk' F' (fun q hq => N' q ?_)
  rotate_left
  · rcases List.mem_cons.mp hq with rfl | hq
    · exact List.Mem.head _
    · rcases List.mem_cons.mp hq with rfl | hq
      · exact List.Mem.tail _ hm
      · exact List.Mem.tail _ hq
  · rcases List.mem_cons.mp hq with rfl | hq
    · exact List.Mem.head _
    · exact List.Mem.tail _ (List.Mem.tail _ hq)

end
section
open PySem.Calls PySem.Spec PyProof.Rows.LCg PyProof.Rows.LCt
section
variable {prog : Program} {w : World} {A : Around} {E : Value → Shared → Prop} {s : Shared} {h₀ : Heap} {L : Addr} {m : Str → Option Value} {env : Env}
/-- a comprehension by what holds between its turns -/
theorem rest_inv {elt : Expr} {x : Str} {scope : Scope} {cl : List (Str × Addr)} {S : List (Addr × Obj) → Prop} {P : Nat → Value → Prop} {Fin : List Value → List (Addr × Obj) → Prop} {news : List (Addr × Obj)} {n : Nat} (J : Nat → List Value → List (Addr × Obj) → Prop)
    (turn : ∀ i v I oI C oC D m₂ ys nw h tk (E' : Value → Shared → Prop), i < n → P i v → NsObj oC m₂ → m₂ x = some v → Fr h₀ L h m → News h₀ L h ((I, oI) :: (C, oC) :: (D, lst ys) :: nw) → Off3 I C D nw → ((@Ne Nat I C) ∧ (@Ne Nat I D) ∧ (@Ne Nat C D)) → J i ys nw →
      wpAny (model prog w) A (eval elt (compEnvC scope cl C env)) (CompEnd h₀ L m { s with heap := h, toks := tk } I oI C oC D (lst ys) S (fun y nw' => J (i + 1) (ys ++ [y]) nw')) E' { s with heap := h, toks := tk })
    (fin : ∀ ys nw, J n ys nw → Fin ys nw) (hJ : J 0 [] news) : CompRest prog w A h₀ L m env elt x scope cl s S P Fin n 0 [] news := by
  have key : ∀ (j i : Nat) (ys : List Value) (nw : List (Addr × Obj)), i + j = n → J i ys nw → CompRest prog w A h₀ L m env elt x scope cl s S P Fin j i ys nw := by
    intro j
    induction j with
    | zero =>
      intro i ys nw hi hy
      obtain rfl : i = n := by omega
      exact CompRest.zero (fin ys nw hy)
    | succ j ih =>
      intro i ys nw hi hy
      refine CompRest.succ ?_
      intro v I oI C oC D m₂ h tk E' hv hC hx F N off ne
      refine wpAny_mono (turn i v I oI C oC D m₂ ys nw h tk E' (by omega) hv hC hx F N off ne hy) (fun y s₂ hr => ?_) fun _ _ e => e
      obtain ⟨h', tk', nw', e, F', N', off', hS, hJ'⟩ := hr
      exact ⟨h', tk', nw', e, F', N', off', hS, ih (i + 1) _ _ (by omega) hJ'⟩
  exact key n 0 [] news (by omega) hJ
/-- a piece of a text -/
def Piece (y : Value) : Prop := ∃ S t, y = .str S t ∧ S.length ≤ 11
theorem pieces : ∀ {ys : List Value}, (∀ y ∈ ys, Piece y) → ∃ l : List (Str × Tok), ys = strValues l ∧ l.length = ys.length ∧ ((l.map (·.1)).map (·.length)).sum ≤ 11 * ys.length
  | [], _ => ⟨[], rfl, rfl, by simp⟩
  | y :: r, h => by
    obtain ⟨l, e, hl, hs⟩ := pieces (ys := r) (fun z hz => h z (.tail _ hz))
    obtain ⟨S, t, rfl, hS⟩ := h y (.head _)
    refine ⟨(S, t) :: l, by rw [e]; rfl, by simp [hl], ?_⟩
    simp only [List.map_cons, List.sum_cons, List.length_cons]
    omega
theorem join_pieces {D : Addr} {ys : List Value} {t : Tok} {Q : Value → Shared → Prop} (hl : s.heap.IsList D ys.toArray) (hp : ∀ y ∈ ys, Piece y) (hn : ys.length ≤ 8)
    (h : ∀ S t' k, S.length ≤ 600 → Q (.str S t') { s with toks := k }) : wpAny (model prog w) A (call (.builtin "str.join") [.str (Str.ofString "") t, .ref D]) Q E s := by
  obtain ⟨l, rfl, h1, h2⟩ := pieces hp
  have h0 : (Str.ofString "").length = 0 := rfl
  refine SC.join hl rfl (joinOk_of (by rw [h0]; omega)) (fun t' k => h _ t' k ?_)
  have h3 := PySem.StrLaws.join_length_le (Str.ofString "") (l.map (·.1))
  rw [h0] at h3
  show (PySem.Builtin.Str.glued _ _).length ≤ 600
  rw [PySem.StrLaws.glued_eq_join]
  omega
end
def JDrawn (src : Addr) (c : Nat) (X : Led) (i : Nat) (ys : List Value) (nw : Led) : Prop :=
  ys.length = i ∧ (∀ y ∈ ys, Piece y) ∧ ∃ a b ta tb, 0 ≤ a ∧ 0 ≤ b ∧ b < 2147483647 ∧ nw = (src, srcObj a b ta tb c) :: X
theorem jdrawn0 {src : Addr} {c : Nat} {X : Led} {a b : Int} {ta tb : Tok} (ha : 0 ≤ a) (hb : 0 ≤ b) (hc : b < 2147483647) : JDrawn src c X 0 [] ((src, srcObj a b ta tb c) :: X) :=
  ⟨rfl, fun _ hy => (nomatch hy), a, b, ta, tb, ha, hb, hc, rfl⟩
theorem jdrawn1 {src : Addr} {c : Nat} {X : Led} {i : Nat} {ys : List Value} {y : Value} {a b : Int} {ta tb : Tok} (h1 : ys.length = i) (h2 : ∀ y ∈ ys, Piece y) (hy : Piece y) (ha : 0 ≤ a) (hb : 0 ≤ b) (hc : b < 2147483647) : JDrawn src c X (i + 1) (ys ++ [y]) ((src, srcObj a b ta tb c) :: X) := by
  refine ⟨by simp [h1], fun z hz => ?_, a, b, ta, tb, ha, hb, hc, rfl⟩
  rcases List.mem_append.mp hz with hz | hz
  · exact h2 z hz
  · rw [List.mem_singleton.mp hz]
    exact hy

end
section
local macro_rules | `(tactic| k_enter) => `(tactic| (walk_at "mine enter"; have l9 := l1; walk_at "mine cells"; walk_at "mine t0"))
local macro_rules | `(tactic| k_all) => `(tactic| exact fun q8 hq8 => Nat.ne_of_lt (Nat.lt_of_lt_of_le ((by assumption : ∀ p ∈ _ :: _, @LT.lt Nat _ p.1 _) q8 (List.Mem.tail _ hq8)) (by omega)))
local macro_rules | `(tactic| walk_at "call builtin:str.join") => `(tactic| (k_dflt (refine' join_pieces (News.isList (by k_asm) (by k_mem)) (by assumption) (by omega) ?_; k_whole); intros))
local macro_rules | `(tactic| walk_at "mine pieces") => `(tactic| first | exact List.forall_mem_nil _ | (refine List.forall_mem_cons.mpr ⟨⟨_, _, rfl, by decide +kernel⟩, ?_⟩; walk_at "mine pieces"))
local macro_rules | `(tactic| walk_at "CompSrc") => `(tactic| walk_at "mine stop")
local macro_rules | `(tactic| walk_at "call ref") => `(tactic| (with_reducible refine atC 262 ?_; walk_at "mine stop"))
local macro_rules | `(tactic| k_ne) => `(tactic| (refine neN ?_; (try dsimp only); with_reducible first | exact Ne.symm (And.left (And.left (by assumption))) | exact Ne.symm (And.left (And.right (And.left (by assumption)))) | exact Ne.symm (And.right (And.right (And.left (by assumption))))))
open PyProof.Rows.LCg in
theorem C_drawn {w : World} {src : Addr} {c : Nat} {a b : Int} {ta tb : Tok} {rest : Led} (ha : 0 ≤ a) (hb : 0 ≤ b) (hb2 : b < 2147483647) (hr : ∀ p ∈ rest, p.1 ≠ src) :
    CtrN w 314 ((src, srcObj a b ta tb c) :: rest) [.ref src] 8
      (fun k => ∀ S t a' b' ta' tb', S.length ≤ 600 → 0 ≤ a' → 0 ≤ b' → b' < 2147483647 → k (.str S t) ((src, srcObj a' b' ta' tb' c) :: rest)) := by
  unfold CtrN
  intro mean mg mb dp un gd cn cs ad ccd cls outer A₀ base h₀ L m sh sg sd sk so Q E B F X N T hk hdp hun hret
  k_steps
  refine ⟨?_⟩
  rename Fr _ _ _ _ => F9
  refine LCg.ListComp_U F9 (by with_unfolding_all rfl) (by decide) (by rfl) (by decide) (by rfl) ?_
  k_steps
  rename Fr _ _ _ _ => F9
  rename News _ _ _ _ => N9
  refine ⟨LCg.CompSrc.range rfl F9 N9 (by with_reducible assumption) (small_one (by omega) (by omega) (by omega) (by omega)) (rangeSize_nat _ _) (by rw [PySem.sizeLine_eq]; omega) ?_⟩
  intro hg
  refine rest_inv (JDrawn src c _) ?_ ?_ (jdrawn0 (by with_reducible assumption) (by with_reducible assumption) (by with_reducible assumption))
  · intro i v I oI C oC D m₂ ys nw h tk E' hi hv hC hx F2 N2 off ne hJ
    obtain ⟨t9, rfl⟩ := hv
    obtain ⟨hJ1, hJ2, a9, b9, ta9, tb9, ha9, hb9, hc9, rfl⟩ := hJ
    have off0 := off
    simp only [LCg.Off3] at off
    k_steps
    refine ⟨?_⟩
    first | k_dflt (refine' use (C_one (ta := ta9) (tb := tb9) ha9 hb9 hc9 ?a1 ?a2 ?a3 ?a4) rfl rfl ?B ?F ?X ?N ?T ?K ?D ?U ?_; (case N => walk_at "mine news1"); (case a3 => k_mem); walk_at "mine rest"; (case a1 => exact Nat.le_of_ble_eq_true rfl); (case a2 => exact Nat.le_of_ble_eq_true rfl); (case a4 => k_all); k_whole) | fail "one"
    intro r a8 b8 ta8 tb8 hr0 hrl ha8 hb8 hc8 h8 tk8 F8 N8
    have hpc := (show ∀ y ∈ _, Piece y from by walk_at "mine pieces") _ (List.getElem_mem hrl)
    exact CompEnd.intro F8 N8 ((src, srcObj a8 b8 ta8 tb8 c) :: _) (by walk_at "mine sub") off0 trivial (jdrawn1 hJ1 hJ2 hpc ha8 hb8 hc8)
  · intro ys nw hJ
    intro D h tk F4 N4 off4
    obtain ⟨hJ1, hJ2, a9, b9, ta9, tb9, ha9, hb9, hc9, rfl⟩ := hJ
    k_steps
    exact hret _ _ _ _ _ _ (by with_reducible assumption) ha9 hb9 hc9 _ _ (by k_asm) (by walk_at "mine drop")

end
section
section
variable {prog : Program} {w : World} {A : Around} {E : Value → Shared → Prop} {s : Shared} {Q : Value → Shared → Prop}
open PySem.SeqAt
theorem eq_fl (A : Around) (s : Shared) (f : Fl) (t t' : Tok) : EqAt A s (f.v t) (f.v t') true := by
  cases f with
  | none => exact EqAt.same _
  | bool b => exact EqAt.same _
  | int n =>
    have := EqAt.int_int (A := A) (s := s) n t n t'
    rw [beq_self_eq_true] at this
    exact this
  | str x =>
    have := EqAt.str_str (A := A) (s := s) x t x t'
    rw [beq_self_eq_true] at this
    exact this
theorem ne_two {z z2 : Addr} {a b a2 b2 : Value} (h1 : s.heap.IsTuple z #[a, b]) (h2 : s.heap.IsTuple z2 #[a2, b2]) (hu : A.units < cLine) (ha : EqAt A.in1 s a a2 true) (hb : EqAt A.in1 s b b2 true)
    (h : Q (.bool false) s) : wpAny (model prog w) A (compareOp .NotEq (.ref z) (.ref z2)) Q E s :=
  RcNeAt.tuples (e := fun _ => true) h1 h2 hu (fun j hj _ => by
    have : j = 0 ∨ j = 1 := by have : j < 2 := hj; omega
    rcases this with rfl | rfl
    · exact ha
    · exact hb) prog w E Q h
theorem eq_two {z z2 : Addr} {a b a2 b2 : Value} (h1 : s.heap.IsTuple z #[a, b]) (h2 : s.heap.IsTuple z2 #[a2, b2]) (hu : A.units < cLine) (ha : EqAt A.in1 s a a2 true) (hb : EqAt A.in1 s b b2 true) : EqAt A s (.ref z) (.ref z2) true := by
  by_cases e : z = z2
  · subst e
    exact EqAt.same _
  · exact EqAt.of_refs e (RcAt.tuples (e := fun _ => true) h1 h2 hu (fun j hj _ => by
      have : j = 0 ∨ j = 1 := by have : j < 2 := hj; omega
      rcases this with rfl | rfl
      · exact ha
      · exact hb))
end
theorem AskPost.of1 {w : World} {way : Int} {T : Str} {p q : Int} {x dx : Addr} {k1 t1 k2 : Tok} {rest : Led} {k : Value → Led → Prop} {pl f : Fl} (hd : due way T p = (pl, .inl f, some q))
    (h : ∀ z t t2 t', (∀ r ∈ (x, instObj 237 dx) :: (dx, scD w k1 T t1 k2 q t') :: rest, @LT.lt Nat _ r.1 z) → k (.ref z) ((z, tup #[pl.v t, f.v t2]) :: (x, instObj 237 dx) :: (dx, scD w k1 T t1 k2 q t') :: rest)) : AskPost w way T p x dx k1 t1 k2 rest k := by
  constructor
  · rintro z v1 v2 t' pl' f' b q' hd' hb _ _ ⟨t, rfl⟩ ⟨t2, rfl⟩ hz
    rw [hd] at hd'
    injection hd' with e1 e2
    injection e2 with e2 e3
    injection e2 with e2
    subst e1 e2 e3
    rcases hb with hb | hb
    · injection hb with hb
      subst hb
      exact h z t t2 t' hz
    · cases hb
  · intro z y v1 v2 v3 t' pl' f' g' b q' hd'
    rw [hd] at hd'
    injection hd' with e1 e2
    injection e2 with e2 e3
    cases e2
theorem AskPost.of2 {w : World} {way : Int} {T : Str} {p q : Int} {x dx : Addr} {k1 t1 k2 : Tok} {rest : Led} {k : Value → Led → Prop} {pl f g : Fl} (hd : due way T p = (pl, .inr (f, g), some q))
    (h : ∀ z y t t2 t3 t', (∀ r ∈ (y, tup #[f.v t2, g.v t3]) :: (x, instObj 237 dx) :: (dx, scD w k1 T t1 k2 q t') :: rest, @LT.lt Nat _ r.1 z) → (∀ r ∈ (x, instObj 237 dx) :: (dx, scD w k1 T t1 k2 q t') :: rest, @LT.lt Nat _ r.1 y) → k (.ref z) ((z, tup #[pl.v t, .ref y]) :: (y, tup #[f.v t2, g.v t3]) :: (x, instObj 237 dx) :: (dx, scD w k1 T t1 k2 q t') :: rest)) : AskPost w way T p x dx k1 t1 k2 rest k := by
  constructor
  · intro z v1 v2 t' pl' f' b q' hd'
    rw [hd] at hd'
    injection hd' with e1 e2
    injection e2 with e2 e3
    cases e2
  · rintro z y v1 v2 v3 t' pl' f' g' b q' hd' hb _ _ ⟨t, rfl⟩ ⟨t2, rfl⟩ ⟨t3, rfl⟩ hz hy
    rw [hd] at hd'
    injection hd' with e1 e2
    injection e2 with e2 e3
    injection e2 with e2
    injection e2 with e2 e4
    subst e1 e2 e3 e4
    rcases hb with hb | hb
    · injection hb with hb
      subst hb
      exact h z y t t2 t3 t' hz hy
    · cases hb
abbrev X1 : Str := Str.ofString "-2.50e1exM"
abbrev X2 : Str := Str.ofString " , \r1z "
theorem due_a : due 5 X1 0 = (.none, .inr (.int (-25), .int 1), some 7) := by kernel_rfl
theorem due_b : due 4 X1 7 = (.none, .inl .none, some 7) := by kernel_rfl
theorem due_c : due 1 X2 0 = (.none, .inl (.bool true), some 4) := by kernel_rfl
theorem due_d : due 6 X2 4 = (.none, .inl (.int 1), some 5) := by kernel_rfl
theorem due_e : due 7 X2 5 = (.none, .inl (.str (Str.ofString "z")), some 6) := by kernel_rfl
theorem due_f : due 7 X2 6 = (.none, .inl .none, some 7) := by kernel_rfl
theorem name_first {m : Str → Option Value} {x : Str} {v : Value} (h : m x = some v) : m = fun y => if y = x then some v else m y := by
  funext y
  by_cases e : y = x
  · rw [if_pos e, e, h]
  · rw [if_neg e]
theorem newsDrop {h₀ h : Heap} {L : Addr} {l : Led} (n : Nat) (N : News h₀ L h l) : News h₀ L h (l.drop n) := fun p hp => N p (List.mem_of_mem_drop hp)
open PyProof.Rows.LCg in
theorem compEnd_move {h₀ h' : Heap} {L I C D : Addr} {m : Str → Option Value} {s₁ : Shared} {oI oC oD : Obj} {S : Led → Prop} {rest : Value → Led → Prop} {y : Value} {tk : Nat} {z a b : Addr × Obj} {X : Led}
    (F : Fr h₀ L h' m) (N : News h₀ L h' (z :: a :: b :: (I, oI) :: (C, oC) :: (D, oD) :: X)) (off : Off3 I C D (z :: a :: b :: X)) (hS : S (z :: a :: b :: X)) (r : rest y (z :: a :: b :: X)) :
    CompEnd h₀ L m s₁ I oI C oC D oD S rest y { s₁ with heap := h', toks := tk } :=
  CompEnd.intro F N (z :: a :: b :: X) (fun p hp => by
    simp only [List.mem_cons] at hp ⊢
    rcases hp with h | h | h | h | h | h | h <;> simp [h]) off hS r
section
open PyProof.Rows.LCg
variable {I C D dx z : Addr} {oI oC oD o oz : Obj} {news X : Led} {a b : Addr × Obj}
theorem off_ne (off : Off3 I C D news) (hd : (dx, o) ∈ news) (hX : ∀ q ∈ X, q.1 ≠ dx) : ∀ q ∈ (I, oI) :: (C, oC) :: (D, oD) :: X, q.1 ≠ dx := by
  obtain ⟨h1, h2, h3⟩ := off.mem _ hd
  exact List.forall_mem_cons.mpr ⟨Ne.symm h1, List.forall_mem_cons.mpr ⟨Ne.symm h2, List.forall_mem_cons.mpr ⟨Ne.symm h3, hX⟩⟩⟩
theorem off_move (off : Off3 I C D news) (ha : a ∈ news) (hb : (b.1, o) ∈ news) (hX : ∀ p ∈ X, p ∈ news) (h1 : @LT.lt Nat _ I z) (h2 : @LT.lt Nat _ C z) (h3 : @LT.lt Nat _ D z) : Off3 I C D ((z, oz) :: a :: b :: X) := by
  refine Off3.of (fun p hp => ?_)
  rcases List.mem_cons.mp hp with rfl | hp
  · exact ⟨Nat.ne_of_gt h1, Nat.ne_of_gt h2, Nat.ne_of_gt h3⟩
  rcases List.mem_cons.mp hp with rfl | hp
  · exact off.mem _ ha
  rcases List.mem_cons.mp hp with e | hp
  · subst e
    have := off.mem _ hb
    exact this
  · exact off.mem _ (hX _ hp)
end

end
section
def JLaw (sc : Addr) (_ : Unit) (m : Str → Option Value) (nx : Led) : Prop := m (Str.ofString "script") = some (.ref sc) ∧ nx = []
def JTurn (w : World) (sc src : Addr) (c : Nat) (T : Str) (tT : Tok) (x dx : Addr) (k1 t1 k2 : Tok) (X : Led) (_ : Unit) (m : Str → Option Value) (nx : Led) : Prop :=
  m (Str.ofString "script") = some (.ref sc) ∧ m (Str.ofString "source") = some (.ref src) ∧ m (Str.ofString "text") = some (.str T tT) ∧ m (Str.ofString "scanner") = some (.ref x) ∧
    ∃ p tp a b ta tb t2, m (Str.ofString "at") = some (.int p tp) ∧ 0 ≤ p ∧ p ≤ T.length ∧ 0 ≤ a ∧ 0 ≤ b ∧ b < 2147483647 ∧ nx = (src, srcObj a b ta tb c) :: (x, instObj 237 dx) :: (dx, scD w k1 T t1 k2 p t2) :: X
theorem news0 {h₀ h : Heap} {L : Addr} : News h₀ L h [] := fun _ hp => nomatch hp
theorem names5 {m : Str → Option Value} {sc src x : Addr} {T : Str} {tT tp : Tok} {p : Int} (h1 : m (Str.ofString "script") = some (.ref sc)) (h2 : m (Str.ofString "source") = some (.ref src)) (h3 : m (Str.ofString "text") = some (.str T tT)) (h4 : m (Str.ofString "scanner") = some (.ref x)) (h5 : m (Str.ofString "at") = some (.int p tp)) :
    m = fun y => if y = Str.ofString "script" then some (.ref sc) else if y = Str.ofString "source" then some (.ref src) else if y = Str.ofString "text" then some (.str T tT) else if y = Str.ofString "scanner" then some (.ref x) else if y = Str.ofString "at" then some (.int p tp) else m y := by
  funext y
  by_cases e1 : y = Str.ofString "script"
  · rw [if_pos e1, e1, h1]
  by_cases e2 : y = Str.ofString "source"
  · rw [if_neg e1, if_pos e2, e2, h2]
  by_cases e3 : y = Str.ofString "text"
  · rw [if_neg e1, if_neg e2, if_pos e3, e3, h3]
  by_cases e4 : y = Str.ofString "scanner"
  · rw [if_neg e1, if_neg e2, if_neg e3, if_pos e4, e4, h4]
  by_cases e5 : y = Str.ofString "at"
  · rw [if_neg e1, if_neg e2, if_neg e3, if_neg e4, if_pos e5, e5, h5]
  · rw [if_neg e1, if_neg e2, if_neg e3, if_neg e4, if_neg e5]
theorem own_app {a c : Led} {b : Addr} (h1 : ∀ q ∈ a, @LT.lt Nat _ q.1 b) (h2 : ∀ q ∈ c, q.1 ≠ b) : ∀ q ∈ a ++ c, q.1 ≠ b := fun q hq =>
  (List.mem_append.mp hq).elim (fun h => Nat.ne_of_lt (h1 q h)) (h2 q)
def IsWay (y : Value) : Prop := ∃ n t, y = .int n t ∧ 0 ≤ n ∧ n ≤ 8
theorem way_of {vs : List Value} {i : Nat} (h : ∀ y ∈ vs, IsWay y) (hi : i < vs.length) : ∃ n t, vs[i] = .int n t ∧ 0 ≤ n ∧ n ≤ 8 := h _ (List.getElem_mem hi)
theorem newsDrop2 {h₀ h : Heap} {L : Addr} {a b : Addr × Obj} {r : Led} (N : News h₀ L h (a :: b :: r)) : News h₀ L h (a :: r) := fun p hp => N p (by
  rcases List.mem_cons.mp hp with h | h
  · exact h ▸ List.Mem.head _
  · exact List.Mem.tail _ (List.Mem.tail _ h))
theorem news_tuple {h₀ h : Heap} {L z : Addr} {l : Led} {vs : Array Value} (N : News h₀ L h l) (hm : (z, tup vs) ∈ l) : h.IsTuple z vs := ⟨_, (N _ hm).1, rfl, _, rfl⟩
theorem in_app_l {p : Addr × Obj} {a b : Led} (h : p ∈ a) : List.Mem p (a ++ b) := List.mem_append_left _ h
theorem in_app_r {p : Addr × Obj} {a b : Led} (h : p ∈ b) : List.Mem p (a ++ b) := List.mem_append_right _ h

end
local macro_rules | `(tactic| walk_at "call ref") => `(tactic| (with_reducible refine atC 309 ?_; walk_at "mine stop"))
local macro_rules | `(tactic| walk_at "call ref") => `(tactic| (with_reducible refine atC 302 ?_; walk_at "mine stop"))
local macro_rules | `(tactic| walk_at "call ref") => `(tactic| (with_reducible refine atC 237 ?_; walk_at "mine stop"))
local macro_rules | `(tactic| walk_at "mine w") => `(tactic| first | walk_at "mine r" | assumption | decide | omega | decide +kernel)
local macro_rules | `(tactic| walk_at "mine fact") => `(tactic| walk_at "mine w")
local macro_rules | `(tactic| walk_at "mine drest") => `(tactic| first | walk_at "mine r" | exact List.forall_mem_nil _ | k_all | exact off_ne (by walk_at "mine r") (by k_mem) (by k_all) | fail)
local macro_rules | `(tactic| walk_at "mine 309") => `(tactic| ((with_reducible apply useA (C_asked ..)); walk_at "mine s2"))
local macro_rules | `(tactic| walk_at "mine 237") => `(tactic| (apply use C_new_scanner; walk_at "mine s2"))
local macro_rules | `(tactic| walk_at "CompSrc") => `(tactic| walk_at "mine stop")
local macro_rules | `(tactic| walk_at "call ref") => `(tactic| (apply useS (C_pool ..); walk_at "mine V"; k_dflt ((case N => k_asm); (case hL => assumption); case hI => assumption); walk_at "mine s3"; walk_at "mine in"))
local macro_rules | `(tactic| walk_at "call ref") => `(tactic| (apply useN (C_drawn ..); walk_at "mine go1"))
local macro_rules | `(tactic| walk_at "pyIter ref") => `(tactic| walk_at "mine stop")
local macro_rules | `(tactic| k_all) => `(tactic| first | walk_at "mine r" | exact List.forall_mem_nil _ | (refine List.forall_mem_cons.mpr ⟨?_, ?_⟩; k_ne; k_all))
local macro_rules | `(tactic| walk_at "mine ways") => `(tactic| first | exact List.forall_mem_nil _ | (refine List.forall_mem_cons.mpr ⟨⟨_, _, rfl, by decide, by decide⟩, ?_⟩; walk_at "mine ways"))
local macro_rules | `(tactic| walk_at "call ref") => `(tactic| (apply use (C_one _ _ _ _ _ ?a3 _); walk_at "mine V"; k_dflt ((case N => walk_at "mine news1"); (case a3 => k_mem)); walk_at "mine s3"; intro r' a' b' ta' tb' hr0' hrl' ha' hb1' hb2' h' tk' F' N'; k_dflt (obtain ⟨wy', tw', hwe', hw0', hw8'⟩ := way_of (by walk_at "mine ways") hrl'); rw [hwe']; clear hwe'; k_sweep))
local macro_rules | `(tactic| walk_at "mine 302") => `(tactic| ((with_reducible apply useN (C_due ..)); walk_at "mine s2"))
local macro_rules | `(tactic| walk_at "mine end") => `(tactic| first | (refine List.forall_mem_cons.mpr ⟨?_, ?_⟩; k_mem; walk_at "mine end") | walk_at "mine own")
local macro_rules | `(tactic| walk_at "mine own") => `(tactic| (intro p9 hp9; repeat (first | exact hp9 | exact in_app_l hp9 | exact in_app_r hp9 | apply List.Mem.tail)))
local macro_rules | `(tactic| walk_at "mine close") => `(tactic| ((rename Fr _ _ _ _ => F9); (rename News _ _ _ _ => N9); (refine' InvEndN.intro F9 N9 ⟨rfl, rfl, rfl, rfl, _, _, _, _, _, _, _, rfl, _, _, _, _, _, rfl⟩ ?ha ?hn ?ho); (case hn => walk_at "mine end"); (case ho => walk_at "mine own"); (case ha => rfl); all_goals omega))

section
local macro_rules | `(tactic| walk_at "exec If Compare") => `(tactic| (with_reducible refine ifCall ?_; walk_at "mine stopJ"))
local macro_rules | `(tactic| walk_at "exec If Compare") => `(tactic| (with_reducible refine ifOp .Is ?_; walk_at "mine stop"))
local macro_rules | `(tactic| walk_at "mine turned") => `(tactic| ((rename Fr _ _ _ _ => F9); (rename News _ _ _ _ => N9); (refine' joined F9 (cb_drop N9 ?n) ⟨_, ⟨rfl, rfl, rfl, rfl, _, _, _, _, _, _, _, rfl, _, _, _, _, _, rfl⟩, rfl⟩); (case n => (simp only [List.cons_append, List.nil_append]; walk_at "mine end")); all_goals omega))
/-- the law's turn, as an assertion for the join behind its first if -/
def jOf {w : World} {sc src : Addr} {c : Nat} {T : Str} {tT : Tok} {x dx : Addr} {k1 t1 k2 : Tok} {X : Led} {u : Unit} {m : Str → Option Value} {nx : Led} (_ : JTurn w sc src c T tT x dx k1 t1 k2 X u m nx) (own : Led) (m : Str → Option Value) (l : Led) : Prop := ∃ nx, JTurn w sc src c T tT x dx k1 t1 k2 X () m nx ∧ l = nx ++ own
local macro_rules | `(tactic| walk_at "compareOp NotEq ref ref") => `(tactic| ((with_reducible show wpAny _ _ (compareOp CmpOp.NotEq (Value.ref _) (Value.ref _)) _ _ _); (with_reducible rename JLaw _ _ _ _ => hJ9); walk_at "mine stop"))
theorem law_holds : PySem.Challenge.rw_on0239_01.Holds := Mine.hd (by
  k_go0
  rename World => w
  (all_goals try k_fold)
  k_steps
  refine ⟨?_⟩
  walk_at "mine 237"
  intro x1 dx1 a1 a2 a3 a4 hx1 hlt1 h0 tk0 F0 N0
  simp only [List.forall_mem_cons] at hlt1
  k_steps
  refine ⟨?_⟩
  walk_at "mine 309"
  refine AskPost.of2 due_a ?_
  intro z1 y1 u1 u2 u3 u4 hz1 hy1 h1 tk1 F1 N1
  simp only [List.forall_mem_cons] at hz1 hy1
  dsimp only [Fl.v] at N1
  k_steps
  refine ⟨?_⟩
  walk_at "mine 309"
  refine AskPost.of1 due_b ?_
  intro z2 u1 u2 u3 hz2 h2 tk2 F2 N2
  simp only [List.forall_mem_cons] at hz2
  dsimp only [Fl.v] at N2
  k_steps
  refine ⟨?_⟩
  rename News _ _ _ _ => N2
  replace N2 := newsDrop 8 N2
  dsimp only [List.drop] at N2
  walk_at "mine 237"
  intro x2 dx2 a1 a2 a3 a4 hx2 hlt2 h3 tk3 F3 N3
  simp only [List.forall_mem_cons] at hlt2
  k_steps
  refine ⟨?_⟩
  rename Fr _ _ _ _ => F9
  refine LCg.ListComp_U F9 (by with_unfolding_all rfl) (by decide) (by rfl) (by decide) (by rfl) ?_
  k_steps
  rename Fr _ _ _ _ => F9
  rename News _ _ _ _ => N9
  refine ⟨LCg.CompSrc.ledger rfl F9 N9 (by k_mem) (by rw [PySem.sizeLine_eq]; exact Nat.le_of_ble_eq_true rfl) ?_⟩
  intro hg
  k_dflt (refine LCg.CompRest.succ (k := 3) ?_)
  intro v I oI C oC D m₂ h tk E' hv hC hx F9 N9 off ne
  clear ne
  obtain rfl : v = Value.int 1 _ := (Option.some.inj (show some _ = some v from hv)).symm
  k_steps
  refine ⟨?_⟩
  walk_at "mine 309"
  refine AskPost.of1 due_c ?_
  intro zc u1 u2 u3 hzc h4 tk4 F4 N4
  simp only [List.forall_mem_cons] at hzc
  dsimp only [Fl.v] at N4
  refine compEnd_move F4 N4 (off_move off (by k_mem) (by k_mem) (by walk_at "mine sub") (by omega) (by omega) (by omega)) (Or.inr ⟨_, by k_mem, rfl, _, rfl⟩) ?_
  k_dflt (refine LCg.CompRest.succ (k := 2) ?_)
  intro v I oI C oC D m₂ h tk E' hv hC hx F9 N9 off ne
  clear ne
  obtain rfl : v = Value.int 6 _ := (Option.some.inj (show some _ = some v from hv)).symm
  k_steps
  refine ⟨?_⟩
  walk_at "mine 309"
  refine AskPost.of1 due_d ?_
  intro zd u1 u2 u3 hzd h4 tk4 F4 N4
  simp only [List.forall_mem_cons] at hzd
  dsimp only [Fl.v] at N4
  refine compEnd_move F4 N4 (off_move off (by k_mem) (by k_mem) (by walk_at "mine sub") (by omega) (by omega) (by omega)) (Or.inr ⟨_, by k_mem, rfl, _, rfl⟩) ?_
  k_dflt (refine LCg.CompRest.succ (k := 1) ?_)
  intro v I oI C oC D m₂ h tk E' hv hC hx F9 N9 off ne
  clear ne
  obtain rfl : v = Value.int 7 _ := (Option.some.inj (show some _ = some v from hv)).symm
  k_steps
  refine ⟨?_⟩
  walk_at "mine 309"
  refine AskPost.of1 due_e ?_
  intro ze u1 u2 u3 hze h4 tk4 F4 N4
  simp only [List.forall_mem_cons] at hze
  dsimp only [Fl.v] at N4
  refine compEnd_move F4 N4 (off_move off (by k_mem) (by k_mem) (by walk_at "mine sub") (by omega) (by omega) (by omega)) (Or.inr ⟨_, by k_mem, rfl, _, rfl⟩) ?_
  k_dflt (refine LCg.CompRest.succ (k := 0) ?_)
  intro v I oI C oC D m₂ h tk E' hv hC hx F9 N9 off ne
  clear ne
  obtain rfl : v = Value.int 7 _ := (Option.some.inj (show some _ = some v from hv)).symm
  k_steps
  refine ⟨?_⟩
  walk_at "mine 309"
  refine AskPost.of1 due_f ?_
  intro zf u1 u2 u3 hzf h4 tk4 F4 N4
  simp only [List.forall_mem_cons] at hzf
  dsimp only [Fl.v] at N4
  refine compEnd_move F4 N4 (off_move off (by k_mem) (by k_mem) (by walk_at "mine sub") (by omega) (by omega) (by omega)) (Or.inr ⟨_, by k_mem, rfl, _, rfl⟩) ?_
  refine LCg.CompRest.zero ?_
  intro D h tk F9 N9 off
  clear off
  k_steps
  refine ⟨?_⟩
  rename Fr _ _ _ _ => F9
  refine iter_rangeS (JLaw _) (fun _ _ => ()) () rfl (by with_reducible assumption) (small_one (by omega) (by omega) (by omega) (by omega)) (rangeSize_nat _ _) F9 news0 ⟨rfl, rfl⟩ ?_ ?_
  · intro k t a m₁ nx h tk own hk ho hR F9 N9
    obtain ⟨hs, rfl⟩ := id hR
    have hk' := mem_rangeKs hk
    rw [name_first hs] at F9
    simp only [List.nil_append] at N9
    k_steps
    refine ⟨?_⟩
    walk_at "mine 237"
    intro x3 dx3 k1 t1 k2 t2 hx3 hlt3 h5 tk5 F5 N5
    have hlt4 := (List.forall_mem_cons.mp hlt3).1
    dsimp only at hlt4
    k_steps
    refine ⟨?_⟩
    rename Fr _ _ _ _ => F9
    rename News _ _ _ _ => N9
    have hltD := (List.forall_mem_cons.mp (List.forall_mem_cons.mp hlt3).2).1
    dsimp only at hltD
    refine iter_rangeS (JTurn w _ _ _ _ _ _ _ _ _ _ _) (fun _ _ => ()) () rfl (by with_reducible assumption) (small_one (by omega) (by omega) (by omega) (by omega)) (rangeSize_nat _ _) F9 N9 ⟨rfl, rfl, rfl, rfl, _, _, _, _, _, _, _, rfl, by omega, by omega, by with_reducible assumption, by with_reducible assumption, by with_reducible assumption, rfl⟩ ?_ ?_
    · intro k' t' a' m₂ nx' h' tk' own' hk' ho' hR' F8 N8
      have hR0 := hR'
      obtain ⟨n1, n2, n3, n4, p, tp, a, b, ta, tb, t2, n5, hp0, hp1, ha, hb, hb2, rfl⟩ := hR'
      rw [names5 n1 n2 n3 n4 n5] at F8
      simp only [List.cons_append, List.nil_append] at N8
      have ho2 := own_app (by with_reducible assumption) (ho'.ne (List.Mem.head _))
      have ho3 := own_app (fun q hq => hlt3 q (List.Mem.tail _ (List.Mem.tail _ hq))) (ho'.ne (List.Mem.tail _ (List.Mem.tail _ (List.Mem.head _))))
      dsimp only at ho2 ho3
      dsimp only [envOfC] at F8 N8
      k_steps
      refine ⟨?_⟩
      rename Fr _ _ _ _ => F8
      refine join F8 (jOf hR0 own') ?_ ?_
      · k_steps
        · walk_at "mine turned"
        · walk_at "mine turned"
      intro m1 led1 h1 tk1 hR1 F1 N1
      clear n1 n2 n3 n4 n5 hp0 hp1 ha hb hb2 F8 N8
      obtain ⟨nx1, ⟨n1, n2, n3, n4, p, tp, a, b, ta, tb, t2, n5, hp0, hp1, ha, hb, hb2, rfl⟩, hl1⟩ := hR1
      rw [hl1] at N1
      simp only [List.cons_append, List.nil_append] at N1
      rw [names5 n1 n2 n3 n4 n5] at F1
      dsimp only
      k_steps
      refine ⟨?_⟩
      rename News _ _ _ _ => N7
      replace N7 := newsDrop2 N7
      walk_at "mine 302"
      refine ⟨?_, ?_⟩
      · intro z5 e1 e2 e3 pl f b hdue hlt5 h6 tk6 F6 N6
        have hz5 := hlt5 _ (List.Mem.tail _ (List.Mem.tail _ (List.Mem.head _)))
        dsimp only at hz5
        k_steps
        refine ⟨?_⟩
        walk_at "mine 309"
        refine ⟨?_, ?_⟩
        · rintro z7 v1 v2 t7 pl' f' b' q hdue' hb hq1 hq2 ⟨e5, rfl⟩ ⟨e6, rfl⟩ hz7 h8 tk8 F8 N8
          rw [hdue] at hdue'
          injection hdue' with g1 g2
          injection g2 with g2 g3
          injection g2 with g2
          subst g1 g2 g3
          have hz8 := hz7 _ (List.Mem.tail _ (List.Mem.head _))
          dsimp only at hz8
          k_steps
          refine ⟨?_⟩
          rename News _ _ _ _ => N9
          refine ne_two (news_tuple N9 (by k_mem)) (news_tuple N9 (by k_mem)) (by ktr_units) (eq_fl _ _ _ _ _) (eq_fl _ _ _ _ _) ?_
          k_steps
          refine ⟨?_⟩
          rename Fr _ _ _ _ => F9
          rcases hb with rfl | rfl
          · dsimp +zetaDelta only [ob] at F9
            refine wpAny_If ?_
            k_steps
            walk_at "mine close"
          · dsimp +zetaDelta only [ob] at F9
            refine wpAny_If ?_
            k_steps
            walk_at "mine close"
        · intro z7 y7 v1 v2 v3 t7 pl' f' g' b' q hdue'
          rw [hdue] at hdue'
          injection hdue' with g1 g2
          injection g2 with g2 g3
          cases g2
      · intro z5 y5 e1 e2 e3 e4 pl f g b hdue hlt5 hy5 h6 tk6 F6 N6
        have hz5 := hlt5 _ (List.Mem.tail _ (List.Mem.tail _ (List.Mem.head _)))
        dsimp only at hz5
        k_steps
        refine ⟨?_⟩
        walk_at "mine 309"
        refine ⟨?_, ?_⟩
        · intro z7 v1 v2 t7 pl' f' b' q hdue'
          rw [hdue] at hdue'
          injection hdue' with g1 g2
          injection g2 with g2 g3
          cases g2
        · rintro z7 y7 v1 v2 v3 t7 pl' f' g' b' q hdue' hb hq1 hq2 ⟨e5, rfl⟩ ⟨e6, rfl⟩ ⟨e7, rfl⟩ hz7 hy7 h8 tk8 F8 N8
          rw [hdue] at hdue'
          injection hdue' with g1 g2
          injection g2 with g2 g3
          injection g2 with g2
          injection g2 with g2 g4
          subst g1 g2 g3 g4
          have hz8 := hz7 _ (List.Mem.tail _ (List.Mem.tail _ (List.Mem.head _)))
          dsimp only at hz8
          have hy8 := hy7 _ (List.Mem.tail _ (List.Mem.head _))
          dsimp only at hy8
          k_steps
          refine ⟨?_⟩
          rename News _ _ _ _ => N9
          refine ne_two (news_tuple N9 (by k_mem)) (news_tuple N9 (by k_mem)) (by ktr_units) (eq_fl _ _ _ _ _) (eq_two (news_tuple N9 (by k_mem)) (news_tuple N9 (by k_mem)) (by ktr_units) (eq_fl _ _ _ _ _) (eq_fl _ _ _ _ _)) ?_
          k_steps
          refine ⟨?_⟩
          rename Fr _ _ _ _ => F9
          rcases hb with rfl | rfl
          · dsimp +zetaDelta only [ob] at F9
            refine wpAny_If ?_
            k_steps
            walk_at "mine close"
          · dsimp +zetaDelta only [ob] at F9
            refine wpAny_If ?_
            k_steps
            walk_at "mine close"
    · intro m₂ nx' h' tk' hR' F8 N8
      obtain ⟨n1, n2, n3, n4, p, tp, a, b, ta, tb, t2, n5, hp0, hp1, ha, hb, hb2, rfl⟩ := hR'
      k_steps
      refine InvEndN.intro F8 N8 (nx := []) ⟨n1, rfl⟩ rfl (fun _ hp => nomatch hp) ?_
      walk_at "mine own"
  · intro m₁ nx h tk hR F9 N9
    k_steps)

end
end Mine
set_option maxRecDepth 100000 in
set_option maxHeartbeats 8000000 in
theorem PySem.Challenge.cw_on0239_01_holds : PySem.Challenge.rw_on0239_01.Holds := by
  exact Mine.law_holds
