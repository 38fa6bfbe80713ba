import PyProof.Rows.All
import Wide.All
import OpenK.AllK
import Wide.FinOn
import PySem.Challenge.RW_pf0006_01
set_option Elab.async false
section
open PySem PySem.W PyProof.Rows
namespace Mine
set_option maxRecDepth 100000
set_option maxHeartbeats 8000000
def vw : Program := view PySem.Challenge.pw_pf0006_01 [1, 2, 3, 4, 5, 7, 8, 9, 10, 11, 12, 13, 14, 15, 16, 18, 20, 21, 22, 23, 24]
theorem ws : OpenLaw.wellSaid PySem.Challenge.rw_pf0006_01 = true := by
  unfold OpenLaw.wellSaid
  iterate 18 with_reducible refine look_both ?_ ?_
  · unfold OpenRow.wellSaid OpenRow.partSaid looksOpen
    iterate 2 with_reducible refine look_both ?_ ?_
    · iterate 12 with_reducible refine look_both ?_ ?_
      · iterate 5 with_reducible refine look_both ?_ ?_
        all_goals decide +kernel
      all_goals decide +kernel
    all_goals decide +kernel
  all_goals decide +kernel
local macro_rules | `(tactic| o_law) => `(tactic| refine holds_law ws fun said => ?_)
local macro_rules | `(tactic| o_head $H) => `(tactic| (refine holds_open (q := vw) (loose := ["BasicError"]) (Xt := fun s => xlAt vw [] s && recOk (RowW.records (OpenRow.toRowW (OpenLaw.row PySem.Challenge.rw_pf0006_01))) s) (XP := XL vw []) (Yf := Hook.obs $H) (Ya := Hook.val $H) (YP := Hook.says $H) (N := 2288) ?hl (Hook.of $H) (Hook.keeps $H) (fun s e => xl_of s (Bool.and_eq_true_iff.mp e).1) XL.keeps (by rfl) (by rfl) (by rfl) (fun s e => recFacts_of (Bool.and_eq_true_iff.mp e).2) rfl (by assumption) (by decide +kernel) ⟨rfl, rfl, rfl, rfl, rfl, by decide +kernel⟩ ?hw ?hc; (case hl => (intro w; delta openEnds fencedOpening topFrom; simp only [PySem.W.Fast.te14364793385576792824, PySem.W.Fast.te14082659384304107361, PySem.W.Fast.te10274390034422433532, PySem.W.Fast.te4187177175401517315]; kernel_rfl))))
open_top hd for PySem.Challenge.rw_pf0006_01
end Mine
end
section
open PySem PySem.W PyProof.Rows
namespace Mine
set_option maxRecDepth 100000
set_option maxHeartbeats 8000000

/-- a function's contract: what a call of the def at `f` gives, from any state with a ledger -/
abbrev Ct (w : World) (f : Addr) (vs : List Value) (Post : Heap → Addr → (Str → Option Value) → Shared → (Value → Shared → Prop) → Prop) : Prop :=
  ∀ (loose : List Str) (mean : ExcName → Option Value) (mg mb : Str → Option Value) (dp un : Nat) (gd : Option (List Code)) (cn : Str) (cs : Scope) (a : Addr) (ccd : Value) (cl : List (Str × Addr)) (outer : List Env) (A₀ : Around) (base h₀ : Heap) (L : Addr) (m : Str → Option Value) (s : Shared) (Q E : Value → Shared → Prop),
    Below A₀ base outer h₀ → Fr h₀ L s.heap m → (hd.heap_1 w.params).In h₀ → Top vw loose mean mg mb h₀ → cs.kind = .function →
    dp + 8 < recursionLimit → un + 60 < cLine → Post h₀ L m s Q →
      wpAny (model PySem.Challenge.rw_pf0006_01.row.prog w) (ktrTop dp un gd cn cs L a ccd cl outer) (call (.ref f) vs) Q E s

/-- back with one value, the ledger as it was -/
abbrev Back (news : List (Addr × Obj)) (R : Tok → Value) (h₀ : Heap) (L : Addr) (m : Str → Option Value) (s : Shared) (Q : Value → Shared → Prop) : Prop :=
  News h₀ L s.heap news ∧ CbRet h₀ L m news s Q R
end Mine
end
section
open PySem PySem.W PyProof.Rows
namespace Mine
set_option maxRecDepth 100000

/-- a text by its signs' numbers -/
abbrev tx (l : List Nat) : PySem.Str := ⟨l.toArray⟩
/-- the flag of worth 2 ^ k -/
def bt (f : Int) (k : Nat) : Bool := decide (f / 2 ^ k % 2 = 1)
def isBl (c : Nat) : Bool := c == 32 || c == 9
def isDr (c : Nat) : Bool := c == 13 || c == 10 || c == 12 || c == 27 || c == 127 || c == 0
def great (c : Nat) : Nat := if 97 ≤ c ∧ c ≤ 122 then c - 32 else c
def low7 (f : Int) (c : Nat) : Nat := if bt f 0 then c % 128 else c
def eSign (f : Int) (c : Nat) : List Nat :=
  if (bt f 1 && isBl (low7 f c)) || (bt f 2 && isDr (low7 f c)) then []
  else if bt f 6 && (low7 f c == 91) then [40]
  else if bt f 6 && (low7 f c == 93) then [41]
  else if bt f 5 then [great (low7 f c)] else [low7 f c]

theorem occ_one (x : PySem.Str) (c : Nat) : (Builtin.Str.occurrences x ⟨#[c]⟩ 0 x.length 1).isEmpty = !(x.cps.toList.contains c) := by
  have h := StrLaws.found_iff x ⟨#[c]⟩
  have key : (∃ i, i + (PySem.Str.mk #[c]).length ≤ x.length ∧ Builtin.Str.subAt x ⟨#[c]⟩ i = true) ↔ x.cps.toList.contains c = true := by
    obtain ⟨⟨l⟩⟩ := x
    simp only [PySem.Str.length, Builtin.Str.subAt, List.contains_iff_mem, beq_iff_eq, List.size_toArray]
    constructor
    · rintro ⟨i, h1, h2⟩
      have h1' : i < l.length := Nat.lt_of_succ_le (by simpa using h1)
      have h3 := congrArg Array.toList h2
      simp only [List.size_toArray, List.extract_toArray, List.length_singleton] at h3
      have h4 : (l.drop i).take 1 = [c] := by simpa [List.extract_eq_take_drop] using h3
      rw [List.drop_eq_getElem_cons h1', List.take_succ_cons, List.take_zero] at h4
      cases h4
      exact List.getElem_mem h1'
    · intro hm
      obtain ⟨i, hi, e⟩ := List.getElem_of_mem hm
      refine ⟨i, Nat.succ_le_of_lt (by simpa using hi), ?_⟩
      have : (l.drop i).take 1 = [c] := by rw [List.drop_eq_getElem_cons hi, List.take_succ_cons, List.take_zero, e]
      simp [List.extract_eq_take_drop, this]
  cases hc : x.cps.toList.contains c with
  | true => simpa using h.mpr (key.mpr hc)
  | false =>
    cases ho : (Builtin.Str.occurrences x ⟨#[c]⟩ 0 x.length 1).isEmpty with
    | true => rfl
    | false =>
      rw [ho] at h
      have := key.mp (h.mp rfl)
      rw [hc] at this; cases this

theorem occ_bl (c : Nat) : (Builtin.Str.occurrences (Str.ofString " \t") ⟨#[c]⟩ 0 (Str.ofString " \t").length 1).isEmpty = !(isBl c) := by
  rw [occ_one]
  rw [show (Str.ofString " \t").cps.toList = [32, 9] from by decide +kernel]
  simp only [List.contains_cons, List.contains_nil, Bool.or_false, isBl]
theorem occ_dr (c : Nat) : (Builtin.Str.occurrences (Str.ofString "\r\n\x0c\x1b\x7f\x00") ⟨#[c]⟩ 0 (Str.ofString "\r\n\x0c\x1b\x7f\x00").length 1).isEmpty = !(isDr c) := by
  rw [occ_one]
  rw [show (Str.ofString "\r\n\x0c\x1b\x7f\x00").cps.toList = [13, 10, 12, 27, 127, 0] from by decide +kernel]
  simp only [List.contains_cons, List.contains_nil, Bool.or_false, isDr, Bool.or_assoc]
theorem occ_br (c : Nat) : (Builtin.Str.occurrences (Str.ofString "[]") ⟨#[c]⟩ 0 (Str.ofString "[]").length 1).isEmpty = !(c == 91 || c == 93) := by
  rw [occ_one]
  rw [show (Str.ofString "[]").cps.toList = [91, 93] from by decide +kernel]
  simp only [List.contains_cons, List.contains_nil, Bool.or_false]
theorem occ_qu (c : Nat) : (Builtin.Str.occurrences (Str.ofString "\"'") ⟨#[c]⟩ 0 (Str.ofString "\"'").length 1).isEmpty = !(c == 34 || c == 39) := by
  rw [occ_one]
  rw [show (Str.ofString "\"'").cps.toList = [34, 39] from by decide +kernel]
  simp only [List.contains_cons, List.contains_nil, Bool.or_false]
theorem beq_one (c : Nat) (x : PySem.Str) (d : Nat) (hx : x = ⟨#[d]⟩) : ((⟨#[c]⟩ : PySem.Str) == x) = (c == d) := by
  subst hx
  rw [Bool.eq_iff_iff]
  simp
theorem beq_lb (c : Nat) : ((⟨#[c]⟩ : PySem.Str) == Str.ofString "[") = (c == 91) := beq_one c _ 91 (by decide +kernel)
theorem lt_a (c : Nat) : ((⟨#[c]⟩ : PySem.Str).cps.toList < (Str.ofString "a").cps.toList) ↔ c < 97 := by
  rw [show (Str.ofString "a").cps.toList = [97] from by decide +kernel]
  simp [List.cons_lt_cons_iff]
theorem z_lt (c : Nat) : ((Str.ofString "z").cps.toList < (⟨#[c]⟩ : PySem.Str).cps.toList) ↔ 122 < c := by
  rw [show (Str.ofString "z").cps.toList = [122] from by decide +kernel]
  simp [List.cons_lt_cons_iff]

theorem lt_a' (c : Nat) : ([c] < (Str.ofString "a").cps.toList) ↔ c < 97 := lt_a c
theorem z_lt' (c : Nat) : ((Str.ofString "z").cps.toList < [c]) ↔ 122 < c := z_lt c

theorem one_eq {a b : Nat} (h : a = b) : (⟨#[a]⟩ : PySem.Str) = tx [b] := by rw [h]

theorem low_chr (c : Nat) : Builtin.bitAnd (c : Int) 127 = ((c % 128 : Nat) : Int) := by rw [bitAnd_m7]; omega
theorem str_lp : Str.ofString "(" = tx [40] := by decide +kernel
theorem str_rp : Str.ofString ")" = tx [41] := by decide +kernel
theorem str_no : Str.ofString "" = tx [] := by decide +kernel
theorem not91 {c : Nat} (h : (c == 91 || c == 93) = true) (h2 : (c == 91) = false) : c = 93 := by simpa [h2] using h

theorem tx_len (l : List Nat) : (tx l).length = l.length := by simp [Str.length]
theorem sl_from (l : List Nat) (k : Nat) (h : k ≤ l.length) : Txt.slice (tx l) (some (k : Int)) none = tx (l.drop k) := by
  have e := eq_of_beq (slice_closes_from (x := tx l) (i := (k : Int)) ⟨by omega, by simp; omega⟩)
  rw [e]
  simp
  rw [List.take_of_length_le (by simp)]
theorem sl_to (l : List Nat) (k : Nat) (h : k ≤ l.length) : Txt.slice (tx l) none (some (k : Int)) = tx (l.take k) := by
  have e := eq_of_beq (slice_closes_to (x := tx l) (j := (k : Int)) ⟨by omega, by simp; omega⟩)
  rw [e]
  simp
theorem sl_ss (l : List Nat) (i j : Nat) (h : i ≤ j) (h2 : j ≤ l.length) : Txt.slice (tx l) (some (i : Int)) (some (j : Int)) = tx ((l.drop i).take (j - i)) := by
  have e := eq_of_beq (slice_closes (x := tx l) (i := (i : Int)) (j := (j : Int)) ⟨by omega, by omega, by simp; omega⟩)
  rw [e]
  have : ((j : Int) - (i : Int)).toNat = j - i := by omega
  simp [this]
theorem item_tx (l : List Nat) (k : Nat) (h : k < l.length) : Txt.item (tx l) (k : Int) = ⟨#[l[k]]⟩ := by
  have e : Txt.charAt (tx l) (k : Int) = some l[k] := by
    unfold Txt.charAt seqIndex?
    rw [if_neg (by omega : ¬ (k : Int) < 0), tx_len, if_pos (by simp; omega)]
    simp [h]
  unfold Txt.item
  rw [e]
  rfl

theorem drop_bl (p : Nat → Bool) : ∀ (l : List Nat) (k : Nat), k ≤ l.length → (∀ i (hi : i < l.length), i < k → p l[i] = true) → (∀ h : k < l.length, p l[k] = false) → l.drop k = l.dropWhile p
  | [], k, _, _, _ => by simp
  | c :: l, 0, _, _, hs => by
    have := hs (by simp)
    simp only [List.getElem_cons_zero] at this
    simp [List.dropWhile_cons, this]
  | c :: l, k + 1, hk, ha, hs => by
    have h0 := ha 0 (by simp) (by omega)
    simp only [List.getElem_cons_zero] at h0
    rw [List.drop_succ_cons, List.dropWhile_cons, if_pos h0]
    refine drop_bl p l k (by simpa using hk) (fun i hi h => ?_) (fun h => ?_)
    · have := ha (i + 1) (by simpa using hi) (by omega)
      simpa using this
    · have := hs (by simpa using h)
      simpa using this

theorem mset {x : PySem.Str} {v u : Option Value} {r : PySem.Str → Option Value} : (fun y => if y = x then v else if y = x then u else r y) = fun y => if y = x then v else r y := by funext y; split <;> rfl

theorem mset2 {x z : PySem.Str} (h : x ≠ z) {v u v' u' : Option Value} {r : PySem.Str → Option Value} :
    (fun y => if y = x then v else if y = z then u else if y = z then u' else if y = x then v' else r y) = fun y => if y = z then u else if y = x then v else r y := by
  funext y
  by_cases e : y = x
  · subst e; simp [h]
  · by_cases e2 : y = z
    · subst e2; simp [e]
    · simp [e, e2]

theorem band_bits : ∀ n : Fin 512, ∀ k : Fin 9, (Builtin.bitAnd ((n.val : Nat) : Int) ((2 ^ k.val : Nat) : Int) = 0) = (bt ((n.val : Nat) : Int) k.val = false) := by
  have h : ∀ n : Fin 512, ∀ k : Fin 9, decide (Builtin.bitAnd ((n.val : Nat) : Int) ((2 ^ k.val : Nat) : Int) = 0) = !(bt ((n.val : Nat) : Int) k.val) := by decide +kernel
  intro n k
  have := h n k
  rw [eq_iff_iff]
  cases hb : bt ((n.val : Nat) : Int) k.val <;> rw [hb] at this <;> simpa using this
theorem band_bit {f : Int} (h0 : 0 ≤ f) (h1 : f < 512) (k : Fin 9) : (Builtin.bitAnd f ((2 ^ k.val : Nat) : Int) = 0) = (bt f k.val = false) := by
  have e : f = ((f.toNat : Nat) : Int) := by omega
  rw [e]
  exact band_bits ⟨f.toNat, by omega⟩ k
theorem band0 {f : Int} (h0 : 0 ≤ f) (h1 : f < 512) : (Builtin.bitAnd f 1 = 0) = (bt f 0 = false) := band_bit h0 h1 0
theorem band1 {f : Int} (h0 : 0 ≤ f) (h1 : f < 512) : (Builtin.bitAnd f 2 = 0) = (bt f 1 = false) := band_bit h0 h1 1
theorem band2 {f : Int} (h0 : 0 ≤ f) (h1 : f < 512) : (Builtin.bitAnd f 4 = 0) = (bt f 2 = false) := band_bit h0 h1 2
theorem band3 {f : Int} (h0 : 0 ≤ f) (h1 : f < 512) : (Builtin.bitAnd f 8 = 0) = (bt f 3 = false) := band_bit h0 h1 3
theorem band4 {f : Int} (h0 : 0 ≤ f) (h1 : f < 512) : (Builtin.bitAnd f 16 = 0) = (bt f 4 = false) := band_bit h0 h1 4
theorem band5 {f : Int} (h0 : 0 ≤ f) (h1 : f < 512) : (Builtin.bitAnd f 32 = 0) = (bt f 5 = false) := band_bit h0 h1 5
theorem band6 {f : Int} (h0 : 0 ≤ f) (h1 : f < 512) : (Builtin.bitAnd f 64 = 0) = (bt f 6 = false) := band_bit h0 h1 6
theorem band7 {f : Int} (h0 : 0 ≤ f) (h1 : f < 512) : (Builtin.bitAnd f 128 = 0) = (bt f 7 = false) := band_bit h0 h1 7
theorem band8 {f : Int} (h0 : 0 ≤ f) (h1 : f < 512) : (Builtin.bitAnd f 256 = 0) = (bt f 8 = false) := band_bit h0 h1 8
end Mine
end
section
open PySem PySem.W PyProof.Rows
namespace Mine
set_option maxRecDepth 100000
set_option maxHeartbeats 8000000
theorem Fr.eqm {h₀ h : Heap} {L : Addr} {m m' : Str → Option Value} (F : Fr h₀ L h m) (e : ∀ y, m y = m' y) : Fr h₀ L h m' := (funext e : m = m') ▸ F

/-- a text handed back, the ledger as it was -/
abbrev RetS (h₀ : Heap) (L : Addr) (m : Str → Option Value) (news : List (Addr × Obj)) (s : Shared) (Q : Value → Shared → Prop) (x : Str) : Prop :=
  ∀ (t : Tok) (h' : Heap) (tk' : Nat), Fr h₀ L h' m → News h₀ L h' news → Q (.str x t) { s with heap := h', toks := tk' }
abbrev RetI (h₀ : Heap) (L : Addr) (m : Str → Option Value) (news : List (Addr × Obj)) (s : Shared) (Q : Value → Shared → Prop) (x : Int) : Prop :=
  ∀ (t : Tok) (h' : Heap) (tk' : Nat), Fr h₀ L h' m → News h₀ L h' news → Q (.int x t) { s with heap := h', toks := tk' }
theorem RetS.go {h₀ : Heap} {L : Addr} {m : Str → Option Value} {news : List (Addr × Obj)} {s : Shared} {Q : Value → Shared → Prop} {x y : Str} (r : RetS h₀ L m news s Q x) (e : y = x) {t : Tok} {h' : Heap} {tk' : Nat} (F : Fr h₀ L h' m) (N : News h₀ L h' news) :
    Q (.str y t) { s with heap := h', toks := tk' } := by subst e; exact r t h' tk' F N
theorem RetI.go {h₀ : Heap} {L : Addr} {m : Str → Option Value} {news : List (Addr × Obj)} {s : Shared} {Q : Value → Shared → Prop} {x y : Int} (r : RetI h₀ L m news s Q x) (e : y = x) {t : Tok} {h' : Heap} {tk' : Nat} (F : Fr h₀ L h' m) (N : News h₀ L h' news) :
    Q (.int y t) { s with heap := h', toks := tk' } := by subst e; exact r t h' tk' F N

section
variable {w : World} {loose : List Str} {mean : ExcName → Option Value} {mg mb : Str → Option Value} {dp un : Nat} {gd : Option (List Code)} {cn : Str} {cs : Scope} {a : Addr} {ccd : Value} {cl : List (Str × Addr)} {outer : List Env} {A₀ : Around} {base h₀ : Heap} {L : Addr} {m : Str → Option Value} {news : List (Addr × Obj)} {s : Shared} {Q E : Value → Shared → Prop}

theorem great_call {c : Nat} {t : Tok} (hB : Below A₀ base outer h₀) (F : Fr h₀ L s.heap m) (hK : (hd.heap_1 w.params).In h₀) (N : News h₀ L s.heap news) (hT : Top vw loose mean mg mb h₀) (hcs : cs.kind = .function)
    (hdp : dp + 2 < recursionLimit) (hun : un + 20 < cLine) (hret : RetS h₀ L m news s Q (tx [great c])) :
    wpAny (model PySem.Challenge.rw_pf0006_01.row.prog w) (ktrTop dp un gd cn cs L a ccd cl outer) (call (.ref 86) [.str ⟨#[c]⟩ t]) Q E s := by
  w_on
  revert hK; k_fill; intro hK
  refine wpAny_call ?_
  k_dflt cell_enter
  rename_i g L1 hp1 FG F1 N1 B1 X1 T1
  replace F1 : Fr g L1 hp1 (fun y => List.lookup y [(Str.ofString "sign", .str ⟨#[c]⟩ t)]) := F1
  (try k_gentoks)
  k_steps
  · simp only [lt_a'] at *
    exact RetS.go hret (by simp [great]; omega) (by assumption) (by assumption)
  · simp only [z_lt', lt_a'] at *
    exact RetS.go hret (by simp [great]; omega) (by assumption) (by assumption)
  · simp only [z_lt', lt_a'] at *
    refine chr_of_range (by omega) (by omega) ?_
    k_steps
    exact RetS.go hret (one_eq (by unfold great; split <;> omega)) (by assumption) (by assumption)

local macro_rules | `(tactic| walk_at "call ref") => `(tactic| (k_here; (with_reducible show wpAny _ _ (call (Value.ref 86) [Value.str _ _]) _ _ _); k_dflt (refine' great_call ?k1 ?k2 ?k3 ?k4 ?k5 ?k6 ?k7 ?k8 ?_; (case k1 => k_asm); (case k2 => k_asm); (case k3 => k_asm); (case k4 => k_asm); (case k5 => k_asm); (case k6 => first | exact rfl | assumption); (case k7 => ktr_room); (case k8 => ktr_units); k_whole; intro t9 h9 tk9 F9 N9; (try dsimp only); (try k_fold))))

theorem es_call {c : Nat} {t : Tok} {f : Int} {tf : Tok} (hc : c < 1114112) (h0 : 0 ≤ f) (h1 : f < 512) (hB : Below A₀ base outer h₀) (F : Fr h₀ L s.heap m) (hK : (hd.heap_1 w.params).In h₀) (N : News h₀ L s.heap news) (hT : Top vw loose mean mg mb h₀) (hcs : cs.kind = .function)
    (hdp : dp + 4 < recursionLimit) (hun : un + 40 < cLine) (hret : RetS h₀ L m news s Q (tx (eSign f c))) :
    wpAny (model PySem.Challenge.rw_pf0006_01.row.prog w) (ktrTop dp un gd cn cs L a ccd cl outer) (call (.ref 93) [.str ⟨#[c]⟩ t, .int f tf]) Q E s := by
  w_on
  revert hK; k_fill; intro hK
  refine wpAny_call ?_
  k_dflt cell_enter
  rename_i g L1 hp1 FG F1 N1 B1 X1 T1
  replace F1 : Fr g L1 hp1 (fun y => List.lookup y [(Str.ofString "flags", .int f tf), (Str.ofString "sign", .str ⟨#[c]⟩ t)]) := F1
  (try k_gentoks)
  k_steps
  rw [low_chr]
  refine chr_of_range (by omega) (by omega) ?_
  rw [Int.toNat_natCast]
  k_steps
  all_goals (
    simp only [ne_eq, band0 h0 h1, band1 h0 h1, band2 h0 h1, band5 h0 h1, band6 h0 h1, Bool.not_eq_false, occ_bl, occ_dr, occ_br, beq_lb, Bool.not_eq_true', Bool.not_eq_false'] at *
    exact RetS.go hret (by (try rw [str_lp]); (try rw [str_rp]); (try rw [str_no]); simp_all [eSign, low7]) (by assumption) (by assumption))
end
end Mine
end
section
open PySem PySem.W PyProof.Rows
namespace Mine
set_option maxRecDepth 100000
set_option maxHeartbeats 8000000
local macro_rules | `(tactic| tb_start) => `(tactic| repeat ((fail_if_success (with_reducible show wpAny _ _ (exec (Stmt.While _ _ _ _) _) _ _ _)); (first | (k_unfold; (try dsimp only)) | walk1 | (dsimp only; walk1))))
section
variable {w : World} {loose : List Str} {mean : ExcName → Option Value} {mg mb : Str → Option Value} {dp un : Nat} {gd : Option (List Code)} {cn : Str} {cs : Scope} {a : Addr} {ccd : Value} {cl : List (Str × Addr)} {outer : List Env} {A₀ : Around} {base h₀ : Heap} {L : Addr} {m : Str → Option Value} {news : List (Addr × Obj)} {s : Shared} {Q E : Value → Shared → Prop}

theorem left_call {l : List Nat} {t tb : Tok} (hl : l.length ≤ 8) (hB : Below A₀ base outer h₀) (F : Fr h₀ L s.heap m) (hK : (hd.heap_1 w.params).In h₀) (N : News h₀ L s.heap news) (hT : Top vw loose mean mg mb h₀) (hcs : cs.kind = .function)
    (hdp : dp + 2 < recursionLimit) (hun : un + 20 < cLine) (hret : RetS h₀ L m news s Q (tx (l.dropWhile isBl))) :
    wpAny (model PySem.Challenge.rw_pf0006_01.row.prog w) (ktrTop dp un gd cn cs L a ccd cl outer) (call (.ref 72) [.str (tx l) t, .str (Str.ofString " \t") tb]) Q E s := by
  w_on
  revert hK; k_fill; intro hK
  refine wpAny_call ?_
  k_dflt cell_enter
  rename_i g L1 hp1 FG F1 N1 B1 X1 T1
  replace F1 : Fr g L1 hp1 (fun y => List.lookup y [(Str.ofString "signs", .str (Str.ofString " \t") tb), (Str.ofString "text", .str (tx l) t)]) := F1
  (try k_gentoks)
  tb_start
  rename_i F2 N2
  clear F N
  refine While_inv (fun n m' nw => news = nw ∧ ∃ (k : Nat) (tk : Tok), n = l.length - k ∧ k ≤ l.length ∧ (∀ i (hi : i < l.length), i < k → isBl l[i] = true) ∧
    m' = fun y => if y = Str.ofString "at" then some (.int (k : Int) tk) else List.lookup y [(Str.ofString "signs", .str (Str.ofString " \t") tb), (Str.ofString "text", .str (tx l) t)])
    (n₀ := l.length) F2 N2 ⟨rfl, 0, _, rfl, Nat.zero_le _, (fun _ _ h => absurd h (Nat.not_lt_zero _)), rfl⟩ ?_
  clear F2 N2
  rintro n m1 nw h2 tk2 F1 N1 ⟨rfl, k, tk, rfl, hk, hall, rfl⟩
  have hx : (tx l).length = l.length := tx_len l
  k_steps
  · rename (Builtin.Str.occurrences _ _ _ _ _).isEmpty = _ => ho
    have hk' : k < l.length := by omega
    rw [item_tx l k hk', occ_bl] at ho
    exact RetS.go hret (by rw [sl_from l k hk]; congr 2; exact drop_bl isBl l k hk hall (fun _ => by simpa using ho)) (by assumption) (by assumption)
  · rename (Builtin.Str.occurrences _ _ _ _ _).isEmpty = _ => ho
    have hk' : k < l.length := by omega
    rw [item_tx l k hk', occ_bl] at ho
    refine' WhileStep.intro (n' := l.length - (k + 1)) (by assumption) (by assumption) (by omega) ⟨rfl, k + 1, ?tk, rfl, hk', ?ha, ?hm⟩
    case hm => exact mset
    case ha =>
      intro i hi h
      by_cases e : i = k
      · subst e; simpa using ho
      · exact hall i hi (by omega)
  · exact RetS.go hret (by rw [sl_from l k hk]; congr 2; exact drop_bl isBl l k hk hall (fun h => by omega)) (by assumption) (by assumption)
end
end Mine
end
section
open PySem PySem.W PyProof.Rows
namespace Mine
set_option maxRecDepth 100000
set_option maxHeartbeats 8000000
local macro_rules | `(tactic| tb_start) => `(tactic| repeat ((fail_if_success (with_reducible show wpAny _ _ (exec (Stmt.While _ _ _ _) _) _ _ _)); (first | (k_unfold; (try dsimp only)) | walk1 | (dsimp only; walk1))))

/-- the blanks at the end gone -/
def rst (l : List Nat) : List Nat := (l.reverse.dropWhile isBl).reverse
theorem take_bl (p : Nat → Bool) (l : List Nat) (k : Nat) (hk : k ≤ l.length) (ha : ∀ i (hi : i < l.length), k ≤ i → p l[i] = true) (hs : ∀ h : 0 < k, p (l[k - 1]'(by omega)) = false) : l.take k = (l.reverse.dropWhile p).reverse := by
  have e := drop_bl p l.reverse (l.length - k) (by simp) (fun i hi h => by
    rw [List.getElem_reverse]
    exact ha _ _ (by simp at hi; omega)) (fun h => by
    rw [List.getElem_reverse]
    have := hs (by simp at h; omega)
    have e2 : l.length - 1 - (l.length - k) = k - 1 := by omega
    simpa [e2] using this)
  rw [← e, List.drop_reverse, List.reverse_reverse]
  congr 1
  omega

section
variable {w : World} {loose : List Str} {mean : ExcName → Option Value} {mg mb : Str → Option Value} {dp un : Nat} {gd : Option (List Code)} {cn : Str} {cs : Scope} {a : Addr} {ccd : Value} {cl : List (Str × Addr)} {outer : List Env} {A₀ : Around} {base h₀ : Heap} {L : Addr} {m : Str → Option Value} {news : List (Addr × Obj)} {s : Shared} {Q E : Value → Shared → Prop}

theorem right_call {l : List Nat} {t tb : Tok} (hl : l.length ≤ 8) (hB : Below A₀ base outer h₀) (F : Fr h₀ L s.heap m) (hK : (hd.heap_1 w.params).In h₀) (N : News h₀ L s.heap news) (hT : Top vw loose mean mg mb h₀) (hcs : cs.kind = .function)
    (hdp : dp + 2 < recursionLimit) (hunU : un + 20 < cLine) (hret : RetS h₀ L m news s Q (tx (rst l))) :
    wpAny (model PySem.Challenge.rw_pf0006_01.row.prog w) (ktrTop dp un gd cn cs L a ccd cl outer) (call (.ref 79) [.str (tx l) t, .str (Str.ofString " \t") tb]) Q E s := by
  w_on
  revert hK; k_fill; intro hK
  refine wpAny_call ?_
  k_dflt cell_enter
  rename_i g L1 hp1 FG F1 N1 B1 X1 T1
  replace F1 : Fr g L1 hp1 (fun y => List.lookup y [(Str.ofString "signs", .str (Str.ofString " \t") tb), (Str.ofString "text", .str (tx l) t)]) := F1
  clear F N
  have hx : (tx l).length = l.length := tx_len l
  (try k_gentoks)
  tb_start
  rename_i F2 N2
  refine While_inv (fun n m' nw => news = nw ∧ ∃ (k : Nat) (tk : Tok), n = k ∧ k ≤ l.length ∧ (∀ i (hi : i < l.length), k ≤ i → isBl l[i] = true) ∧
    m' = fun y => if y = Str.ofString "end" then some (.int (k : Int) tk) else List.lookup y [(Str.ofString "signs", .str (Str.ofString " \t") tb), (Str.ofString "text", .str (tx l) t)])
    (n₀ := l.length) F2 N2 ⟨rfl, l.length, _, rfl, Nat.le_refl _, (fun i h h2 => absurd h2 (Nat.not_le.mpr h)), by rw [← hx]⟩ ?_
  clear F2 N2
  rintro n m1 nw h2 tk2 F1 N1 ⟨rfl, k, tk, rfl, hk, hall, rfl⟩
  have hz : 0 < n → ((n : Int) - 1) = ((n - 1 : Nat) : Int) := fun h => by omega
  k_steps
  · rename (Builtin.Str.occurrences _ _ _ _ _).isEmpty = _ => ho
    have hn : 0 < n := by omega
    rw [hz hn, item_tx l (n - 1) (by omega), occ_bl] at ho
    exact RetS.go hret (by rw [sl_to l n hk]; exact congrArg tx (take_bl isBl l n hk hall (fun _ => by simpa using ho))) (by assumption) (by assumption)
  · rename (Builtin.Str.occurrences _ _ _ _ _).isEmpty = _ => ho
    have hn : 0 < n := by omega
    rw [hz hn, item_tx l (n - 1) (by omega), occ_bl] at ho
    refine' WhileStep.intro (n' := n - 1) (by assumption) (by assumption) (by omega) ⟨rfl, n - 1, ?tk, rfl, by omega, ?ha, ?hm⟩
    case hm => rw [← hz hn]; exact mset
    case ha =>
      intro i hi h
      by_cases e : i = n - 1
      · subst e; simpa using ho
      · exact hall i hi (by omega)
  · have hn : n = 0 := by omega
    subst hn
    exact RetS.go hret (by rw [sl_to l 0 hk]; exact congrArg tx (take_bl isBl l 0 hk hall (fun h => absurd h (Nat.lt_irrefl _)))) (by assumption) (by assumption)

theorem textof_call {x : Str} {t : Tok} (hB : Below A₀ base outer h₀) (F : Fr h₀ L s.heap m) (hK : (hd.heap_1 w.params).In h₀) (N : News h₀ L s.heap news) (hT : Top vw loose mean mg mb h₀) (hcs : cs.kind = .function)
    (hdp : dp + 2 < recursionLimit) (hunU : un + 20 < cLine) (hret : RetS h₀ L m news s Q x) :
    wpAny (model PySem.Challenge.rw_pf0006_01.row.prog w) (ktrTop dp un gd cn cs L a ccd cl outer) (call (.ref 65) [.str x t]) Q E s := by
  w_on
  revert hK; k_fill; intro hK
  refine wpAny_call ?_
  k_dflt cell_enter
  rename_i g L1 hp1 FG F1 N1 B1 X1 T1
  replace F1 : Fr g L1 hp1 (fun y => List.lookup y [(Str.ofString "value", .str x t)]) := F1
  clear F N
  (try k_gentoks)
  k_steps
  exact hret _ _ _ (by assumption) (by assumption)

theorem figures_call {n : Int} {t : Tok} (h0 : 0 ≤ n) (h1 : n < 100000) (hB : Below A₀ base outer h₀) (F : Fr h₀ L s.heap m) (hK : (hd.heap_1 w.params).In h₀) (N : News h₀ L s.heap news) (hT : Top vw loose mean mg mb h₀) (hcs : cs.kind = .function)
    (hdp : dp + 2 < recursionLimit) (hunU : un + 20 < cLine) (hret : ∀ k : Int, 1 ≤ k → k ≤ 1000000 → RetI h₀ L m news s Q k) :
    wpAny (model PySem.Challenge.rw_pf0006_01.row.prog w) (ktrTop dp un gd cn cs L a ccd cl outer) (call (.ref 44) [.int n t]) Q E s := by
  w_on
  revert hK; k_fill; intro hK
  refine wpAny_call ?_
  k_dflt cell_enter
  rename_i g L1 hp1 FG F1 N1 B1 X1 T1
  replace F1 : Fr g L1 hp1 (fun y => List.lookup y [(Str.ofString "number", .int n t)]) := F1
  clear F N
  generalize s.toks + List.length _ = tk0
  tb_start
  rename_i F2 N2
  replace N2 := cb_drop (news := news) N2 (fun _ h => List.mem_cons_of_mem _ h)
  refine While_inv (fun n' m' nw => news = nw ∧ ∃ (k b : Int) (tk tb : Tok), n' = (1000000 - b).toNat ∧ 1 ≤ k ∧ k ≤ b ∧ 10 ≤ b ∧ b ≤ 1000000 ∧
    m' = fun y => if y = Str.ofString "bound" then some (.int b tb) else if y = Str.ofString "many" then some (.int k tk) else List.lookup y [(Str.ofString "number", .int n t)])
    (n₀ := 999990) F2 N2 ⟨rfl, 1, 10, _, _, by decide, by decide, by decide, by decide, by decide, rfl⟩ ?_
  clear F2 N2
  rintro n' m1 nw h2 tk2 F1 N1 ⟨rfl, k, b, tk, tb, hm, hk, hkb, hb, hb2, rfl⟩
  k_steps
  · refine' WhileStep.intro (n' := (1000000 - b * 10).toNat) (by assumption) (by assumption) (by omega) ⟨rfl, k + 1, b * 10, ?tk, ?tb, rfl, by omega, by omega, by omega, by omega, ?hm⟩
    case hm => exact mset2 (x := Str.ofString "many") (z := Str.ofString "bound") (by decide)
  · exact hret k (by omega) (by omega) _ _ _ (by assumption) (by assumption)

end
end Mine
end
section
open PySem PySem.W PyProof.Rows
namespace Mine
set_option maxRecDepth 100000
set_option maxHeartbeats 8000000
section
variable {w : World} {loose : List Str} {mean : ExcName → Option Value} {mg mb : Str → Option Value} {dp un : Nat} {gd : Option (List Code)} {cn : Str} {cs : Scope} {a : Addr} {ccd : Value} {cl : List (Str × Addr)} {outer : List Env} {A₀ : Around} {base h₀ : Heap} {L : Addr} {m : Str → Option Value} {news : List (Addr × Obj)} {s : Shared} {Q E : Value → Shared → Prop}

local macro_rules | `(tactic| walk_at "call ref") => `(tactic| (k_here; (with_reducible show wpAny _ _ (call (Value.ref 44) [Value.int _ _]) _ _ _); k_dflt (refine' figures_call ?z1 ?z2 ?k1 ?k2 ?k3 ?k4 ?k5 ?k6 ?k7 ?k8 ?_; (case z1 => omega); (case z2 => omega); (case k1 => k_asm); (case k2 => k_asm); (case k3 => k_asm); (case k4 => k_asm); (case k5 => k_asm); (case k6 => first | exact rfl | assumption); (case k7 => ktr_room); (case k8 => ktr_units); k_whole; intro k9 hk9 hk9' t9 h9 tk9 F9 N9; (try dsimp only); (try k_fold))))

/-- the tenth, rounded half to even -/
def tenth (n : Int) : Int := if 2 * (n % 10) > 10 ∨ (2 * (n % 10) = 10 ∧ n / 10 % 2 = 1) then n / 10 + 1 else n / 10

theorem rounded_call {n : Int} {t u : Tok} (h0 : 0 ≤ n) (h1 : n < 100000) (hB : Below A₀ base outer h₀) (F : Fr h₀ L s.heap m) (hK : (hd.heap_1 w.params).In h₀) (N : News h₀ L s.heap news) (hT : Top vw loose mean mg mb h₀) (hcs : cs.kind = .function)
    (hdp : dp + 4 < recursionLimit) (hunU : un + 40 < cLine) (hret : RetI h₀ L m news s Q (tenth n)) :
    wpAny (model PySem.Challenge.rw_pf0006_01.row.prog w) (ktrTop dp un gd cn cs L a ccd cl outer) (call (.ref 51) [.int n t, .int 1 u]) Q E s := by
  w_on
  revert hK; k_fill; intro hK
  refine wpAny_call ?_
  k_dflt cell_enter
  rename_i g L1 hp1 FG F1 N1 B1 X1 T1
  replace F1 : Fr g L1 hp1 (fun y => List.lookup y [(Str.ofString "places", .int 1 u), (Str.ofString "number", .int n t)]) := F1
  clear F N
  generalize s.toks + List.length _ = tk0
  k_steps
  all_goals (
    have e10 : (10 : Int) ^ Int.toNat 1 = 10 := by decide
    simp only [e10, Int.fdiv_eq_ediv_of_nonneg _ (by decide : (0 : Int) ≤ 10), Int.fmod_eq_emod_of_nonneg _ (by decide : (0 : Int) ≤ 10), Int.fmod_eq_emod_of_nonneg _ (by decide : (0 : Int) ≤ 2)] at *
    exact RetI.go hret (by unfold tenth; split <;> omega) (by assumption) (cb_drop (news := news) (by assumption) (fun _ h => List.mem_cons_of_mem _ h)))
end
end Mine
end
section
open PySem PySem.W PyProof.Rows
namespace Mine
def isQu (c : Nat) : Bool := c == 34 || c == 39
theorem eSign_one (f : Int) (c : Nat) : eSign f c = [] ∨ ∃ x, eSign f c = [x] := by
  unfold eSign
  repeat' split
  all_goals first | exact .inl rfl | exact .inr ⟨_, rfl⟩
/-- what a sign outside quotes lays behind what is found -/
def laid (f : Int) (found : List Nat) (c : Nat) : List Nat :=
  match eSign f c with
  | [] => []
  | x :: _ => if isBl x then (if bt f 3 && found.isEmpty then [] else if bt f 4 then (if found.getLast? = some 32 then [] else [32]) else [x]) else [x]
structure Ed where
  found : List Nat
  kept : Nat
  quote : Option Nat
def Ed.step (f : Int) (d : Ed) (c : Nat) : Ed :=
  match d.quote with
  | some q => ⟨d.found ++ [c], d.found.length + 1, if c = q then none else some q⟩
  | none => ⟨d.found ++ laid f d.found c, d.kept, if bt f 8 && isQu c then some c else none⟩
def Ed.run (f : Int) (l : List Nat) : Ed := l.foldl (Ed.step f) ⟨[], 0, none⟩
def ed (f : Int) (l : List Nat) : List Nat :=
  let d := Ed.run f l
  d.found.take d.kept ++ (if bt f 7 then rst (d.found.drop d.kept) else d.found.drop d.kept)
def qs (q : Option Nat) : List Nat := match q with | none => [] | some c => [c]
abbrev signs1 (l : List Nat) : List PySem.Str := l.map fun c => tx [c]

theorem laid_len (f : Int) (F : List Nat) (c : Nat) : (laid f F c).length ≤ 1 := by
  unfold laid
  repeat' split
  all_goals simp
theorem run_snoc (f : Int) (l : List Nat) (c : Nat) : Ed.run f (l ++ [c]) = Ed.step f (Ed.run f l) c := by
  unfold Ed.run; rw [List.foldl_append]; rfl
theorem step_len (f : Int) (d : Ed) (c : Nat) : (Ed.step f d c).found.length ≤ d.found.length + 1 ∧ (d.kept ≤ d.found.length → (Ed.step f d c).kept ≤ (Ed.step f d c).found.length) := by
  unfold Ed.step
  have := laid_len f d.found c
  split
  · simp
  · constructor
    · simp; omega
    · intro h; simp; omega
theorem run_rev (f : Int) : ∀ l : List Nat, (Ed.run f l.reverse).found.length ≤ l.length ∧ (Ed.run f l.reverse).kept ≤ (Ed.run f l.reverse).found.length
  | [] => ⟨Nat.le_refl _, Nat.le_refl _⟩
  | c :: l => by
    rw [List.reverse_cons, run_snoc, List.length_cons]
    have ih := run_rev f l
    have st := step_len f (Ed.run f l.reverse) c
    exact ⟨by omega, st.2 ih.2⟩
theorem run_len (f : Int) (l : List Nat) : (Ed.run f l).found.length ≤ l.length ∧ (Ed.run f l).kept ≤ (Ed.run f l).found.length := by
  have := run_rev f l.reverse
  simpa using this
theorem laid_n {f : Int} {n : Nat} {F : List Nat} (e : eSign f n = []) : laid f F n = [] := by unfold laid; rw [e]
theorem laid_a {f : Int} {n x : Nat} {F : List Nat} (e : eSign f n = [x]) (h : isBl x = false) : [x] = laid f F n := by unfold laid; rw [e]; simp [h]
theorem laid_b {f : Int} {n x : Nat} {F : List Nat} (e : eSign f n = [x]) (h : isBl x = true) (h3 : bt f 3 = true) (hl : F.length = 0) : [] = laid f F n := by
  have hF : F = [] := List.eq_nil_of_length_eq_zero hl
  unfold laid; rw [e]; simp [h, h3, hF]
theorem laid_c {f : Int} {n x y : Nat} {F : List Nat} (e : eSign f n = [x]) (h : isBl x = true) (h4 : bt f 4 = true) (hl : F.getLast? = some y) (hy : (y == 32) = true) : [] = laid f F n := by
  have hF : F ≠ [] := by intro e2; rw [e2] at hl; cases hl
  have := eq_of_beq hy
  subst this
  unfold laid; rw [e]; simp [h, h4, hl, hF]
theorem laid_d {f : Int} {n x y : Nat} {F : List Nat} (e : eSign f n = [x]) (h : isBl x = true) (h4 : bt f 4 = true) (hl : F.getLast? = some y) (hy : (y == 32) = false) : [32] = laid f F n := by
  have hF : F ≠ [] := by intro e2; rw [e2] at hl; cases hl
  have := ne_of_beq_false hy
  unfold laid; rw [e]; simp [h, h4, hl, hF, this]
theorem laid_d' {f : Int} {n x : Nat} {F : List Nat} (e : eSign f n = [x]) (h : isBl x = true) (h3 : bt f 3 = false) (h4 : bt f 4 = true) (hl : F.length = 0) : [32] = laid f F n := by
  have hF : F = [] := List.eq_nil_of_length_eq_zero hl
  unfold laid; rw [e]; simp [h, h4, h3, hF]
theorem laid_e {f : Int} {n x : Nat} {F : List Nat} (e : eSign f n = [x]) (h3 : bt f 3 = false) (h4 : bt f 4 = false) : [x] = laid f F n := by
  unfold laid; rw [e]; simp [h4, h3]
theorem laid_f {f : Int} {n x : Nat} {F : List Nat} (e : eSign f n = [x]) (hl : F.length ≠ 0) (h4 : bt f 4 = false) : [x] = laid f F n := by
  have hF : F ≠ [] := fun e2 => hl (by rw [e2]; rfl)
  unfold laid; rw [e]; simp [h4, hF]
theorem beq_sp (c : Nat) : (tx [c] == Str.ofString " ") = (c == 32) := beq_one c _ 32 (by decide +kernel)
theorem str_sp : Str.ofString " " = tx [32] := by decide +kernel
theorem occ_bl' (c : Nat) : (Builtin.Str.occurrences (Str.ofString " \t") (tx [c]) 0 (Str.ofString " \t").length 1).isEmpty = !(isBl c) := occ_bl c
end Mine
end
section
open PySem PySem.W PyProof.Rows
namespace Mine
theorem item_news {prog : Program} {w : World} {A : Around} {E : Value → Shared → Prop} {s : Shared} {h₀ : Heap} {L : Addr} {news : List (Addr × Obj)} {value slice : PySem.Expr} {l : Addr} {its : Array Value} {n : Nat} {k : Int} {u : Tok} {v : Value} {Q : Value → Shared → Prop}
    (N : News h₀ L s.heap news) (hl : (l, ({ cls := .type "list", data := .seq its n } : Obj)) ∈ news) (h0 : 0 ≤ k) (hhi : k < 2 ^ 63) (hx : its[k.toNat]? = some v) (h : Q v s)
    (hs : subscripted slice false (.ref l) (.int k u) = operate [.ref l, .int k u] (getItem (.ref l) (.int k u)) := by with_unfolding_all rfl) :
    wpAny (model prog w) A (subscriptTail value slice (.ref l) (.int k u)) Q E s :=
  have hl' : s.heap.IsList l its := ⟨_, (N _ hl).1, rfl, n, rfl⟩
  tail_any hl'.typeIs slot_list_getitem.lookup (wpAny_getItem_list hl' h0 hhi hx h) hs
theorem item_news_neg {prog : Program} {w : World} {A : Around} {E : Value → Shared → Prop} {s : Shared} {h₀ : Heap} {L : Addr} {news : List (Addr × Obj)} {value slice : PySem.Expr} {l : Addr} {its : Array Value} {n : Nat} {k : Int} {u : Tok} {v : Value} {Q : Value → Shared → Prop}
    (N : News h₀ L s.heap news) (hl : (l, ({ cls := .type "list", data := .seq its n } : Obj)) ∈ news) (h0 : k < 0) (h1 : -(its.size : Int) ≤ k) (hfit : -(2 ^ 63) ≤ k) (hx : its[(k + its.size).toNat]? = some v) (h : Q v s)
    (hs : subscripted slice false (.ref l) (.int k u) = operate [.ref l, .int k u] (getItem (.ref l) (.int k u)) := by with_unfolding_all rfl) :
    wpAny (model prog w) A (subscriptTail value slice (.ref l) (.int k u)) Q E s :=
  have hl' : s.heap.IsList l its := ⟨_, (N _ hl).1, rfl, n, rfl⟩
  tail_any hl'.typeIs slot_list_getitem.lookup (wpAny_getItem_list_neg hl' h0 h1 hfit hx h) hs
theorem item0_news {prog : Program} {w : World} {A : Around} {E : Value → Shared → Prop} {s : Shared} {h₀ : Heap} {L : Addr} {news : List (Addr × Obj)} {value slice : PySem.Expr} {l : Addr} {r : List Value} {n : Nat} {u : Tok} {v : Value} {Q : Value → Shared → Prop}
    (N : News h₀ L s.heap news) (hl : (l, ({ cls := .type "list", data := .seq (v :: r).toArray n } : Obj)) ∈ news) (h : Q v s)
    (hs : subscripted slice false (.ref l) (.int 0 u) = operate [.ref l, .int 0 u] (getItem (.ref l) (.int 0 u)) := by with_unfolding_all rfl) :
    wpAny (model prog w) A (subscriptTail value slice (.ref l) (.int 0 u)) Q E s := item_news N hl (by decide) (by decide) (by simp) h hs
theorem item1_news {prog : Program} {w : World} {A : Around} {E : Value → Shared → Prop} {s : Shared} {h₀ : Heap} {L : Addr} {news : List (Addr × Obj)} {value slice : PySem.Expr} {l : Addr} {x : Value} {r : List Value} {n : Nat} {u : Tok} {v : Value} {Q : Value → Shared → Prop}
    (N : News h₀ L s.heap news) (hl : (l, ({ cls := .type "list", data := .seq (x :: v :: r).toArray n } : Obj)) ∈ news) (h : Q v s)
    (hs : subscripted slice false (.ref l) (.int 1 u) = operate [.ref l, .int 1 u] (getItem (.ref l) (.int 1 u)) := by with_unfolding_all rfl) :
    wpAny (model prog w) A (subscriptTail value slice (.ref l) (.int 1 u)) Q E s := item_news N hl (by decide) (by decide) (by simp) h hs
section
variable {prog : Program} {w : World} {A : Around} {E : Value → Shared → Prop} {s : Shared} {h₀ : Heap} {L : Addr} {m : Str → Option Value}
theorem append_hd {D : Addr} {vs : List Value} {n : Nat} {R : List (Addr × Obj)} {x : Value} {Q : Value → Shared → Prop} (F : Fr h₀ L s.heap m) (N : News h₀ L s.heap ((D, listOf vs.toArray n) :: R)) (hR : ∀ p ∈ R, p.1 ≠ D) (hsz : vs.length ≤ sizeLine)
    (h : ∀ h', Fr h₀ L h' m → News h₀ L h' ((D, listOf (vs ++ [x]).toArray (n + 1)) :: R) → Q .none { s with heap := h' }) : wpAny (model prog w) A (call (.builtin "list.append") [.ref D, x]) Q E s :=
  append_K F N (.head hR) (fun h' F' N' => h h' F' (by rw [show (vs ++ [x]).toArray = vs.toArray.push x from by simp]; exact N')) (by rw [List.size_toArray]; exact hsz)
theorem last_news {value slice : PySem.Expr} {l : Addr} {vs : List Value} {found : List Nat} {n : Nat} {u : Tok} {news : List (Addr × Obj)} {Q : Value → Shared → Prop}
    (N : News h₀ L s.heap news) (hl : (l, listOf vs.toArray n) ∈ news) (hS : StrsAre vs (signs1 found)) (h0 : 0 < found.length) (h1 : found.length ≤ 100)
    (h : ∀ x t, found.getLast? = some x → Q (.str (tx [x]) t) s)
    (hs : subscripted slice false (.ref l) (.int (-1) u) = operate [.ref l, .int (-1) u] (getItem (.ref l) (.int (-1) u)) := by with_unfolding_all rfl) :
    wpAny (model prog w) A (subscriptTail value slice (.ref l) (.int (-1) u)) Q E s := by
  have hvl : vs.length = found.length := by have := hS.length; simpa using this
  have e1 : (((-1 : Int) + (vs.toArray.size : Nat)).toNat) = found.length - 1 := by rw [List.size_toArray, hvl]; omega
  have hx : found[found.length - 1]? = some (found[found.length - 1]'(by omega)) := List.getElem?_eq_getElem (by omega)
  obtain ⟨t, ht⟩ := hS.get (found.length - 1) (tx [found[found.length - 1]'(by omega)]) (by simp [signs1, hx])
  exact item_news_neg N hl (by decide) (by rw [List.size_toArray, hvl]; omega) (by decide) (by rw [e1]; simpa using ht) (h _ t (by rw [List.getLast?_eq_getElem?, hx])) hs
end
end Mine
end
section
open PySem PySem.W PyProof.Rows
namespace Mine
set_option maxRecDepth 100000
set_option maxHeartbeats 8000000
section
variable {w : World} {loose : List Str} {mean : ExcName → Option Value} {mg mb : Str → Option Value} {dp un : Nat} {gd : Option (List Code)} {cn : Str} {cs : Scope} {a : Addr} {ccd : Value} {cl : List (Str × Addr)} {outer : List Env} {A₀ : Around} {base h₀ : Heap} {L : Addr} {m : Str → Option Value} {news : List (Addr × Obj)} {s : Shared} {Q E : Value → Shared → Prop}

local macro_rules | `(tactic| walk_at "call ref") => `(tactic| (k_here; (with_reducible show wpAny _ _ (call (Value.ref 51) [Value.int _ _, Value.int _ _]) _ _ _); k_dflt (refine' rounded_call ?z1 ?z2 ?k1 ?k2 ?k3 ?k4 ?k5 ?k6 ?k7 ?k8 ?_; (case z1 => split <;> omega); (case z2 => split <;> omega); (case k1 => k_asm); (case k2 => k_asm); (case k3 => k_asm); (case k4 => k_asm); (case k5 => k_asm); (case k6 => first | exact rfl | assumption); (case k7 => ktr_room); (case k8 => ktr_units); k_whole; intro t9 h9 tk9 F9 N9; (try dsimp only); (try k_fold))))
local macro_rules | `(tactic| k_mem) => `(tactic| first | assumption | exact List.Mem.head _ | (refine' List.Mem.tail _ ?_; k_mem))
theorem whole_call {T : Addr} {nT : Nat} {n : Int} {t u : Tok} (hTu : (T, ({ cls := .type "tuple", data := .seq #[.int n t, .int (-1) u] nT } : Obj)) ∈ news) (h0 : -100000 < n) (h1 : n < 100000) (hB : Below A₀ base outer h₀) (F : Fr h₀ L s.heap m) (hK : (hd.heap_1 w.params).In h₀) (N : News h₀ L s.heap news) (hT : Top vw loose mean mg mb h₀) (hcs : cs.kind = .function)
    (hdp : dp + 6 < recursionLimit) (hunU : un + 60 < cLine) (hret : RetI h₀ L m news s Q (if n < 0 then - tenth (-n) else tenth n)) :
    wpAny (model PySem.Challenge.rw_pf0006_01.row.prog w) (ktrTop dp un gd cn cs L a ccd cl outer) (call (.ref 58) [.ref T]) Q E s := by
  w_on
  revert hK; k_fill; intro hK
  refine wpAny_call ?_
  k_dflt cell_enter
  rename_i g L1 hp1 FG F1 N1 B1 X1 T1
  replace F1 : Fr g L1 hp1 (fun y => List.lookup y [(Str.ofString "value", .ref T)]) := F1
  clear F N
  generalize s.toks + List.length _ = tk0
  k_steps
  try (k_dflt (refine' rounded_call ?y1 ?y2 ?y3 ?y4 ?y5 ?y6 ?y7 ?y8 ?y9 ?y0 ?_; (case y1 => split <;> omega); (case y2 => split <;> omega); (case y3 => k_asm); (case y4 => k_asm); (case y5 => k_asm); (case y6 => k_asm); (case y7 => k_asm); (case y8 => first | exact rfl | assumption); (case y9 => ktr_room); (case y0 => ktr_units); intro t9 h9 tk9 F9 N9; (try dsimp only); (try k_fold)); k_steps)
  · rename (n < 0) => hn
    simp only [if_pos hn] at *
    exact RetI.go hret rfl (by assumption) (by assumption)
  · rename (¬ (n < 0)) => hn
    simp only [if_neg hn] at *
    exact RetI.go hret rfl (by assumption) (by assumption)

local macro_rules | `(tactic| walk_at "subscriptTail") => `(tactic| (k_here; (with_reducible show wpAny _ _ (subscriptTail _ _ (Value.ref _) (Value.int 0 _)) _ _ _); k_dflt (refine' item0_news ?N ?k1 ?_; (case N => k_asm); (case k1 => k_mem); k_whole)))
local macro_rules | `(tactic| walk_at "call ref") => `(tactic| (k_here; (with_reducible show wpAny _ _ (call (Value.ref 65) [Value.str _ _]) _ _ _); k_dflt (refine' textof_call ?k1 ?k2 ?k3 ?k4 ?k5 ?k6 ?k7 ?k8 ?_; (case k1 => k_asm); (case k2 => k_asm); (case k3 => k_asm); (case k4 => k_asm); (case k5 => k_asm); (case k6 => first | exact rfl | assumption); (case k7 => ktr_room); (case k8 => ktr_units); k_whole; intro t9 h9 tk9 F9 N9; (try dsimp only); (try k_fold))))
local macro_rules | `(tactic| walk_at "call ref") => `(tactic| (k_here; (with_reducible show wpAny _ _ (call (Value.ref 72) [Value.str _ _, Value.str _ _]) _ _ _); k_dflt (refine' left_call ?z1 ?k1 ?k2 ?k3 ?k4 ?k5 ?k6 ?k7 ?k8 ?_; (case z1 => assumption); (case k1 => k_asm); (case k2 => k_asm); (case k3 => k_asm); (case k4 => k_asm); (case k5 => k_asm); (case k6 => first | exact rfl | assumption); (case k7 => ktr_room); (case k8 => ktr_units); k_whole; intro t9 h9 tk9 F9 N9; (try dsimp only); (try k_fold))))
local macro_rules | `(tactic| walk_at "call ref") => `(tactic| (k_here; (with_reducible show wpAny _ _ (call (Value.ref 79) [Value.str _ _, Value.str _ _]) _ _ _); k_dflt (refine' right_call ?z1 ?k1 ?k2 ?k3 ?k4 ?k5 ?k6 ?k7 ?k8 ?_; (case z1 => assumption); (case k1 => k_asm); (case k2 => k_asm); (case k3 => k_asm); (case k4 => k_asm); (case k5 => k_asm); (case k6 => first | exact rfl | assumption); (case k7 => ktr_room); (case k8 => ktr_units); k_whole; intro t9 h9 tk9 F9 N9; (try dsimp only); (try k_fold))))
theorem ltrim_call {W : Value} {T : Addr} {nT : Nat} {l : List Nat} {t : Tok} (hTu : (T, ({ cls := .type "list", data := .seq #[.str (tx l) t] nT } : Obj)) ∈ news) (hl : l.length ≤ 8) (hB : Below A₀ base outer h₀) (F : Fr h₀ L s.heap m) (hK : (hd.heap_1 w.params).In h₀) (N : News h₀ L s.heap news) (hT : Top vw loose mean mg mb h₀) (hcs : cs.kind = .function)
    (hdp : dp + 6 < recursionLimit) (hunU : un + 60 < cLine) (hret : RetS h₀ L m news s Q (tx (l.dropWhile isBl))) :
    wpAny (model PySem.Challenge.rw_pf0006_01.row.prog w) (ktrTop dp un gd cn cs L a ccd cl outer) (call (.ref 107) [W, .ref T]) Q E s := by
  w_on
  revert hK; k_fill; intro hK
  refine wpAny_call ?_
  k_dflt cell_enter
  rename_i g L1 hp1 FG F1 N1 B1 X1 T1
  replace F1 : Fr g L1 hp1 (fun y => List.lookup y [(Str.ofString "args", .ref T), (Str.ofString "world", W)]) := F1
  clear F N
  generalize s.toks + List.length _ = tk0
  k_steps
  exact RetS.go hret rfl (by assumption) (by assumption)

theorem rtrim_call {W : Value} {T : Addr} {nT : Nat} {l : List Nat} {t : Tok} (hTu : (T, ({ cls := .type "list", data := .seq #[.str (tx l) t] nT } : Obj)) ∈ news) (hl : l.length ≤ 8) (hB : Below A₀ base outer h₀) (F : Fr h₀ L s.heap m) (hK : (hd.heap_1 w.params).In h₀) (N : News h₀ L s.heap news) (hT : Top vw loose mean mg mb h₀) (hcs : cs.kind = .function)
    (hdp : dp + 6 < recursionLimit) (hunU : un + 60 < cLine) (hret : RetS h₀ L m news s Q (tx (rst l))) :
    wpAny (model PySem.Challenge.rw_pf0006_01.row.prog w) (ktrTop dp un gd cn cs L a ccd cl outer) (call (.ref 114) [W, .ref T]) Q E s := by
  w_on
  revert hK; k_fill; intro hK
  refine wpAny_call ?_
  k_dflt cell_enter
  rename_i g L1 hp1 FG F1 N1 B1 X1 T1
  replace F1 : Fr g L1 hp1 (fun y => List.lookup y [(Str.ofString "args", .ref T), (Str.ofString "world", W)]) := F1
  clear F N
  generalize s.toks + List.length _ = tk0
  k_steps
  exact RetS.go hret rfl (by assumption) (by assumption)
end
end Mine
end
section
open PySem PySem.W PyProof.Rows
namespace Mine
theorem tx_app (a b : List Nat) : tx a ++ tx b = tx (a ++ b) := by
  refine Str.ext' ?_
  rw [Str.cps_append]; simp
theorem join_ones (l : List Nat) : PySem.Txt.join (Str.ofString "") (signs1 l) = tx l := by
  show Builtin.Str.glued (Str.ofString "") (signs1 l) = tx l
  rw [StrLaws.glued_eq_join]
  induction l with
  | nil => rfl
  | cons c r ih =>
    cases r with
    | nil => rfl
    | cons d r =>
      show tx [c] ++ Str.ofString "" ++ Str.join _ (signs1 (d :: r)) = _
      rw [ih, str_no, tx_app, tx_app]
      rfl
section
variable {prog : Program} {w : World} {A : Around} {E : Value → Shared → Prop} {s : Shared} {h₀ : Heap} {L : Addr} {m : Str → Option Value}
theorem join_tx {D : Addr} {vs : List Value} {its : Array Value} {l : List Nat} {n : Nat} {news : List (Addr × Obj)} {u : Tok} {Q : Value → Shared → Prop} (N : News h₀ L s.heap news) (hm : (D, ({ cls := .type "list", data := .seq its n } : Obj)) ∈ news) (e : its = vs.toArray) (hS : StrsAre vs (signs1 l)) (hl : l.length ≤ 100)
    (h : ∀ t k, Q (.str (tx l) t) { s with toks := k }) : wpAny (model prog w) A (call (.builtin "str.join") [.str (Str.ofString "") u, .ref D]) Q E s := by
  subst e
  have hL : s.heap.IsList D vs.toArray := ⟨_, (N _ hm).1, rfl, n, rfl⟩
  have hC : CarriedAll vs (l.map fun c => PyData.str (tx [c])) := by simpa [signs1, Function.comp_def] using hS.carried
  refine KT.join_1 hL hC (fun c _ => by simp [Str.length]) (by omega) fun t k _ => ?_
  have := join_ones l
  rw [signs1] at this
  rw [this]
  exact h t k
theorem add_tx {a b : List Nat} {t u : Tok} {Q : Value → Shared → Prop} (hl : a.length + b.length ≤ 1000) (h : ∀ t k, Q (.str (tx (a ++ b)) t) { s with toks := k }) : wpAny (model prog w) A (binaryOp .Add (.str (tx a) t) (.str (tx b) u)) Q E s :=
  add_str (fun t' k => by rw [tx_app]; exact h t' k) (by rw [tx_len, tx_len, sizeLine_eq]; omega)
end
theorem rst_len (l : List Nat) : (rst l).length ≤ l.length := by
  unfold rst
  have := (List.dropWhile_sublist isBl (l := l.reverse)).length_le
  simpa using this
end Mine
end
section
open PySem PySem.W PyProof.Rows
namespace Mine
set_option maxRecDepth 100000
set_option maxHeartbeats 8000000
theorem neAll_cons {d : Addr} {p : Addr × Obj} {r : List (Addr × Obj)} (h : p.1 ≠ d) (t : ∀ q ∈ r, q.1 ≠ d) : ∀ q ∈ p :: r, q.1 ≠ d := List.forall_mem_cons.mpr ⟨h, t⟩
section
variable {w : World} {loose : List Str} {mean : ExcName → Option Value} {mg mb : Str → Option Value} {dp un : Nat} {gd : Option (List Code)} {cn : Str} {cs : Scope} {a : Addr} {ccd : Value} {cl : List (Str × Addr)} {outer : List Env} {A₀ : Around} {base h₀ : Heap} {L : Addr} {m : Str → Option Value} {news : List (Addr × Obj)} {s : Shared} {Q E : Value → Shared → Prop} {adr : List Addr}
local macro_rules | `(tactic| tb_start) => `(tactic| repeat ((fail_if_success (with_reducible show wpAny _ _ (exec (Stmt.For _ _ _ _ _) _) _ _ _)); (first | (k_unfold; (try dsimp only)) | walk1 | (dsimp only; walk1))))
local macro_rules | `(tactic| k_mem) => `(tactic| first | assumption | exact List.Mem.head _ | (refine' List.Mem.tail _ ?_; k_mem))
local macro_rules | `(tactic| k_all) => `(tactic| first | assumption | exact List.forall_mem_nil _ | (refine' neAll_cons ?a ?b; (case a => k_ne); (case b => k_all)))
local macro_rules | `(tactic| walk_at "call ref") => `(tactic| (k_here; (with_reducible show wpAny _ _ (call (Value.ref 93) [Value.str _ _, Value.int _ _]) _ _ _); k_dflt (refine' es_call ?z1 ?z2 ?z3 ?k1 ?k2 ?k3 ?k4 ?k5 ?k6 ?k7 ?k8 ?_; (case z1 => assumption); (case z2 => assumption); (case z3 => assumption); (case k1 => k_asm); (case k2 => k_asm); (case k3 => k_asm); (case k4 => k_asm); (case k5 => k_asm); (case k6 => first | exact rfl | assumption); (case k7 => ktr_room); (case k8 => ktr_units); k_whole; intro t9 h9 tk9 F9 N9; (try dsimp only); (try k_fold))))

local macro_rules | `(tactic| walk_at "call builtin:list.append") => `(tactic| (k_here; (with_reducible show wpAny _ _ (call (Value.builtin "list.append") _) _ _ _); k_dflt (refine' append_hd ?k1 ?k2 ?k3 ?k4 ?_; (case k1 => k_asm); (case k2 => k_asm); (case k3 => k_all); (case k4 => (rw [sizeLine_eq]; omega)); k_whole); intro h' F' N'))
local macro_rules | `(tactic| walk_at "call builtin:len") => `(tactic| (k_here; (with_reducible show wpAny _ _ (call (Value.builtin "len") [Value.ref _]) _ _ _); k_dflt (refine' kst_len ?k1 ?k2 rfl ?k4 ?_; (case k1 => k_asm); (case k2 => k_mem); (case k4 => ((try simp only [List.length_append, List.length_cons, List.length_nil]); omega)); k_whole)))
local macro_rules | `(tactic| walk_at "subscriptTail") => `(tactic| (k_here; (with_reducible show wpAny _ _ (subscriptTail _ _ (Value.ref _) (Value.int (-1) _)) _ _ _); k_dflt (refine' last_news ?N ?k1 ?k2 ?k3 ?k4 ?_; (case N => k_asm); (case k1 => k_mem); (case k2 => assumption); (case k3 => omega); (case k4 => omega); k_whole; intro x9 t9 hx9)))

local macro_rules | `(tactic| tb_rel) => `(tactic| repeat ((fail_if_success (with_reducible show wpAny _ _ (exec (Stmt.If _ _ _ _) _) _ _ _)); (first | (k_unfold; (try dsimp only)) | walk1 | (dsimp only; walk1))))

/-- a statement goes on, and what holds then -/
def Nx (P : Heap → Prop) (s : Shared) (fl : Flow) (s' : Shared) : Prop := fl = .next ∧ ∃ h tk, s' = { s with heap := h, toks := tk } ∧ P h
theorem Nx.intro {P : Heap → Prop} {s : Shared} {h : Heap} {tk : Nat} (p : P h) : Nx P s .next { s with heap := h, toks := tk } := ⟨rfl, h, tk, rfl, p⟩

theorem fr_list {g : Heap} {L1 : Addr} {h : Heap} {m' : Str → Option Value} (F : Fr g L1 h m') (mm : Str → Option Value) (ps : List (Str × Value)) (e : ∀ p ∈ ps, m' p.1 = some p.2) (e2 : ∀ z, (∀ p ∈ ps, z ≠ p.1) → m' z = mm z) : Fr g L1 h (kstB mm ps) :=
  Fr.eqm F fun _ => (kstB_eq e fun hz => (e2 _ hz).symm).symm

theorem fr_some {g : Heap} {L1 : Addr} {h : Heap} {m' : Str → Option Value} (F : Fr g L1 h m') (ps : List (Str × Value)) (e : ∀ p ∈ ps, m' p.1 = some p.2) : Fr g L1 h (kstB m' ps) :=
  Fr.eqm F fun _ => (kstB_eq e fun _ => rfl).symm

theorem strs_drop {vs : List Value} {F : List Nat} {k : Nat} (h : StrsAre vs (signs1 F)) : StrsAre (vs.toArray.toList.drop k) (signs1 (F.drop k)) := by
  have := h.drop' k
  simpa [signs1] using this
theorem strs_take {vs : List Value} {F : List Nat} {k : Nat} (h : StrsAre vs (signs1 F)) : StrsAre (vs.toArray.toList.take k) (signs1 (F.take k)) := by
  have := h.take' k
  simpa [signs1] using this
local macro_rules | `(tactic| walk_at "call builtin:str.join") => `(tactic| (k_here; (with_reducible show wpAny _ _ (call (Value.builtin "str.join") _) _ _ _); k_dflt (refine' join_tx ?N ?k1 ?e ?hS ?hl ?_; (case N => k_asm); (case k1 => k_mem); (case e => first | exact slicePick_from' _ _ | exact slicePick_upto' _ _); (case hS => first | exact strs_drop (by assumption) | exact strs_take (by assumption)); (case hl => ((simp only [List.length_drop, List.length_take]); omega)); k_whole); intro t9 k9; (try dsimp only); (try k_fold)))
local macro_rules | `(tactic| walk_at "call ref") => `(tactic| (k_here; (with_reducible show wpAny _ _ (call (Value.ref 79) [Value.str _ _, Value.str _ _]) _ _ _); k_dflt (refine' right_call ?z1 ?k1 ?k2 ?k3 ?k4 ?k5 ?k6 ?k7 ?k8 ?_; (case z1 => (simp only [List.length_drop]; omega)); (case k1 => k_asm); (case k2 => k_asm); (case k3 => k_asm); (case k4 => k_asm); (case k5 => k_asm); (case k6 => first | exact rfl | assumption); (case k7 => ktr_room); (case k8 => ktr_units); k_whole; intro t9 h9 tk9 F9 N9; (try dsimp only); (try k_fold))))

structure EdS where
  vs : List Value
  n : Nat
  tk : Tok
  tq : Tok
  d : Ed

theorem ed_end {g : Heap} {Ls : Addr} {f : Int} {D : Addr} {m₀ : Str → Option Value} {pre : List Int} {n : Nat} {h' : Heap} {m' : Str → Option Value} {vs' : List Value} {n' : Nat} {R own : List (Addr × Obj)} {s₁ : Shared} {tk' : Nat} {k' : Int} {tkk : Tok} {q' : Str} {tqq : Tok} (d' : Ed)
    (F : Fr g Ls h' m') (N : News g Ls h' ((D, listOf vs'.toArray n') :: R)) (hRn : ∀ p ∈ news, p ∈ R) (hRo : ∀ p ∈ own, p ∈ R) (hd : Ed.run f ((pre ++ [(n : Int)]).map Int.toNat) = d')
    (e1 : m' (Str.ofString "found") = some (.ref D)) (e2 : m' (Str.ofString "kept") = some (.int k' tkk)) (e3 : m' (Str.ofString "quote") = some (.str q' tqq))
    (hr : ∀ z, z ≠ Str.ofString "sign" → z ≠ Str.ofString "found" → z ≠ Str.ofString "kept" → z ≠ Str.ofString "quote" → z ≠ Str.ofString "told" → m' z = m₀ z)
    (hp : StrsAre vs' (signs1 d'.found) ∧ k' = (d'.kept : Int) ∧ q' = tx (qs d'.quote)) (ho : (List.map (fun x => x.1) ((D, listOf ([] : List Value).toArray 0) :: news)) = adr) :
    InvEndN g Ls (KstS (fun c : EdS => (D, listOf c.vs.toArray c.n) :: news) (fun c => [(Str.ofString "found", .ref D), (Str.ofString "kept", .int (c.d.kept : Int) c.tk), (Str.ofString "quote", .str (tx (qs c.d.quote)) c.tq)]) (fun c => StrsAre c.vs (signs1 c.d.found)) (Str.ofString "sign") [Str.ofString "told"] m₀ (fun pre c => c.d = Ed.run f (pre.map Int.toNat)) (pre ++ [(n : Int)])) own adr s₁ { s₁ with heap := h', toks := tk' } := by
  obtain ⟨p1, rfl, rfl⟩ := hp
  refine kst_end (⟨vs', n', tkk, tqq, d'⟩ : EdS) F N ?_ ?_ ho p1 ?_ ?_ hd.symm
  · intro p hp
    rcases List.mem_cons.mp hp with rfl | hp
    · exact List.Mem.head _
    · exact List.Mem.tail _ (hRn p hp)
  · exact fun p hp => List.Mem.tail _ (hRo p hp)
  · intro p hp
    simp only [List.mem_cons, List.not_mem_nil, or_false] at hp
    rcases hp with rfl | rfl | rfl
    · exact e1
    · exact e2
    · exact e3
  · intro z z1 z2 z3
    refine hr z z1 (z2 _ (List.Mem.head _)) (z2 _ (List.Mem.tail _ (List.Mem.head _))) (z2 _ (List.Mem.tail _ (List.Mem.tail _ (List.Mem.head _)))) (fun e => ?_)
    rw [e] at z3
    simp at z3
theorem lk_skip {m : Str → Option Value} {z x : Str} {v o : Option Value} (h : z ≠ x) (e : m z = o) : (if z = x then v else m z) = o := by rw [if_neg h]; exact e


theorem ed_call {l : List Nat} {t : Tok} {f : Int} {tf : Tok} (hl : l.length ≤ 8) (hc : ∀ c ∈ l, c < 1114112) (h0 : 0 ≤ f) (h1 : f < 512) (hB : Below A₀ base outer h₀) (F : Fr h₀ L s.heap m) (hK : (hd.heap_1 w.params).In h₀) (N : News h₀ L s.heap news) (hT : Top vw loose mean mg mb h₀) (hcs : cs.kind = .function)
    (hdp : dp + 6 < recursionLimit) (hunU : un + 60 < cLine) (hret : RetS h₀ L m news s Q (tx (ed f l))) :
    wpAny (model PySem.Challenge.rw_pf0006_01.row.prog w) (ktrTop dp un gd cn cs L a ccd cl outer) (call (.ref 100) [.str (tx l) t, .int f tf]) Q E s := by
  w_on
  revert hK; k_fill; intro hK
  refine wpAny_call ?_
  k_dflt cell_enter
  rename_i g L1 hp1 FG F1 N1 B1 X1 T1
  replace F1 : Fr g L1 hp1 (fun y => List.lookup y [(Str.ofString "flags", .int f tf), (Str.ofString "text", .str (tx l) t)]) := F1
  clear F N
  generalize s.toks + List.length _ = tk0
  tb_start
  rename_i D _ hD _ _ _ _ _ _ hX F2 N2
  replace N2 : News g L1 _ ((D, listOf ([] : List Value).toArray 0) :: news) := cb_drop N2 (fun p hp => by
    rcases List.mem_cons.mp hp with rfl | hp
    · exact List.Mem.tail _ (List.Mem.head _)
    · exact List.Mem.tail _ (List.Mem.tail _ hp))
  obtain ⟨tk1, tq1, F3⟩ : ∃ (tk1 tq1 : Tok), Fr g L1 hX (fun y => if y = Str.ofString "found" then some (.ref D) else if y = Str.ofString "kept" then some (.int 0 tk1) else if y = Str.ofString "quote" then some (.str (Str.ofString "") tq1) else List.lookup y [(Str.ofString "flags", .int f tf), (Str.ofString "text", .str (tx l) t)]) := ⟨_, _, F2⟩
  clear F2
  have hDn : ∀ p ∈ news, p.1 ≠ D := fun p hp => Nat.ne_of_lt (hD p hp)
  refine For_invVF F3 rfl rfl ?_
  walk1
  (try dsimp only)
  refine KStt.kst_text (fun c : EdS => (D, listOf c.vs.toArray c.n) :: news) (fun c => [(Str.ofString "found", .ref D), (Str.ofString "kept", .int (c.d.kept : Int) c.tk), (Str.ofString "quote", .str (tx (qs c.d.quote)) c.tq)]) (fun c => StrsAre c.vs (signs1 c.d.found)) [Str.ofString "told"] (fun pre c => c.d = Ed.run f (pre.map Int.toNat)) ⟨[], 0, tk1, tq1, ⟨[], 0, none⟩⟩ rfl F3 N2 .nil ?hk rfl ?turn ?done
  case hk =>
    intro p hp
    simp only [List.mem_cons, List.not_mem_nil, or_false] at hp
    rcases hp with rfl | rfl | rfl
    · rfl
    · rfl
    · rfl
  case turn =>
    clear F3 N2
    rintro c pre post n t9 u h tk own epre hoff hf hp F1 N1
    obtain ⟨vs, nn, tk2, tq2, d⟩ := c
    obtain ⟨found, kept, quote⟩ := d
    have hn : n < 1114112 := by
      have : ((n : Nat) : Int) ∈ KStt.codes (tx l) := by rw [epre]; simp
      simp only [KStt.codes, List.mem_map] at this
      obtain ⟨c, hc', e⟩ := this
      have := hc c (by simpa using hc')
      omega
    have hpl : pre.length < 8 := by
      have := congrArg List.length epre
      simp [KStt.codes] at this
      omega
    have hrl := run_len f (pre.map Int.toNat)
    rw [← hp] at hrl
    simp only [List.length_map] at hrl
    dsimp only at hf hp hrl hoff F1 N1 ⊢
    have hvl : vs.length = found.length := by have := hf.length; simpa using this
    have hR : ∀ p ∈ news ++ own, p.1 ≠ D := fun p hp => by
      rcases List.mem_append.mp hp with hp | hp
      · exact hDn p hp
      · exact OwnOff.ne hoff (List.Mem.head _) p hp
    have hRo : ∀ p ∈ own, p ∈ news ++ own := fun p hp => List.mem_append_right _ hp
    have hRn : ∀ p ∈ news, p ∈ news ++ own := fun p hp => List.mem_append_left _ hp
    replace N1 : News g L1 h ((D, listOf vs.toArray nn) :: (news ++ own)) := N1
    generalize hRe : news ++ own = R at N1 hR hRo hRn
    have hMk := kstMark
    have erun : Ed.run f ((pre ++ [(n : Int)]).map Int.toNat) = Ed.step f ⟨found, kept, quote⟩ n := by
      rw [List.map_append, List.map_singleton, run_snoc, ← hp, Int.toNat_natCast]
    rcases quote with _ | q
    · replace F1 : Fr g L1 h (fun y => if y = Str.ofString "sign" then some (.str ⟨#[n]⟩ t9) else if y = Str.ofString "found" then some (.ref D) else if y = Str.ofString "kept" then some (.int (kept : Int) tk2) else if y = Str.ofString "quote" then some (.str (tx []) tq2) else if y = Str.ofString "told" then u y else List.lookup y [(Str.ofString "flags", .int f tf), (Str.ofString "text", .str (tx l) t)]) := (Fr.eqm F1 (fun y => by
        simp only [kstB, qs, List.contains_cons, List.contains_nil, Bool.or_false, beq_iff_eq]
        repeat' split
        all_goals simp_all))
      tb_rel
      walk1
      tb_rel
      refine wpAny_mono (Q := Nx (fun h => ∃ (q : Option Nat) (tq : Tok), q = (if bt f 8 && isQu n then some n else none) ∧
        Fr g L1 h (kstB (fun y => if y = Str.ofString "told" then u y else List.lookup y [(Str.ofString "flags", .int f tf), (Str.ofString "text", .str (tx l) t)]) [(Str.ofString "quote", .str (tx (qs q)) tq), (Str.ofString "sign", .str ⟨#[n]⟩ t9), (Str.ofString "found", .ref D), (Str.ofString "kept", .int (kept : Int) tk2)]) ∧
        News g L1 h ((D, listOf vs.toArray nn) :: R)) s) ?_ ?_ (fun _ _ h => h)
      · k_steps
        all_goals (
          rename Fr _ _ _ _ => F9
          rename News _ _ _ _ => N9
          simp only [ne_eq, band8 h0 h1, occ_qu, Bool.not_eq_true', Bool.not_eq_false', Bool.not_eq_false] at *
          first
          | exact Nx.intro ⟨some n, _, by simp_all [isQu], fr_list F9 _ _ (by simp only [List.forall_mem_cons]; exact ⟨rfl, rfl, rfl, rfl, fun _ h => nomatch h⟩) (by intro z hz; simp only [List.forall_mem_cons] at hz; obtain ⟨z1, z2, z3, z4, _⟩ := hz; simp only [if_neg z1, if_neg z2, if_neg z3, if_neg z4]), N9⟩
          | exact Nx.intro ⟨none, _, by simp_all [isQu], fr_list F9 _ _ (by simp only [List.forall_mem_cons]; exact ⟨rfl, rfl, rfl, rfl, fun _ h => nomatch h⟩) (by intro z hz; simp only [List.forall_mem_cons] at hz; obtain ⟨z1, z2, z3, z4, _⟩ := hz; simp only [if_neg z1, if_neg z2, if_neg z3, if_neg z4]), N9⟩)
      · clear F1 N1
        rintro _ _ ⟨rfl, h5, tk5, rfl, q5, tq5, hq5, F5, N5⟩
        dsimp only
        tb_rel
        rename Fr _ _ _ _ => F6
        rename News _ _ _ _ => N6
        (try clear F5 N5)
        rcases eSign_one f n with e | ⟨x, e⟩
        · rw [e] at F6
          have hno : (tx [] != Str.ofString "") = false := by rw [str_no]; rfl
          k_steps
          rename Fr _ _ _ _ => F9
          rename News _ _ _ _ => N9
          refine' ed_end _ F9 N9 hRn hRo erun _ _ _ _ _ _
          any_goals rfl
          · intro z z1 z2 z3 z4 z5
            simp only [kstB, if_neg z1, if_neg z2, if_neg z3, if_neg z4, if_neg z5]
          · have est : Ed.step f ⟨found, kept, none⟩ n = ⟨found, kept, q5⟩ := by simp only [Ed.step, laid_n e, List.append_nil, ← hq5]
            rw [est]
            exact ⟨hf, rfl, rfl⟩
        · rw [e] at F6
          have hq : (tx [x] != Str.ofString "") = true := by rw [str_no]; simp [tx]
          refine wpAny_mono (Q := Nx (fun h => ∃ (o : List Nat) (to : Tok), o = laid f found n ∧
            Fr g L1 h (kstB (fun y => if y = Str.ofString "told" then u y else List.lookup y [(Str.ofString "flags", .int f tf), (Str.ofString "text", .str (tx l) t)]) [(Str.ofString "told", .str (tx o) to), (Str.ofString "quote", .str (tx (qs q5)) tq5), (Str.ofString "sign", .str ⟨#[n]⟩ t9), (Str.ofString "found", .ref D), (Str.ofString "kept", .int (kept : Int) tk2)]) ∧
            News g L1 h ((D, listOf vs.toArray nn) :: R)) s) ?_ ?_ (fun _ _ h => h)
          · k_steps
            all_goals (
              rename Fr _ _ _ _ => F9
              rename News _ _ _ _ => N9
              simp only [ne_eq, band3 h0 h1, band4 h0 h1, occ_bl', beq_sp, Bool.not_eq_true', Bool.not_eq_false', Bool.not_eq_false, Bool.not_eq_true] at *
              first
              | exact Nx.intro ⟨[x], _, laid_a e (by assumption), fr_list F9 _ _ (by simp only [List.forall_mem_cons]; exact ⟨rfl, rfl, rfl, rfl, rfl, fun _ h => nomatch h⟩) (by intro z hz; simp only [List.forall_mem_cons] at hz; obtain ⟨z0, z1, z2, z3, z4, _⟩ := hz; simp only [kstB, if_neg z0, if_neg z1, if_neg z2, if_neg z3, if_neg z4]), N9⟩
              | exact Nx.intro ⟨[], _, laid_b e (by assumption) (by assumption) (by omega), fr_list F9 _ _ (by simp only [List.forall_mem_cons]; exact ⟨rfl, rfl, rfl, rfl, rfl, fun _ h => nomatch h⟩) (by intro z hz; simp only [List.forall_mem_cons] at hz; obtain ⟨z0, z1, z2, z3, z4, _⟩ := hz; simp only [kstB, if_neg z0, if_neg z1, if_neg z2, if_neg z3, if_neg z4]), N9⟩
              | exact Nx.intro ⟨[], _, laid_c e (by assumption) (by assumption) (by assumption) (by assumption), fr_list F9 _ _ (by simp only [List.forall_mem_cons]; exact ⟨rfl, rfl, rfl, rfl, rfl, fun _ h => nomatch h⟩) (by intro z hz; simp only [List.forall_mem_cons] at hz; obtain ⟨z0, z1, z2, z3, z4, _⟩ := hz; simp only [kstB, if_neg z0, if_neg z1, if_neg z2, if_neg z3, if_neg z4]), N9⟩
              | exact Nx.intro ⟨[32], _, laid_d e (by assumption) (by assumption) (by assumption) (by assumption), fr_list F9 _ _ (by simp only [List.forall_mem_cons]; exact ⟨rfl, rfl, rfl, rfl, rfl, fun _ h => nomatch h⟩) (by intro z hz; simp only [List.forall_mem_cons] at hz; obtain ⟨z0, z1, z2, z3, z4, _⟩ := hz; simp only [kstB, if_neg z0, if_neg z1, if_neg z2, if_neg z3, if_neg z4]), N9⟩
              | exact Nx.intro ⟨[32], _, laid_d' e (by assumption) (by assumption) (by assumption) (by omega), fr_list F9 _ _ (by simp only [List.forall_mem_cons]; exact ⟨rfl, rfl, rfl, rfl, rfl, fun _ h => nomatch h⟩) (by intro z hz; simp only [List.forall_mem_cons] at hz; obtain ⟨z0, z1, z2, z3, z4, _⟩ := hz; simp only [kstB, if_neg z0, if_neg z1, if_neg z2, if_neg z3, if_neg z4]), N9⟩
              | exact Nx.intro ⟨[x], _, laid_e e (by assumption) (by assumption), fr_list F9 _ _ (by simp only [List.forall_mem_cons]; exact ⟨rfl, rfl, rfl, rfl, rfl, fun _ h => nomatch h⟩) (by intro z hz; simp only [List.forall_mem_cons] at hz; obtain ⟨z0, z1, z2, z3, z4, _⟩ := hz; simp only [kstB, if_neg z0, if_neg z1, if_neg z2, if_neg z3, if_neg z4]), N9⟩
              | exact Nx.intro ⟨[x], _, laid_f e (by omega) (by assumption), fr_list F9 _ _ (by simp only [List.forall_mem_cons]; exact ⟨rfl, rfl, rfl, rfl, rfl, fun _ h => nomatch h⟩) (by intro z hz; simp only [List.forall_mem_cons] at hz; obtain ⟨z0, z1, z2, z3, z4, _⟩ := hz; simp only [kstB, if_neg z0, if_neg z1, if_neg z2, if_neg z3, if_neg z4]), N9⟩)
          · (try clear F6 N6)
            rintro _ _ ⟨rfl, h7, tk7, rfl, o, to, ho, F7, N7⟩
            dsimp only
            have ho1 := laid_len f found n
            rw [← ho] at ho1
            rcases o with _ | ⟨y, r⟩
            · have hno : (tx [] != Str.ofString "") = false := by rw [str_no]; rfl
              k_steps
              rename Fr _ _ _ _ => F9
              rename News _ _ _ _ => N9
              refine' ed_end _ F9 N9 hRn hRo erun _ _ _ _ _ _
              any_goals rfl
              · intro z z1 z2 z3 z4 z5
                simp only [kstB, if_neg z1, if_neg z2, if_neg z3, if_neg z4, if_neg z5]
              · have est : Ed.step f ⟨found, kept, none⟩ n = ⟨found, kept, q5⟩ := by simp only [Ed.step, ← ho, List.append_nil, ← hq5]
                rw [est]
                exact ⟨hf, rfl, rfl⟩
            · obtain rfl : r = [] := by simpa using ho1
              have hyes : (tx [y] != Str.ofString "") = true := by rw [str_no]; simp [tx]
              k_steps
              rename Fr _ _ _ _ => F9
              rename News _ _ _ _ => N9
              refine' ed_end _ F9 N9 hRn hRo erun _ _ _ _ _ _
              any_goals rfl
              · intro z z1 z2 z3 z4 z5
                simp only [kstB, if_neg z1, if_neg z2, if_neg z3, if_neg z4, if_neg z5]
              · have est : Ed.step f ⟨found, kept, none⟩ n = ⟨found ++ [y], kept, q5⟩ := by simp only [Ed.step, ← ho, ← hq5]
                rw [est]
                exact ⟨by simpa [signs1] using hf.append' (.cons (tx [y]) _ .nil), rfl, rfl⟩
    · replace F1 : Fr g L1 h (fun y => if y = Str.ofString "sign" then some (.str ⟨#[n]⟩ t9) else if y = Str.ofString "found" then some (.ref D) else if y = Str.ofString "kept" then some (.int (kept : Int) tk2) else if y = Str.ofString "quote" then some (.str (tx [q]) tq2) else if y = Str.ofString "told" then u y else List.lookup y [(Str.ofString "flags", .int f tf), (Str.ofString "text", .str (tx l) t)]) := (Fr.eqm F1 (fun y => by
        simp only [kstB, qs, List.contains_cons, List.contains_nil, Bool.or_false, beq_iff_eq]
        repeat' split
        all_goals simp_all))
      have hq : (tx [q] != Str.ofString "") = true := by rw [str_no]; simp [tx]
      k_steps
      all_goals (
        rename Fr _ _ _ _ => F9
        rename News _ _ _ _ => N9
        refine' ed_end _ F9 N9 hRn hRo erun _ _ _ _ _ _
        any_goals rfl
        · intro z z1 z2 z3 z4 z5
          simp only [kstB, if_neg z1, if_neg z2, if_neg z3, if_neg z4, if_neg z5]
        · simp only [beq_one n (tx [q]) q rfl] at *
          refine ⟨by simpa [Ed.step, signs1] using hf.append' (.cons (tx [n]) _ .nil), by simp [Ed.step, hvl], by simp_all [Ed.step, qs, str_no]⟩)
  case done =>
    clear F3 N2
    rintro c u h tk hf hp F1 N1
    have ecodes : (KStt.codes (tx l)).map Int.toNat = l := by
      simp [KStt.codes, Function.comp_def]
    rw [ecodes] at hp
    obtain ⟨vs, nn, tk2, tq2, d⟩ := c
    dsimp only at hf hp F1 N1 ⊢
    have hrl := run_len f l
    rw [← hp] at hrl
    obtain ⟨found, kept, quote⟩ := d
    dsimp only at hf hp hrl F1 N1 ⊢
    have hvl : vs.length = found.length := by have := hf.length; simpa using this
    have hret' : RetS h₀ L m news s Q (tx (found.take kept ++ (if bt f 7 then rst (found.drop kept) else found.drop kept))) := by
      have : ed f l = found.take kept ++ (if bt f 7 then rst (found.drop kept) else found.drop kept) := by unfold ed; rw [← hp]
      rw [← this]; exact hret
    clear hret
    have F2 := fr_some F1 [(Str.ofString "found", .ref D), (Str.ofString "kept", .int (kept : Int) tk2), (Str.ofString "flags", .int f tf)] (by simp only [List.forall_mem_cons]; exact ⟨rfl, rfl, rfl, fun _ h => nomatch h⟩)
    clear F1
    have hr1 := rst_len (found.drop kept)
    simp only [List.length_drop] at hr1
    k_steps
    · refine add_tx (by simp only [List.length_take]; omega) fun t8 k8 => ?_
      dsimp only
      k_steps
      rename (Builtin.bitAnd f 128 ≠ 0) => hb
      rw [ne_eq, band7 h0 h1] at hb
      exact RetS.go hret' (by rw [if_pos (by simpa using hb)]) (by assumption) (cb_drop (by assumption) (fun p hp => by repeat (first | exact hp | refine List.mem_cons_of_mem _ ?_)))
    · refine add_tx (by simp only [List.length_take, List.length_drop]; omega) fun t8 k8 => ?_
      dsimp only
      k_steps
      rename (Builtin.bitAnd f 128 = 0) => hb
      rw [band7 h0 h1] at hb
      exact RetS.go hret' (by rw [if_neg (by simp [hb])]) (by assumption) (cb_drop (by assumption) (fun p hp => by repeat (first | exact hp | refine List.mem_cons_of_mem _ ?_)))
end
end Mine
end
section
open PySem PySem.W PyProof.Rows
namespace Mine
set_option maxRecDepth 100000
set_option maxHeartbeats 8000000
section
variable {w : World} {loose : List Str} {mean : ExcName → Option Value} {mg mb : Str → Option Value} {dp un : Nat} {gd : Option (List Code)} {cn : Str} {cs : Scope} {a : Addr} {ccd : Value} {cl : List (Str × Addr)} {outer : List Env} {A₀ : Around} {base h₀ : Heap} {L : Addr} {m : Str → Option Value} {news : List (Addr × Obj)} {s : Shared} {Q E : Value → Shared → Prop}
theorem whole_call' {T : Addr} {nT : Nat} {n : Int} {t u : Tok} {f : Int} (hTu : (T, ({ cls := .type "tuple", data := .seq #[.int n t, .int (-1) u] nT } : Obj)) ∈ news) (h0 : -100000 < n) (h1 : n < 100000) (hf : (if n < 0 then - tenth (-n) else tenth n) = f) (hB : Below A₀ base outer h₀) (F : Fr h₀ L s.heap m) (hK : (hd.heap_1 w.params).In h₀) (N : News h₀ L s.heap news) (hT : Top vw loose mean mg mb h₀) (hcs : cs.kind = .function)
    (hdp : dp + 6 < recursionLimit) (hunU : un + 60 < cLine) (hret : RetI h₀ L m news s Q f) :
    wpAny (model PySem.Challenge.rw_pf0006_01.row.prog w) (ktrTop dp un gd cn cs L a ccd cl outer) (call (.ref 58) [.ref T]) Q E s := by
  subst hf
  exact whole_call hTu h0 h1 hB F hK N hT hcs hdp hunU hret
local macro_rules | `(tactic| k_mem) => `(tactic| first | assumption | exact List.Mem.head _ | (refine' List.Mem.tail _ ?_; k_mem))
local macro_rules | `(tactic| walk_at "subscriptTail") => `(tactic| (k_here; (with_reducible show wpAny _ _ (subscriptTail _ _ (Value.ref _) (Value.int 0 _)) _ _ _); k_dflt (refine' item0_news ?N ?k1 ?_; (case N => k_asm); (case k1 => k_mem); k_whole)))
local macro_rules | `(tactic| walk_at "subscriptTail") => `(tactic| (k_here; (with_reducible show wpAny _ _ (subscriptTail _ _ (Value.ref _) (Value.int 1 _)) _ _ _); k_dflt (refine' item1_news ?N ?k1 ?_; (case N => k_asm); (case k1 => k_mem); k_whole)))
local macro_rules | `(tactic| walk_at "call ref") => `(tactic| (k_here; (with_reducible show wpAny _ _ (call (Value.ref 65) [Value.str _ _]) _ _ _); k_dflt (refine' textof_call ?k1 ?k2 ?k3 ?k4 ?k5 ?k6 ?k7 ?k8 ?_; (case k1 => k_asm); (case k2 => k_asm); (case k3 => k_asm); (case k4 => k_asm); (case k5 => k_asm); (case k6 => first | exact rfl | assumption); (case k7 => ktr_room); (case k8 => ktr_units); k_whole; intro t9 h9 tk9 F9 N9; (try dsimp only); (try k_fold))))
local macro_rules | `(tactic| walk_at "call ref") => `(tactic| (k_here; (with_reducible show wpAny _ _ (call (Value.ref 58) [Value.ref _]) _ _ _); k_dflt (refine' whole_call' ?z1 ?z2 ?z3 ?z4 ?k1 ?k2 ?k3 ?k4 ?k5 ?k6 ?k7 ?k8 ?_; (case z1 => k_mem); (case z2 => assumption); (case z3 => assumption); (case z4 => assumption); (case k1 => k_asm); (case k2 => k_asm); (case k3 => k_asm); (case k4 => k_asm); (case k5 => k_asm); (case k6 => first | exact rfl | assumption); (case k7 => ktr_room); (case k8 => ktr_units); k_whole; intro t9 h9 tk9 F9 N9; (try dsimp only); (try k_fold))))
local macro_rules | `(tactic| walk_at "call ref") => `(tactic| (k_here; (with_reducible show wpAny _ _ (call (Value.ref 100) [Value.str _ _, Value.int _ _]) _ _ _); k_dflt (refine' ed_call ?z1 ?z2 ?z3 ?z4 ?k1 ?k2 ?k3 ?k4 ?k5 ?k6 ?k7 ?k8 ?_; (case z1 => assumption); (case z2 => assumption); (case z3 => assumption); (case z4 => assumption); (case k1 => k_asm); (case k2 => k_asm); (case k3 => k_asm); (case k4 => k_asm); (case k5 => k_asm); (case k6 => first | exact rfl | assumption); (case k7 => ktr_room); (case k8 => ktr_units); k_whole; intro t9 h9 tk9 F9 N9; (try dsimp only); (try k_fold))))

theorem edit_int {W : Value} {T : Addr} {nT : Nat} {l : List Nat} {t : Tok} {f : Int} {tf : Tok} (hTu : (T, ({ cls := .type "list", data := .seq #[.str (tx l) t, .int f tf] nT } : Obj)) ∈ news) (hl : l.length ≤ 8) (hc : ∀ c ∈ l, c < 1114112) (h0 : 0 ≤ f) (h1 : f < 512) (hB : Below A₀ base outer h₀) (F : Fr h₀ L s.heap m) (hK : (hd.heap_1 w.params).In h₀) (N : News h₀ L s.heap news) (hT : Top vw loose mean mg mb h₀) (hcs : cs.kind = .function)
    (hdp : dp + 8 < recursionLimit) (hunU : un + 100 < cLine) (hret : RetS h₀ L m news s Q (tx (ed f l))) :
    wpAny (model PySem.Challenge.rw_pf0006_01.row.prog w) (ktrTop dp un gd cn cs L a ccd cl outer) (call (.ref 121) [W, .ref T]) Q E s := by
  w_on
  revert hK; k_fill; intro hK
  refine wpAny_call ?_
  k_dflt cell_enter
  rename_i g L1 hp1 FG F1 N1 B1 X1 T1
  replace F1 : Fr g L1 hp1 (fun y => List.lookup y [(Str.ofString "args", .ref T), (Str.ofString "world", W)]) := F1
  clear F N
  generalize s.toks + List.length _ = tk0
  k_steps
  exact RetS.go hret rfl (by assumption) (by assumption)

theorem edit_dec {W : Value} {T P : Addr} {nT nP : Nat} {l : List Nat} {t : Tok} {n : Int} {tn tm : Tok} (hTu : (T, ({ cls := .type "list", data := .seq #[.str (tx l) t, .ref P] nT } : Obj)) ∈ news) (hPu : (P, ({ cls := .type "tuple", data := .seq #[.int n tn, .int (-1) tm] nP } : Obj)) ∈ news) (hl : l.length ≤ 8) (hc : ∀ c ∈ l, c < 1114112) (hn0 : -100000 < n) (hn1 : n < 100000) {f : Int} (hf : (if n < 0 then - tenth (-n) else tenth n) = f) (h0 : 0 ≤ f) (h1 : f < 512) (hB : Below A₀ base outer h₀) (F : Fr h₀ L s.heap m) (hK : (hd.heap_1 w.params).In h₀) (N : News h₀ L s.heap news) (hT : Top vw loose mean mg mb h₀) (hcs : cs.kind = .function)
    (hdp : dp + 8 < recursionLimit) (hunU : un + 100 < cLine) (hret : RetS h₀ L m news s Q (tx (ed f l))) :
    wpAny (model PySem.Challenge.rw_pf0006_01.row.prog w) (ktrTop dp un gd cn cs L a ccd cl outer) (call (.ref 121) [W, .ref T]) Q E s := by
  w_on
  revert hK; k_fill; intro hK
  refine wpAny_call ?_
  k_dflt cell_enter
  rename_i g L1 hp1 FG F1 N1 B1 X1 T1
  replace F1 : Fr g L1 hp1 (fun y => List.lookup y [(Str.ofString "args", .ref T), (Str.ofString "world", W)]) := F1
  clear F N
  generalize s.toks + List.length _ = tk0
  k_steps
  exact RetS.go hret rfl (by assumption) (by assumption)
end
end Mine
end
section
open PySem PySem.W PyProof.Rows
namespace Mine
set_option maxRecDepth 100000
set_option maxHeartbeats 8000000
section
variable {w : World} {loose : List Str} {mean : ExcName → Option Value} {mg mb : Str → Option Value} {dp un : Nat} {gd : Option (List Code)} {cn : Str} {cs : Scope} {a : Addr} {ccd : Value} {cl : List (Str × Addr)} {outer : List Env} {A₀ : Around} {base h₀ : Heap} {L : Addr} {m : Str → Option Value} {news : List (Addr × Obj)} {s : Shared} {Q E : Value → Shared → Prop}
local macro_rules | `(tactic| k_mem) => `(tactic| first | assumption | exact List.Mem.head _ | (refine' List.Mem.tail _ ?_; k_mem))
local macro_rules | `(tactic| k_all) => `(tactic| first | assumption | exact List.forall_mem_nil _ | (refine' neAll_cons ?a ?b; (case a => k_ne); (case b => k_all)))

/-- the tray as a dict: its cells, its count -/
abbrev Tray (w : World) (o : Obj) (C : Addr) (k : Int) (t3 : Tok) : Prop :=
  Obj.IsDictOf (PySem.strKind PySem.Challenge.rw_pf0006_01.row.prog w) o [(Str.ofString "cells", .ref C), (Str.ofString "count", .int k t3)]
section
variable {A : Around} {T C : Addr} {o : Obj} {k : Int} {t3 u : Tok} {value slice : PySem.Expr}
theorem tray_cells (N : News h₀ L s.heap news) (hm : (T, o) ∈ news) (hT : Tray w o C k t3) (h : Q (.ref C) { s with toks := s.toks + 1 })
    (hs : subscripted slice false (.ref T) (.str (Str.ofString "cells") u) = operate [.ref T, .str (Str.ofString "cells") u] (getItem (.ref T) (.str (Str.ofString "cells") u)) := by with_unfolding_all rfl) :
    wpAny (model PySem.Challenge.rw_pf0006_01.row.prog w) A (subscriptTail value slice (.ref T) (.str (Str.ofString "cells") u)) Q E s :=
  kdt_tail N hm hT (kdt_getItem (knd := PySem.strKind _ _) N hm hT (strKind_is _ _ _ _) (by rfl) h) hs
theorem tray_count (N : News h₀ L s.heap news) (hm : (T, o) ∈ news) (hT : Tray w o C k t3) (h : Q (.int k t3) { s with toks := s.toks + 1 })
    (hs : subscripted slice false (.ref T) (.str (Str.ofString "count") u) = operate [.ref T, .str (Str.ofString "count") u] (getItem (.ref T) (.str (Str.ofString "count") u)) := by with_unfolding_all rfl) :
    wpAny (model PySem.Challenge.rw_pf0006_01.row.prog w) A (subscriptTail value slice (.ref T) (.str (Str.ofString "count") u)) Q E s :=
  kdt_tail N hm hT (kdt_getItem (knd := PySem.strKind _ _) N hm hT (strKind_is _ _ _ _) (by rfl) h) hs
theorem tray_get (N : News h₀ L s.heap news) (hm : (T, o) ∈ news) (hT : Tray w o C k t3) (h : Q (.int k t3) { s with toks := s.toks + 1 }) :
    wpAny (model PySem.Challenge.rw_pf0006_01.row.prog w) A (getItem (.ref T) (.str (Str.ofString "count") u)) Q E s :=
  kdt_getItem (knd := PySem.strKind _ _) N hm hT (strKind_is _ _ _ _) (by rfl) h
end
local macro_rules | `(tactic| walk_at "subscriptTail") => `(tactic| (k_here; (with_reducible show wpAny _ _ (subscriptTail _ _ (Value.ref _) (Value.str (Str.ofString "cells") _)) _ _ _); k_dflt (refine' tray_cells ?N ?k1 ?k2 ?_; (case N => k_asm); (case k1 => k_mem); (case k2 => assumption); k_whole)))
local macro_rules | `(tactic| walk_at "subscriptTail") => `(tactic| (k_here; (with_reducible show wpAny _ _ (subscriptTail _ _ (Value.ref _) (Value.str (Str.ofString "count") _)) _ _ _); k_dflt (refine' tray_count ?N ?k1 ?k2 ?_; (case N => k_asm); (case k1 => k_mem); (case k2 => assumption); k_whole)))
local macro_rules | `(tactic| walk_at "getItem ref str") => `(tactic| (k_here; k_dflt (refine' tray_get ?N ?k1 ?k2 ?_; (case N => k_asm); (case k1 => k_mem); (case k2 => assumption); k_whole)))
local macro_rules | `(tactic| walk_at "call builtin:len") => `(tactic| (k_here; (with_reducible show wpAny _ _ (call (Value.builtin "len") [Value.ref _]) _ _ _); k_dflt (refine' kst_len ?k1 ?k2 rfl ?k4 ?_; (case k1 => k_asm); (case k2 => k_mem); (case k4 => ((try simp only [List.length_append, List.length_cons, List.length_nil]); omega)); k_whole)))

theorem draw_call {T C : Addr} {o : Obj} {R : List (Addr × Obj)} {vs : List Value} {ns : List Int} {nC : Nat} {k : Int} {t3 : Tok} {many : Int} {tm : Tok} (hTr : Tray w o C k t3) (hC : (C, listOf vs.toArray nC) ∈ R) (hI : IntsAre vs ns) (hns : ns.length ≤ 16) (hk0 : 0 ≤ k) (hk1 : k ≤ 100) (hm0 : 0 < many) (hm1 : many ≤ 512) (hR : ∀ p ∈ R, p.1 ≠ T) (hsm : (T == sysModules) = false)
    (hB : Below A₀ base outer h₀) (F : Fr h₀ L s.heap m) (hK : (hd.heap_1 w.params).In h₀) (N : News h₀ L s.heap ((T, o) :: R)) (hT : Top vw loose mean mg mb h₀) (hcs : cs.kind = .function)
    (hdp : dp + 2 < recursionLimit) (hunU : un + 20 < cLine)
    (hret : ∀ (v : Int) (t : Tok) (o' : Obj) (h' : Heap) (tk' : Nat) (t3 : Tok), 0 ≤ v → v < many → Tray w o' C (k + 1) t3 → Fr h₀ L h' m → News h₀ L h' ((T, o') :: R) → Q (.int v t) { s with heap := h', toks := tk' }) :
    wpAny (model PySem.Challenge.rw_pf0006_01.row.prog w) (ktrTop dp un gd cn cs L a ccd cl outer) (call (.ref 150) [.ref T, .int many tm]) Q E s := by
  w_on
  revert hK; k_fill; intro hK
  refine wpAny_call ?_
  k_dflt cell_enter
  rename_i g L1 hp1 FG F1 N1 B1 X1 T1
  replace F1 : Fr g L1 hp1 (fun y => List.lookup y [(Str.ofString "many", .int many tm), (Str.ofString "tray", .ref T)]) := F1
  clear F N
  generalize s.toks + List.length _ = tk0
  have hCR : (C, listOf vs.toArray nC) ∈ (T, o) :: R := List.mem_cons_of_mem _ hC
  have hlv : vs.length = ns.length := hI.length
  unfold Tray at hTr
  k_steps
  · exact hret _ _ _ _ _ _ (Int.fmod_nonneg_of_pos _ hm0) (Int.fmod_lt_of_pos _ hm0) (by assumption) (by assumption) (by assumption)
  · exact hret _ _ _ _ _ _ (Int.fmod_nonneg_of_pos _ hm0) (Int.fmod_lt_of_pos _ hm0) (by assumption) (by assumption) (by assumption)
end
end Mine
end
section
open PySem PySem.W PyProof.Rows
namespace Mine
theorem strs_add {vs : List Value} {F : List Nat} {c : Nat} {t : Tok} (h : StrsAre vs (signs1 F)) : StrsAre (vs ++ [.str (tx [c]) t]) (signs1 (F ++ [c])) := by
  have := h.append' (.cons (tx [c]) t .nil)
  simpa [signs1] using this
section
variable {prog : Program} {w : World} {A : Around} {h₀ : Heap} {L : Addr} {m : Str → Option Value} {env : Env} {elt ct : PySem.Expr} {x x₂ : Str} {scope : Scope} {cl : List (Str × Addr)} {s : Shared} {S : List (Addr × Obj) → Prop} {P : Nat → Value → Prop} {Fin : List Value → List (Addr × Obj) → Prop}
theorem CompEnd.mono {s₁ s₂ : Shared} {I C D : Addr} {oI oC oD : Obj} {r r' : Value → List (Addr × Obj) → Prop} {y : Value} (h : LCg.CompEnd h₀ L m s₁ I oI C oC D oD S r y s₂) (k : ∀ nw, r y nw → r' y nw) : LCg.CompEnd h₀ L m s₁ I oI C oC D oD S r' y s₂ := by
  obtain ⟨h', tk, nw, e, F, N, o, hS, hr⟩ := h
  exact ⟨h', tk, nw, e, F, N, o, hS, k _ hr⟩
/-- a comprehension by what holds between its turns -/
theorem comp_ind (J : Nat → List Value → List (Addr × Obj) → Prop) {n : Nat}
    (step : ∀ i ys news, i < n → J i ys news → ∀ v I oI C oC D m₂ h tk (E' : Value → Shared → Prop), P i v → LCg.NsObj oC m₂ → m₂ x = some v → Fr h₀ L h m → News h₀ L h ((I, oI) :: (C, oC) :: (D, LCg.lst ys) :: news) → (∀ p ∈ news, p.1 ≠ I ∧ p.1 ≠ C ∧ p.1 ≠ D) → ((@Ne Nat I C) ∧ (@Ne Nat I D) ∧ (@Ne Nat C D)) →
      wpAny (model prog w) A (eval elt (compEnvC scope cl C env)) (LCg.CompEnd h₀ L m { s with heap := h, toks := tk } I oI C oC D (LCg.lst ys) S (fun y news' => J (i + 1) (ys ++ [y]) news')) E' { s with heap := h, toks := tk })
    (fin : ∀ ys news, J n ys news → Fin ys news) {news : List (Addr × Obj)} (j0 : J 0 [] news) :
    LCg.CompRest prog w A h₀ L m env elt x scope cl s S P Fin n 0 [] news := by
  have key : ∀ (j i : Nat) (ys : List Value) (news : List (Addr × Obj)), i + j = n → J i ys news → LCg.CompRest prog w A h₀ L m env elt x scope cl s S P Fin j i ys news := by
    intro j
    induction j with
    | zero =>
      intro i ys nw e hJ
      have : i = n := by omega
      subst this
      exact .zero (fin _ _ hJ)
    | succ j ih =>
      intro i ys nw e hJ
      refine .succ fun v I oI C oC D m₂ h tk E' hP hC hx F N off ne => ?_
      refine wpAny_mono (step i ys nw (by omega) hJ v I oI C oC D m₂ h tk E' hP hC hx F N off.mem ne) (fun y s' q => CompEnd.mono q fun nw' q' => ih (i + 1) _ nw' (by omega) q') fun _ _ q => q
  exact key n 0 [] news (by omega) j0
/-- with a test -/
theorem comp_indT (J : Nat → List Value → List (Addr × Obj) → Prop) {n : Nat}
    (step : ∀ i ys news, i < n → J i ys news → ∀ v I oI C oC D m₂ h tk (E' : Value → Shared → Prop), P i v → LCg.NsObj oC m₂ → m₂ x = some v → Fr h₀ L h m → News h₀ L h ((I, oI) :: (C, oC) :: (D, LCg.lst ys) :: news) → (∀ p ∈ news, p.1 ≠ I ∧ p.1 ≠ C ∧ p.1 ≠ D) → ((@Ne Nat I C) ∧ (@Ne Nat I D) ∧ (@Ne Nat C D)) →
      wpAny (model prog w) A (isTrue ct (compEnvC scope cl C env) (eval ct (compEnvC scope cl C env))) (fun ok s' => if ok = true then
        wpAny (model prog w) A (eval elt (compEnvC scope cl C env)) (LCg.CompEnd h₀ L m { s with heap := h, toks := tk } I oI C oC D (LCg.lst ys) S (fun y news' => J (i + 1) (ys ++ [y]) news')) E' s'
        else LCg.CompEnd h₀ L m { s with heap := h, toks := tk } I oI C oC D (LCg.lst ys) S (fun _ news' => J (i + 1) ys news') Value.none s') E' { s with heap := h, toks := tk })
    (fin : ∀ ys news, J n ys news → Fin ys news) {news : List (Addr × Obj)} (j0 : J 0 [] news) :
    LCt.CompRestT prog w A h₀ L m env ct elt x scope cl s S P Fin n 0 [] news := by
  have key : ∀ (j i : Nat) (ys : List Value) (news : List (Addr × Obj)), i + j = n → J i ys news → LCt.CompRestT prog w A h₀ L m env ct elt x scope cl s S P Fin j i ys news := by
    intro j
    induction j with
    | zero =>
      intro i ys nw e hJ
      have : i = n := by omega
      subst this
      exact .zero (fin _ _ hJ)
    | succ j ih =>
      intro i ys nw e hJ
      refine .succ fun v I oI C oC D m₂ h tk E' hP hC hx F N off ne => ?_
      refine wpAny_mono (step i ys nw (by omega) hJ v I oI C oC D m₂ h tk E' hP hC hx F N off.mem ne) (fun ok s' q => ?_) fun _ _ q => q
      cases ok with
      | true =>
        simp only [if_true] at q ⊢
        exact wpAny_mono q (fun y s' q => CompEnd.mono q fun nw' q' => ih (i + 1) _ nw' (by omega) q') fun _ _ q => q
      | false =>
        simp only [Bool.false_eq_true, if_false] at q ⊢
        exact CompEnd.mono q fun nw' q' => ih (i + 1) _ nw' (by omega) q'
  exact key n 0 [] news (by omega) j0
/-- over pairs -/
theorem comp_indP (J : Nat → List Value → List (Addr × Obj) → Prop) {n : Nat}
    (step : ∀ i ys news, i < n → J i ys news → ∀ v, P i v → ∃ (t : Addr) (ot : Obj) (v₁ v₂ : Value) (nt : Nat), v = .ref t ∧ (t, ot) ∈ news ∧ ot.cls = .type "tuple" ∧ ot.data = .seq #[v₁, v₂] nt ∧
      ∀ I oI C oC D m₂ h tk (E' : Value → Shared → Prop), LCg.NsObj oC m₂ → m₂ x = some v₁ → m₂ x₂ = some v₂ → Fr h₀ L h m → News h₀ L h ((I, oI) :: (C, oC) :: (D, LCg.lst ys) :: news) → (∀ p ∈ news, p.1 ≠ I ∧ p.1 ≠ C ∧ p.1 ≠ D) → ((@Ne Nat I C) ∧ (@Ne Nat I D) ∧ (@Ne Nat C D)) →
      wpAny (model prog w) A (eval elt (compEnvC scope cl C env)) (LCg.CompEnd h₀ L m { s with heap := h, toks := tk } I oI C oC D (LCg.lst ys) S (fun y news' => J (i + 1) (ys ++ [y]) news')) E' { s with heap := h, toks := tk })
    (fin : ∀ ys news, J n ys news → Fin ys news) {news : List (Addr × Obj)} (j0 : J 0 [] news) :
    LCp.CompRestP prog w A h₀ L m env elt x x₂ scope cl s S P Fin n 0 [] news := by
  have key : ∀ (j i : Nat) (ys : List Value) (news : List (Addr × Obj)), i + j = n → J i ys news → LCp.CompRestP prog w A h₀ L m env elt x x₂ scope cl s S P Fin j i ys news := by
    intro j
    induction j with
    | zero =>
      intro i ys nw e hJ
      have : i = n := by omega
      subst this
      exact .zero (fin _ _ hJ)
    | succ j ih =>
      intro i ys nw e hJ
      refine .succ fun v hv => ?_
      obtain ⟨t, ot, v₁, v₂, nt, h1, h2, h3, h4, k⟩ := step i ys nw (by omega) hJ v hv
      refine ⟨t, ot, v₁, v₂, nt, h1, h2, h3, h4, fun I oI C oC D m₂ h tk E' hC hx hx₂ F N off ne => ?_⟩
      exact wpAny_mono (k I oI C oC D m₂ h tk E' hC hx hx₂ F N off.mem ne) (fun y s' q => CompEnd.mono q fun nw' q' => ih (i + 1) _ nw' (by omega) q') fun _ _ q => q
  exact key n 0 [] news (by omega) j0
end

section
variable {w : World} {loose : List Str} {mean : ExcName → Option Value} {mg mb : Str → Option Value} {dp un : Nat} {gd : Option (List Code)} {cn : Str} {cs : Scope} {a : Addr} {ccd : Value} {cl : List (Str × Addr)} {outer : List Env} {A₀ : Around} {base h₀ : Heap} {L : Addr} {m : Str → Option Value} {news : List (Addr × Obj)} {s : Shared} {Q E : Value → Shared → Prop}
theorem draw_call2 {T C : Addr} {o : Obj} {news : List (Addr × Obj)} {gg : Obj → List (Addr × Obj)} {vs : List Value} {ns : List Int} {nC : Nat} {k : Int} {t3 : Tok} {many : Int} {tm : Tok} (U : UpdF T o news gg) (hTr : Tray w o C k t3) (hC : (C, listOf vs.toArray nC) ∈ news) (hCT : C ≠ T) (hI : IntsAre vs ns) (hns : ns.length ≤ 16) (hk0 : 0 ≤ k) (hk1 : k ≤ 100) (hm0 : 0 < many) (hm1 : many ≤ 512) (hsm : (T == sysModules) = false)
    (hB : Below A₀ base outer h₀) (F : Fr h₀ L s.heap m) (hK : (hd.heap_1 w.params).In h₀) (N : News h₀ L s.heap news) (hT : Top vw loose mean mg mb h₀) (hcs : cs.kind = .function)
    (hdp : dp + 2 < recursionLimit) (hun : un + 20 < cLine)
    (hret : ∀ (v : Int) (t : Tok) (o' : Obj) (h' : Heap) (tk' : Nat) (t3 : Tok), 0 ≤ v → v < many → Tray w o' C (k + 1) t3 → Fr h₀ L h' m → News h₀ L h' (gg o') → Q (.int v t) { s with heap := h', toks := tk' }) :
    wpAny (model PySem.Challenge.rw_pf0006_01.row.prog w) (ktrTop dp un gd cn cs L a ccd cl outer) (call (.ref 150) [.ref T, .int many tm]) Q E s := by
  obtain ⟨pre, post, rfl, hg, h1, h2⟩ := U.split
  have N' : News h₀ L s.heap ((T, o) :: (pre ++ post)) := cb_drop N fun p hp => by
    rcases List.mem_cons.mp hp with rfl | hp
    · exact List.mem_append_right _ (List.Mem.head _)
    · rcases List.mem_append.mp hp with hp | hp
      · exact List.mem_append_left _ hp
      · exact List.mem_append_right _ (List.Mem.tail _ hp)
  refine draw_call (nC := nC) hTr (R := pre ++ post) ?_ hI hns hk0 hk1 hm0 hm1 ?_ hsm hB F hK N' hT hcs hdp hun fun v t o' h' tk' t3 a1 a2 a3 F' N2 => hret v t o' h' tk' t3 a1 a2 a3 F' ?_
  · rcases List.mem_append.mp hC with hp | hp
    · exact List.mem_append_left _ hp
    · rcases List.mem_cons.mp hp with e | hp
      · exact absurd (congrArg Prod.fst e) hCT
      · exact List.mem_append_right _ hp
  · intro p hp
    rcases List.mem_append.mp hp with hp | hp
    · exact h1 p hp
    · exact h2 p hp
  · rw [hg]
    exact cb_drop N2 fun p hp => by
      rcases List.mem_append.mp hp with hp | hp
      · exact List.Mem.tail _ (List.mem_append_left _ hp)
      · rcases List.mem_cons.mp hp with rfl | hp
        · exact List.Mem.head _
        · exact List.Mem.tail _ (List.mem_append_right _ hp)
end
end Mine
end
section
open PySem PySem.W PyProof.Rows
namespace Mine
set_option maxRecDepth 100000
set_option maxHeartbeats 8000000
theorem allLt_ne {d e : Nat} (hd : d ≤ e) : ∀ {l : List (Addr × Obj)}, AllLt d l → ∀ p ∈ l, p.1 ≠ e
  | [], _, _, h => nomatch h
  | q :: r, ⟨h1, h2⟩, p, hp => by
    rcases List.mem_cons.mp hp with rfl | hp
    · exact Nat.ne_of_lt (Nat.lt_of_lt_of_le h1 hd)
    · exact allLt_ne hd h2 p hp
section
variable {w : World} {loose : List Str} {mean : ExcName → Option Value} {mg mb : Str → Option Value} {dp un : Nat} {gd : Option (List Code)} {cn : Str} {cs : Scope} {a : Addr} {ccd : Value} {cl : List (Str × Addr)} {outer : List Env} {A₀ : Around} {base h₀ : Heap} {L : Addr} {m : Str → Option Value} {news : List (Addr × Obj)} {s : Shared} {Q E : Value → Shared → Prop}
local macro_rules | `(tactic| k_mem) => `(tactic| first | assumption | exact List.Mem.head _ | (refine' List.Mem.tail _ ?_; k_mem))
local macro_rules | `(tactic| k_all) => `(tactic| first | assumption | exact List.forall_mem_nil _ | (refine' neAll_cons ?a ?b; (case a => k_ne); (case b => k_all)))

local macro_rules | `(tactic| walk_at "binaryOp Add str str") => `(tactic| (k_here; (with_reducible show wpAny _ _ (binaryOp Operator.Add (Value.str _ _) (Value.str _ _)) _ _ _); k_dflt (refine' add_str ?_ ?z; (case z => exact of_decide_eq_true (by decide +kernel)); k_whole); intro t9 k9; (try dsimp only)))
local macro_rules | `(tactic| walk_at "call ref") => `(tactic| (k_here; (with_reducible show wpAny _ _ (call (Value.ref 150) [Value.ref _, Value.int _ _]) _ _ _); k_dflt (refine' draw_call2 ?u1 ?z1 ?z2 ?z3 ?z4 ?z5 ?z6 ?z7 ?z8 ?z9 ?za ?k1 ?k2 ?k3 ?k4 ?k5 ?k6 ?k7 ?k8 ?_; (case k2 => k_asm); (case k4 => k_asm); (case u1 => k_updF); (case z1 => assumption); (case z2 => k_mem); (case z3 => assumption); (case z4 => assumption); (case z5 => assumption); (case z6 => omega); (case z7 => omega); (case z8 => decide); (case z9 => decide); (case za => assumption); (case k1 => k_asm); (case k3 => k_asm); (case k5 => k_asm); (case k6 => first | exact rfl | assumption); (case k7 => ktr_room); (case k8 => ktr_units); k_whole; intro v9 t9 o9 h9 tk9 t39 hv0 hv1 hTr9 F9 N9; (obtain ⟨n9, hn9⟩ := Int.eq_ofNat_of_zero_le hv0); subst hn9; (try dsimp only at N9); (try dsimp only); (try k_fold))))
local macro_rules | `(tactic| walk_at "call builtin:str.join") => `(tactic| (k_here; (with_reducible show wpAny _ _ (call (Value.builtin "str.join") _) _ _ _); k_dflt (refine' join_tx ?N ?k1 ?e ?hS ?hl ?_; (case N => k_asm); (case k1 => k_mem); (case e => exact rfl); (case hS => assumption); (case hl => omega); k_whole); intro t9 k9; (try dsimp only); (try k_fold)))
local macro_rules | `(tactic| tb_start) => `(tactic| repeat ((fail_if_success (with_reducible show wpAny _ _ (eval (Expr.ListComp _ _ _ _) _) _ _ _)); (first | (k_unfold; (try dsimp only)) | walk1 | (dsimp only; walk1))))

def alph : List Nat := [97, 90, 32, 9, 13, 0, 34, 39, 91, 93, 160, 141, 219, 225, 32, 137]
theorem alph_str : Str.ofString "aZ \t\x0d\x00\"'[]\xa0\x8d\xdb\xe1 \x89" = tx alph := by decide +kernel
theorem item_alph (n : Nat) (h : (n : Int) < 16) : ∃ c ∈ alph, Txt.item (Str.ofString "aZ \t\x0d\x00\"'[]\xa0\x8d\xdb\xe1 \x89") (n : Int) = tx [c] := by
  have h' : n < alph.length := by have : alph.length = 16 := rfl; omega
  exact ⟨alph[n], List.getElem_mem _, by rw [alph_str]; exact item_tx alph n h'⟩
local macro_rules | `(tactic| tb_rel) => `(tactic| repeat ((fail_if_success (with_reducible show LCg.CompSrc _ _ _ _ _ _ _ _ _ _ _ _ _ _)); (first | (k_unfold; (try dsimp only)) | walk1 | (dsimp only; walk1))))

theorem text_call {T C : Addr} {o : Obj} {R : List (Addr × Obj)} {vs : List Value} {ns : List Int} {nC : Nat} {k : Int} {t3 : Tok} (hTr : Tray w o C k t3) (hC : (C, listOf vs.toArray nC) ∈ R) (hI : IntsAre vs ns) (hns : ns.length ≤ 16) (hk0 : 0 ≤ k) (hk1 : k ≤ 50) (hCT : C ≠ T) (hR : ∀ p ∈ R, p.1 ≠ T) (hsm : (T == sysModules) = false)
    (hB : Below A₀ base outer h₀) (F : Fr h₀ L s.heap m) (hK : (hd.heap_1 w.params).In h₀) (N : News h₀ L s.heap ((T, o) :: R)) (hT : Top vw loose mean mg mb h₀) (hcs : cs.kind = .function)
    (hdp : dp + 8 < recursionLimit) (hunU : un + 60 < cLine)
    (hret : ∀ (l : List Nat) (t : Tok) (o' : Obj) (k' : Int) (h' : Heap) (tk' : Nat) (t3 : Tok), l.length ≤ 8 → (∀ c ∈ l, c ∈ alph) → k ≤ k' → k' ≤ k + 9 → Tray w o' C k' t3 → Fr h₀ L h' m → News h₀ L h' ((T, o') :: R) → Q (.str (tx l) t) { s with heap := h', toks := tk' }) :
    wpAny (model PySem.Challenge.rw_pf0006_01.row.prog w) (ktrTop dp un gd cn cs L a ccd cl outer) (call (.ref 155) [.ref T]) Q E s := by
  w_on
  revert hK; k_fill; intro hK
  refine wpAny_call ?_
  k_dflt (refine' code_defC ?k1 ?k2 ?k3 ?k4 ?k5 ?kA ?kF ?kK ?k6 ?k7 ?k8 ?k9 ?kB ?kD ?_ ?c2 ?c3 ?c4; (case kA => exact rfl); (case kF => exact rfl); (case kK => assumption); (case k1 => k_asm); (case k2 => k_asm); (case k3 => k_asm); (case k4 => k_asm); (case k5 => k_asm); (case k6 => k_is); (case k7 => k_is); (case k8 => ktr_room); (case k9 => exact BindsTo.of_eq rfl); (case kB => exact rfl); (case kD => decide +kernel); (case c2 => exact rfl); (case c3 => exact rfl); (case c4 => exact rfl); k_whole; intro g' L' h' tk' cells' FG' F' N' Y' B' X' T' l1; (try k_lt l1); k_cells Y'; (try simp only [List.cons_append, List.nil_append] at N'); (try dsimp only); (try k_lift B'); (try k_fold))
  rename_i o1 o2 d1' d2'
  clear F N FG'
  have d1 : o1.data = .cell none := d1'
  have d2 : o2.data = .cell (some (.ref T)) := d2'
  clear d1' d2'
  replace F' : Fr g' L' h' (fun _ => none) := F'
  have hR1 : ∀ p ∈ R, p.1 ≠ L' + 1 := allLt_ne (Nat.le_succ _) l1.2
  have hR2 : ∀ p ∈ R, p.1 ≠ L' + 1 + 1 := allLt_ne (Nat.le_succ_of_le (Nat.le_succ _)) l1.2
  tb_start
  rename_i o3 hX F3 N3 d3
  refine LCg.ListComp_U (F₀ := by k_asm) (by with_unfolding_all rfl) (by decide) (by rfl) (by decide) (by rfl) ?_
  tb_rel
  rename_i o4 _ _ _ _ _ _
  refine LCg.CompSrc.range rfl (by k_asm) (by k_asm) (by assumption) (small_one (by omega) (by omega) (by omega) (by omega)) (rangeSize_nat _ _) (by rw [sizeLine_eq]; omega) ?_
  intro g5
  refine comp_ind (fun i ys nw => ∃ (o5 : Obj) (t5 : Tok) (l : List Nat), nw = (L' + 1 + 1, hX) :: (L' + 1, o2) :: (T, o5) :: R ∧ Tray w o5 C (k + 1 + i) t5 ∧ StrsAre ys (signs1 l) ∧ l.length = i ∧ ∀ c ∈ l, c ∈ alph) ?step ?fin ?j0
  case j0 => exact ⟨_, _, [], rfl, by simpa using (by assumption), .nil, rfl, fun _ h => nomatch h⟩
  case fin =>
    rintro ys nw ⟨o5, t5, l, rfl, hT5, hS, hl, ha⟩
    unfold LCg.FinE
    intro D6 h6 tk6 F6 N6 off6
    k_steps
    exact hret l _ o5 _ _ _ t5 (by omega) ha (by omega) (by omega) hT5 (by assumption) (cb_drop (by assumption) (fun p hp => by
      rcases List.mem_cons.mp hp with rfl | hp
      · simp
      · simp [hp]))
  case step =>
    rintro i ys nw hi ⟨o5, t5, l, rfl, hT5, hS, hl, ha⟩ v I oI C' oC D m₂ h tk E' ⟨tv, rfl⟩ hC' hx F5 N5 off ne
    clear F3 N3 hTr
    have oT := off (T, o5) (by simp)
    have oT1 : @Ne Nat I T := Ne.symm oT.1
    have oT2 : @Ne Nat C' T := Ne.symm oT.2.1
    have oT3 : @Ne Nat D T := Ne.symm oT.2.2
    have hR5 : ∀ p ∈ R, p.1 ≠ I ∧ p.1 ≠ C' ∧ p.1 ≠ D := fun p hp => off p (by simp [hp])
    k_steps
    rename Fr _ _ _ _ => F9
    rename News _ _ _ _ => N9
    rename Tray _ _ _ _ _ => hT9
    rename (((_ : Nat) : Int) < 16) => hn9
    obtain ⟨c9, hc9, hit⟩ := item_alph _ hn9
    have eki : k + 1 + (i : Int) + 1 = k + 1 + ((i + 1 : Nat) : Int) := by omega
    rw [eki] at hT9
    refine LCg.CompEnd.intro F9 N9 ((L' + 1 + 1, hX) :: (L' + 1, o2) :: (T, _) :: R) (fun _ h => h) (LCg.Off3.of (fun p hp => ?_)) trivial ⟨_, _, l ++ [c9], rfl, hT9, ?_, by simp [hl], ?_⟩
    · simp only [List.mem_cons] at hp
      rcases hp with rfl | rfl | rfl | hp
      · exact off (L' + 1 + 1, hX) (by simp)
      · exact off (L' + 1, o2) (by simp)
      · exact oT
      · exact hR5 p hp
    · rw [hit]
      exact strs_add hS
    · intro c hc
      rcases List.mem_append.mp hc with hc | hc
      · exact ha c hc
      · rw [List.mem_singleton.mp hc]
        exact hc9
end
end Mine
end
section
open PySem PySem.W PyProof.Rows PySem.Spec PySem.Calls PyProof.V
namespace Mine
set_option maxRecDepth 100000
set_option maxHeartbeats 2000000
theorem objs_of {h : Heap} : ∀ (wr : List Addr), (∀ x ∈ wr, ∃ o, h.get? x = some o) → ∃ IO : List (Addr × Obj), IO.map (·.1) = wr ∧ ∀ p ∈ IO, h.get? p.1 = some p.2
  | [], _ => ⟨[], rfl, fun _ hp => nomatch hp⟩
  | x :: r, hx => by
    obtain ⟨o, ho⟩ := hx x (List.Mem.head _)
    obtain ⟨IO, e, k⟩ := objs_of r fun y hy => hx y (List.Mem.tail _ hy)
    refine ⟨(x, o) :: IO, by simp [e], fun p hp => ?_⟩
    rcases List.mem_cons.mp hp with rfl | hp
    · exact ho
    · exact k p hp
section
variable {prog : Program} {w : World} {A : Around} {E : Value → Shared → Prop} {s : Shared} {h₀ : Heap} {L : Addr} {m : Str → Option Value} {env : Env}
/-- what a turn of a comprehension leaves -/
def GEnd (h₀ : Heap) (L : Addr) (m : Str → Option Value) (s : Shared) (IO : List (Addr × Obj)) (C : Addr) (oC : Obj) (D : Addr) (oD : Obj) (k : Value → List (Addr × Obj) → Prop) (y : Value) (s' : Shared) : Prop :=
  ∃ h' tk nw', s' = { s with heap := h', toks := tk } ∧ Fr h₀ L h' m ∧ News h₀ L h' (IO ++ (C, oC) :: (D, oD) :: nw') ∧ (∀ p ∈ nw', p.1 ∉ IO.map (·.1) ∧ p.1 ≠ C ∧ p.1 ≠ D) ∧ k y nw'

theorem block_G {elt iter c : PySem.Expr} {a b : Str} {pa pb tp : Pos} {kk : Nat} {scope : Scope} {cl : List (Str × Addr)} {pos : Pos} {I : Addr} {fp wr : List Addr} {n : Nat} {P Md : Nat → Value → Heap → Prop} {St : Nat → Heap → Prop} {l : Addr} {ol : Obj} {PP : Nat → Value → Value → Prop} {nw₀ : List (Addr × Obj)} {RR : Value → Addr → Result → Shared → Prop}
    (hh : A.handled = none) (W : KTurns prog w A (.Tuple [.Name a pa, .Name b pb] kk tp) I fp wr n P Md St)
    (hself : ∀ (s' : Shared) (Q E : Value → Shared → Prop), St 0 s'.heap → Q (.ref I) s' → wpAny (model prog w) A (pyIter (.ref I)) Q E s')
    (hsz : n ≤ sizeLine) (hobj : ∀ i h, St i h → ∀ x ∈ wr, ∃ o, h.get? x = some o) (hfp : ∀ x ∈ fp, x ∈ wr ∨ x = l) (hfpb : ∀ x ∈ fp, x < s.heap.objs.size)
    (hL : L ∉ wr) (hw₀ : ∀ x ∈ wr, h₀.get? x = none)
    (hcell : ∀ y ∈ scope.names, y.2 ≠ .cell) (hkind : scope.kind = .function) (hxa : scope.names.lookup a = some .local) (hxb : scope.names.lookup b = some .local) (hab : ¬ a = b)
    (J : Nat → List Value → List (Addr × Obj) → Prop) (hJl : ∀ i ys nw, J i ys nw → (l, ol) ∈ nw)
    (hP : ∀ i ys nw v h, i < n → J i ys nw → News h₀ L h nw → P i v h → ∃ T x y, v = .ref T ∧ h.IsTuple T #[x, y] ∧ PP i x y)
    (step : ∀ i ys nw IO oC C D m₂ h tk (E' : Value → Shared → Prop) x y, i < n → J i ys nw → IO.map (·.1) = wr → PP i x y → LCg.NsObj oC m₂ → m₂ a = some x → m₂ b = some y → Fr h₀ L h m → News h₀ L h (IO ++ (C, oC) :: (D, LCg.lst ys) :: nw) →
      (∀ p ∈ nw, p.1 ∉ IO.map (·.1) ∧ p.1 ≠ C ∧ p.1 ≠ D) → (∀ x ∈ wr, x ≠ C ∧ x ≠ D) → C ≠ D →
      wpAny (model prog w) A (isTrue c (compEnvC scope cl C env) (eval c (compEnvC scope cl C env))) (fun ok s₃ => if ok = true then
        wpAny (model prog w) A (eval elt (compEnvC scope cl C env)) (GEnd h₀ L m s IO C oC D (LCg.lst ys) (fun v nw' => J (i + 1) (ys ++ [v]) nw')) E' s₃
        else GEnd h₀ L m s IO C oC D (LCg.lst ys) (fun _ nw' => J (i + 1) ys nw') .none s₃) E' { s with heap := h, toks := tk })
    (F : Fr h₀ L s.heap m) (N : News h₀ L s.heap nw₀) (off : ∀ p ∈ nw₀, p.1 ∉ wr) (hst : St 0 s.heap) (j0 : J 0 [] nw₀)
    (hRR : ∀ D C h tk m' ys nw', Fr h₀ L h m → News h₀ L h ((D, LCg.lst ys) :: nw') → (∀ p ∈ nw', p.1 ≠ D) → h.Ns C m' → h₀.get? C = none → h₀.get? D = none → C ≠ L → D ≠ L → C ≠ D → (∀ p ∈ nw', p.1 ≠ C) → J n ys nw' → RR (.ref D) C (.ok .next) { s with heap := h, toks := tk }) :
    wpAny (model prog w) A (newList []) (fun acc s₃ => wpAny (model prog w) A (newFunctionEnv scope env.globals cl [] env.qual none .none (some env)) (fun cenv s₄ =>
      codeAny (model prog w) A (.compStart (.ListComp elt [⟨.Tuple [.Name a pa, .Name b pb] kk tp, iter, [c], 0⟩] scope pos) 0 (.ref I) acc { cenv with scope := relabel scope env }) (RR acc cenv.locals) s₄) E s₃) E s := by
  refine wpAny_newObj_type (wpAny_newFunctionEnv hcell (by intro y hy; simp at hy) (fun h₁ hns₁ hsb₁ => ?_) hkind)
  dsimp only at hns₁ hsb₁ ⊢
  generalize hH2 : s.heap.push { cls := .type "list", dict := none, data := .seq ([] : List Value).toArray } = H2 at hns₁ hsb₁ ⊢
  have hC : H2.objs.size = s.heap.objs.size + 1 := by rw [← hH2, Heap.size_push]
  have hDC : s.heap.objs.size ≠ H2.objs.size := by rw [hC]; exact Nat.ne_of_lt (Nat.lt_succ_self _)
  have below : ∀ b, b < s.heap.objs.size → b ≠ H2.objs.size ∧ b ≠ s.heap.objs.size := fun b hb => ⟨by rw [hC]; exact Nat.ne_of_lt (Nat.lt_succ_of_lt hb), Nat.ne_of_lt hb⟩
  have old : ∀ b o, s.heap.get? b = some o → h₁.get? b = some o := fun b o e => hsb₁.extBut b o (below b (Heap.lt_size e)).1 (Heap.get?_push_of_some _ (hH2 ▸ Heap.get?_push_of_some _ e))
  have hacc : h₁.get? s.heap.objs.size = some (LCg.lst []) := hsb₁.extBut _ _ hDC (Heap.get?_push_of_some _ (hH2 ▸ Heap.get?_push_size _ rfl))
  have hst₁ : St 0 h₁ := W.frame _ _ _ hst fun b _ o e => old b o e
  have fresh : ∀ a, s.heap.objs.size ≤ a → s.heap.get? a = none := fun a ha => by
    cases e : s.heap.get? a with
    | none => rfl
    | some o' => exact absurd (Heap.lt_size e) (Nat.not_lt.mpr ha)
  have fresh₀ : ∀ a, s.heap.objs.size ≤ a → h₀.get? a = none := fun a ha => by
    cases e : h₀.get? a with
    | none => rfl
    | some o' => have := F.keep a o' e; rw [fresh a ha] at this; cases this
  have hD₀ : h₀.get? s.heap.objs.size = none := fresh₀ _ (Nat.le_refl _)
  have hC₀ : h₀.get? H2.objs.size = none := fresh₀ _ (by rw [hC]; exact Nat.le_succ _)
  have hLlt : L < s.heap.objs.size := F.ns.lt
  have hDL : s.heap.objs.size ≠ L := Ne.symm (below L hLlt).2
  have hCL : H2.objs.size ≠ L := Ne.symm (below L hLlt).1
  have hwb : ∀ x ∈ wr, x ≠ H2.objs.size ∧ x ≠ s.heap.objs.size := fun x hx => below x (hfpb x (W.sub x hx))
  have off₀ : ∀ p ∈ nw₀, p.1 ∉ wr ∧ p.1 ≠ H2.objs.size ∧ p.1 ≠ s.heap.objs.size := fun p hp => ⟨off p hp, below _ (Heap.lt_size (N p hp).1)⟩
  have loop : ∀ s₃ : Shared, s₃ = { s with heap := h₁, toks := s.toks + ([] : List (Str × Value)).length } →
      codeAny (model prog w) A (.compLoop (.ListComp elt [⟨.Tuple [.Name a pa, .Name b pb] kk tp, iter, [c], 0⟩] scope pos) 0 (.ref I) (.ref s.heap.objs.size) (compEnvC scope cl H2.objs.size env))
        (RR (.ref s.heap.objs.size) H2.objs.size) s₃ := by
    rintro s₃ rfl
    refine kct_loop
      (fun k s' => ∃ h' tk i ys m' nw, s' = { s with heap := h', toks := tk } ∧ i ≤ n ∧ k = n + 1 - i ∧ ys.length ≤ i ∧ St i h' ∧ Fr h₀ L h' m ∧ h'.Ns H2.objs.size m' ∧
        News h₀ L h' ((s.heap.objs.size, LCg.lst ys) :: nw) ∧ (∀ p ∈ nw, p.1 ∉ wr ∧ p.1 ≠ H2.objs.size ∧ p.1 ≠ s.heap.objs.size) ∧ J i ys nw) ?_ (n + 1)
      ⟨h₁, _, 0, [], _, nw₀, rfl, Nat.zero_le _, rfl, Nat.le_refl _, hst₁, F.keeps old, hns₁, fun p hp => ?_, off₀, j0⟩
    · rintro k s' ⟨h', tk, i, ys, m', nw, rfl, hi, rfl, hyl, hst', F', hn', N', off', hJ⟩
      have keepL : ∀ {h h' : Heap}, (∀ b o, b ∉ wr → h.get? b = some o → h'.get? b = some o) → ∀ o, h.get? L = some o → h'.get? L = some o := fun k o e => k L o hL e
      by_cases hlt : i < n
      · refine W.item i _ _ _ hlt hst' fun v h₂ tk₂ hMd hk₂ => ?_
        refine W.go i v _ _ _ hMd fun h₃ hPv hst₃ hk₃ => ?_
        have up₃ : ∀ c o, c ∉ wr → h'.get? c = some o → h₃.get? c = some o := fun c o hc e => hk₃ c o hc (hk₂ c o hc e)
        have N₃ : News h₀ L h₃ nw := fun p hp => ⟨up₃ _ _ (off' p hp).1 (N' p (List.mem_cons_of_mem _ hp)).1, (N' p (List.mem_cons_of_mem _ hp)).2⟩
        obtain ⟨T, x, y, rfl, hT, hPP⟩ := hP i ys nw v h₃ hlt hJ N₃ hPv
        refine kcp_assign (env := compEnvC scope cl H2.objs.size env) hh hT (lookup_relabel_local hxa) (lookup_relabel_local hxb) (by simp [compEnvC, relabel, hkind]) (hn'.at' fun o e => up₃ _ o (fun q => (hwb _ q).1 rfl) e) fun h₄ tk₄ hn₄ hs₄ => ?_
        have up : ∀ c o, c ∉ wr → c ≠ H2.objs.size → h'.get? c = some o → h₄.get? c = some o := fun c o h1 h2 e => hs₄ c o h2 (up₃ c o h1 e)
        have hst₄ : St (i + 1) h₄ := W.frame _ _ _ hst₃ fun b hb o e => hs₄ b o (below b (hfpb b hb)).1 e
        obtain ⟨IO, hIO, hIg⟩ := objs_of wr (hobj _ _ hst₄)
        obtain ⟨oC, heC, hoC⟩ := LCg.ns_obj hn₄
        have F₄ : Fr h₀ L h₄ m := ⟨F'.ns.at' fun o e => up _ o hL (Ne.symm hCL) e, fun c o e => up c o (fun q => by rw [hw₀ c q] at e; cases e) (fun q => by rw [q, hC₀] at e; cases e) (F'.keep c o e), F'.above⟩
        have N₄ : News h₀ L h₄ (IO ++ (H2.objs.size, oC) :: (s.heap.objs.size, LCg.lst ys) :: nw) := fun q hq => by
          rcases List.mem_append.mp hq with hq | hq
          · have hw : q.1 ∈ wr := hIO ▸ List.mem_map_of_mem hq
            exact ⟨hIg q hq, fun e => hL (e ▸ hw), hw₀ _ hw⟩
          · rcases List.mem_cons.mp hq with rfl | hq
            · exact ⟨heC, hCL, hC₀⟩
            · have z := N' q hq
              refine ⟨up _ _ ?_ ?_ z.1, z.2⟩
              · rcases List.mem_cons.mp hq with rfl | hq
                · exact fun q => (hwb _ q).2 rfl
                · exact (off' q hq).1
              · rcases List.mem_cons.mp hq with rfl | hq
                · exact hDC
                · exact (off' q hq).2.1
        have hl₄ : h₄.get? l = some ol := (N₄ (l, ol) (List.mem_append_right _ (List.mem_cons_of_mem _ (List.mem_cons_of_mem _ (hJl _ _ _ hJ))))).1
        have fin : ∀ (ys' : List Value) (h₅ : Heap) (tk₅ : Nat) (nw₅ : List (Addr × Obj)), ys'.length ≤ i + 1 → Fr h₀ L h₅ m → News h₀ L h₅ (IO ++ (H2.objs.size, oC) :: (s.heap.objs.size, LCg.lst ys') :: nw₅) → (∀ p ∈ nw₅, p.1 ∉ IO.map (·.1) ∧ p.1 ≠ H2.objs.size ∧ p.1 ≠ s.heap.objs.size) → J (i + 1) ys' nw₅ →
            ∃ q', q' < n + 1 - i ∧ (∃ h' tk i ys m' nw, ({ s with heap := h₅, toks := tk₅ } : Shared) = { s with heap := h', toks := tk } ∧ i ≤ n ∧ q' = n + 1 - i ∧ ys.length ≤ i ∧ St i h' ∧ Fr h₀ L h' m ∧ h'.Ns H2.objs.size m' ∧
        News h₀ L h' ((s.heap.objs.size, LCg.lst ys) :: nw) ∧ (∀ p ∈ nw, p.1 ∉ wr ∧ p.1 ≠ H2.objs.size ∧ p.1 ≠ s.heap.objs.size) ∧ J i ys nw) := by
          intro ys' h₅ tk₅ nw₅ hl F₅ N₅ off₅ J₅
          have zC := (N₅ (H2.objs.size, oC) (List.mem_append_right _ List.mem_cons_self)).1
          refine ⟨n + 1 - (i + 1), by omega, h₅, tk₅, i + 1, ys', _, nw₅, rfl, hlt, rfl, hl, ?_, F₅, hoC.ns zC, fun q hq => N₅ q (List.mem_append_right _ (List.mem_cons_of_mem _ hq)), fun p hp => ⟨hIO ▸ (off₅ p hp).1, (off₅ p hp).2⟩, J₅⟩
          refine W.frame _ _ _ hst₄ fun b hb o e => ?_
          rcases hfp b hb with hb | rfl
          · rw [← hIO] at hb
            obtain ⟨q, hq, rfl⟩ := List.mem_map.mp hb
            rw [hIg q hq] at e
            cases e
            exact (N₅ q (List.mem_append_left _ hq)).1
          · rw [hl₄] at e
            cases e
            exact (N₅ (b, ol) (List.mem_append_right _ (List.mem_cons_of_mem _ (List.mem_cons_of_mem _ (hJl _ _ _ J₅))))).1
        refine wpAny_mono (step i ys nw IO oC H2.objs.size s.heap.objs.size _ h₄ _ _ x y hlt hJ hIO hPP hoC (by simp [hab]) (by simp) F₄ N₄ (fun p hp => ⟨hIO.symm ▸ (off' p hp).1, (off' p hp).2⟩) hwb (Ne.symm hDC)) (fun okb s₅ h₅ => ?_) fun _ _ e => e
        cases okb with
        | false =>
          simp only [Bool.false_eq_true, if_false] at h₅ ⊢
          obtain ⟨h₅, tk₅, nw₅, rfl, F₅, N₅, off₅, J₅⟩ := h₅
          exact fin ys h₅ tk₅ nw₅ (Nat.le_succ_of_le hyl) F₅ N₅ off₅ J₅
        | true =>
          simp only [if_true] at h₅ ⊢
          refine wpAny_mono h₅ (fun y s₆ h₆ => ?_) fun _ _ e => e
          obtain ⟨h₅, tk₅, nw₅, rfl, F₅, N₅, off₅, J₅⟩ := h₆
          have zD := (N₅ (s.heap.objs.size, LCg.lst ys) (List.mem_append_right _ (List.mem_cons_of_mem _ List.mem_cons_self))).1
          refine append_at (hsz := by show ys.toArray.size ≤ sizeLine; rw [List.size_toArray]; exact Nat.le_trans hyl (Nat.le_trans hi hsz)) zD fun h₆ hs₆ hD₆ => ?_
          refine fin (ys ++ [y]) h₆ _ nw₅ (by rw [List.length_append, List.length_singleton]; exact Nat.succ_le_succ hyl) (F₅.change hs₆ hDL hD₀) (fun q hq => ?_) off₅ J₅
          rcases List.mem_append.mp hq with hq | hq
          · have z := N₅ q (List.mem_append_left _ hq)
            exact ⟨hs₆.extBut _ _ (hwb _ (hIO ▸ List.mem_map_of_mem hq)).2 z.1, z.2⟩
          rcases List.mem_cons.mp hq with rfl | hq
          · exact ⟨hs₆.extBut _ oC (Ne.symm hDC) (N₅ _ (List.mem_append_right _ List.mem_cons_self)).1, hCL, hC₀⟩
          rcases List.mem_cons.mp hq with rfl | hq
          · exact ⟨hD₆.trans (congrArg some (LCg.lst_snoc ys y)), hDL, hD₀⟩
          · have z := N₅ q (List.mem_append_right _ (List.mem_cons_of_mem _ (List.mem_cons_of_mem _ hq)))
            exact ⟨hs₆.extBut _ _ (off₅ q hq).2.2 z.1, z.2⟩
      · have hin : i = n := Nat.le_antisymm hi (Nat.not_lt.mp hlt)
        subst hin
        refine W.done _ _ _ hst' fun h₂ tk₂ hk₂ => ?_
        have F₂ : Fr h₀ L h₂ m := ⟨F'.ns.at' fun o e => hk₂ _ o hL e, fun c o e => hk₂ c o (fun q => by rw [hw₀ c q] at e; cases e) (F'.keep c o e), F'.above⟩
        refine hRR _ _ h₂ tk₂ _ ys nw F₂ (fun p hp => ⟨hk₂ _ _ ?_ (N' p hp).1, (N' p hp).2⟩) (fun p hp => (off' p hp).2.2) (hn'.at' fun o e => hk₂ _ o (fun q => (hwb _ q).1 rfl) e) hC₀ hD₀ hCL hDL (Ne.symm hDC) (fun p hp => (off' p hp).2.1) hJ
        rcases List.mem_cons.mp hp with rfl | hp
        · exact fun q => (hwb _ q).2 rfl
        · exact (off' p hp).1
    · rcases List.mem_cons.mp hp with rfl | hp
      · exact ⟨hacc, hDL, hD₀⟩
      · exact ⟨old _ _ (N p hp).1, (N p hp).2⟩
  exact codeAny_compStart_list (loop _ rfl) (hself _ _ _ hst₁ (loop _ rfl))
end
end Mine
end
section
open PySem PySem.W PyProof.Rows PySem.Spec PySem.Calls PyProof.V
namespace Mine
set_option maxRecDepth 100000
set_option maxHeartbeats 2000000
abbrev tup2 (x y : Value) (n : Nat) : Obj := { cls := .type "tuple", data := .seq #[x, y] n }
section
variable {prog : Program} {w : World} {A : Around} {E : Value → Shared → Prop} {s : Shared} {h₀ : Heap} {L : Addr} {m : Str → Option Value} {env : Env}
/-- a turn's step -/
abbrev GStep (prog : Program) (w : World) (A : Around) (h₀ : Heap) (L : Addr) (m : Str → Option Value) (env : Env) (c elt : PySem.Expr) (a b : Str) (scope : Scope) (cl : List (Str × Addr)) (s₁ : Shared) (n : Nat) (J : Nat → List Value → List (Addr × Obj) → Prop) (PP : Nat → Value → Value → Prop) : Prop :=
  ∀ i ys nw IO oC C D m₂ h tk (E' : Value → Shared → Prop) x y, i < n → J i ys nw → PP i x y → LCg.NsObj oC m₂ → m₂ a = some x → m₂ b = some y → Fr h₀ L h m → News h₀ L h (IO ++ (C, oC) :: (D, LCg.lst ys) :: nw) →
      (∀ p ∈ nw, p.1 ∉ IO.map (·.1) ∧ p.1 ≠ C ∧ p.1 ≠ D) → (∀ x ∈ IO.map (·.1), x ≠ C ∧ x ≠ D) → C ≠ D →
      wpAny (model prog w) A (isTrue c (compEnvC scope cl C env) (eval c (compEnvC scope cl C env))) (fun ok s₃ => if ok = true then
        wpAny (model prog w) A (eval elt (compEnvC scope cl C env)) (GEnd h₀ L m s₁ IO C oC D (LCg.lst ys) (fun v nw' => J (i + 1) (ys ++ [v]) nw')) E' s₃
        else GEnd h₀ L m s₁ IO C oC D (LCg.lst ys) (fun _ nw' => J (i + 1) ys nw') .none s₃) E' { s₁ with heap := h, toks := tk }
def SrcPT (prog : Program) (w : World) (A : Around) (h₀ : Heap) (L : Addr) (m : Str → Option Value) (env : Env) (c elt : PySem.Expr) (a b : Str) (scope : Scope) (cl : List (Str × Addr)) (Q : Value → Shared → Prop) (xv : Value) (s₁ : Shared) : Prop :=
  ∃ (ax : Addr) (vs : List Value) (nn : Nat) (nw₀ : List (Addr × Obj)) (J : Nat → List Value → List (Addr × Obj) → Prop) (PP : Nat → Value → Value → Prop), xv = .ref ax ∧ A.handled = none ∧ Fr h₀ L s₁.heap m ∧ News h₀ L s₁.heap nw₀ ∧ vs.length ≤ 1000 ∧
    (∀ i ys nw, J i ys nw → (ax, listOf vs.toArray nn) ∈ nw) ∧ (∀ k i ys nw v, J k ys nw → vs[i]? = some v → ∃ T x y nT, v = .ref T ∧ (T, tup2 x y nT) ∈ nw ∧ PP i x y) ∧
    GStep prog w A h₀ L m env c elt a b scope cl s₁ vs.length J PP ∧ J 0 [] nw₀ ∧
    ∀ ys nw, J vs.length ys nw → ∀ D h tk, Fr h₀ L h m → News h₀ L h ((D, LCg.lst ys) :: nw) → (∀ p ∈ nw, p.1 ≠ D) → Q (.ref D) { s₁ with heap := h, toks := tk }
theorem ListComp_PT {elt iter c : PySem.Expr} {a b : Str} {pa pb tp : Pos} {kk : Nat} {scope : Scope} {cl : List (Str × Addr)} {pos : Pos} {Q : Value → Shared → Prop} (FU₀ : Fr h₀ L s.heap m)
    (hclos : closureFor scope env = pure cl) (hcell : ∀ y ∈ scope.names, y.2 ≠ .cell) (hkind : scope.kind = .function)
    (hnames : ∀ y ∈ scope.names, y.2 = .local → scope.names.lookup y.1 = some .local) (hxa : scope.names.lookup a = some .local) (hxb : scope.names.lookup b = some .local) (hab : ¬ a = b)
    (h : wpAny (model prog w) A (eval iter env) (SrcPT prog w A h₀ L m env c elt a b scope cl Q) E s)
    (hs : ∀ x, foldedSetIterable iter env x = pure x := by intro _; rfl) :
    wpAny (model prog w) A (eval (.ListComp elt [⟨.Tuple [.Name a pa, .Name b pb] kk tp, iter, [c], 0⟩] scope pos) env) Q E s := by
  rw [eval_ListComp]
  refine wpAny_comprehension_free (use := none) rfl hs hclos hkind hnames (wpAny_mono h (fun xv s₁ h₁ => ?_) fun _ _ e => e)
  obtain ⟨ax, vs, nn, nw₀, J, PP, rfl, hh, F, N, hsz, hJl, hT, step, j0, fin⟩ := h₁
  have hol := (N _ (hJl _ _ _ j0)).1
  have hl : s₁.heap.IsList ax vs.toArray := ⟨_, hol, rfl, nn, rfl⟩
  have hlt : ax < s₁.heap.objs.size := Heap.lt_size hol
  refine wpAny_pyIter_list hl ?_
  have up : ∀ b o, s₁.heap.get? b = some o → (s₁.heap.push { cls := .type "list_iterator", data := .fields #[.ref ax, .int 0 0] }).get? b = some o := fun b o e => Heap.get?_push_of_some _ e
  have hlen : vs.toArray.size = vs.length := by simp
  have W := Walks.list (prog := prog) (w := w) hh s₁.heap.objs.size ax (Nat.ne_of_lt hlt) vs.toArray
  rw [hlen] at W
  have K : KTurns prog w A (.Tuple [.Name a pa, .Name b pb] kk tp) s₁.heap.objs.size [s₁.heap.objs.size, ax] [s₁.heap.objs.size] vs.length (fun i v _ => vs.toArray[i]? = some v) (fun i v h => vs.toArray[i]? = some v ∧ (h.IsListIter s₁.heap.objs.size ax (i + 1) ∧ h.IsList ax vs.toArray)) (fun i h => h.IsListIter s₁.heap.objs.size ax i ∧ h.IsList ax vs.toArray) :=
    { sub := W.sub, frame := W.frame, done := W.done,
      item := fun i s Q E hi st hQ => W.item i s Q E hi st fun v h' tk hP st' hk => hQ v h' tk ⟨hP, st'⟩ hk,
      go := fun i v s' Q' E' hm hQ => by
        obtain ⟨T, x, y, nT, rfl, _⟩ := hT 0 i [] nw₀ v j0 (by simpa using hm.1)
        exact wpAny_letOwnedTupleGo_listiter hm.2.1 (hQ s'.heap hm.1 hm.2 fun _ _ _ e => e) }
  refine block_G (l := ax) (ol := listOf vs.toArray nn) (PP := PP) (s := { s₁ with heap := s₁.heap.push { cls := .type "list_iterator", data := .fields #[.ref ax, .int 0 0] } }) hh K (fun s' Q' E' st hq => W.self 0 s' Q' E' st hq) (by rw [sizeLine_eq]; omega)
    (fun i h st x hx => ?_) (fun x hx => ?_) (fun x hx => ?_) ?_ (fun x hx => ?_) hcell hkind hxa hxb hab J hJl (fun i ys nw v h hi hJ Nw hv => ?_) (fun i ys nw IO oC C D m₂ h tk E' x y hi hJ hIO hPP hC hxa hxb F' N' off' hw hCD => ?_)
    (F.keeps up) (N.grown up) (fun p hp hq => ?_) ⟨⟨_, Heap.get?_push_size _ rfl, rfl, rfl⟩, hl.push _⟩ j0 ?_
  · rw [List.mem_singleton.mp hx]
    obtain ⟨o, e, _⟩ := st.1
    exact ⟨o, e⟩
  · rcases List.mem_cons.mp hx with rfl | hx
    · exact .inl (List.Mem.head _)
    · exact .inr (List.mem_singleton.mp hx)
  · show x < (s₁.heap.push _).objs.size
    rw [Heap.size_push]
    rcases List.mem_cons.mp hx with rfl | hx
    · exact Nat.lt_succ_self _
    · rw [List.mem_singleton.mp hx]; exact Nat.lt_succ_of_lt hlt
  · intro hm
    exact absurd F.ns.lt ((List.mem_singleton.mp hm) ▸ Nat.lt_irrefl _)
  · rw [List.mem_singleton.mp hx]
    exact next_is_new F
  · obtain ⟨T, x, y, nT, rfl, hm, hp⟩ := hT i i ys nw v hJ (by simpa using hv)
    exact ⟨T, x, y, rfl, ⟨_, (Nw _ hm).1, rfl, nT, rfl⟩, hp⟩
  · exact step i ys nw IO oC C D m₂ h tk E' x y hi hJ hPP hC hxa hxb F' N' off' (hIO ▸ hw) hCD
  · exact absurd (Heap.lt_size (N p hp).1) ((List.mem_singleton.mp hq) ▸ Nat.lt_irrefl _)
  · intro D C h tk m' ys nw F' N' o1 hn hC₀ hD₀ hCL hDL hCD offC hJ
    refine ⟨m', hn, fun h'' hs'' => fin ys nw hJ D h'' tk (F'.change hs'' hCL hC₀) (fun p hp => ?_) o1⟩
    refine ⟨hs''.extBut _ _ ?_ (N' p hp).1, (N' p hp).2⟩
    rcases List.mem_cons.mp hp with rfl | hp
    · exact Ne.symm hCD
    · exact offC p hp
def SrcEn (prog : Program) (w : World) (A : Around) (h₀ : Heap) (L : Addr) (m : Str → Option Value) (env : Env) (c elt : PySem.Expr) (a b : Str) (scope : Scope) (cl : List (Str × Addr)) (Q : Value → Shared → Prop) (xv : Value) (s₁ : Shared) : Prop :=
  ∃ (e it l : Addr) (vs : List Value) (nn : Nat) (nw₀ : List (Addr × Obj)) (J : Nat → List Value → List (Addr × Obj) → Prop), xv = .ref e ∧ A.handled = none ∧ Fr h₀ L s₁.heap m ∧ News h₀ L s₁.heap nw₀ ∧ vs.length ≤ 1000 ∧
    (@Ne Nat e it) ∧ (@Ne Nat l e) ∧ (@Ne Nat l it) ∧ L ≠ e ∧ L ≠ it ∧ h₀.get? e = none ∧ h₀.get? it = none ∧ (∀ p ∈ nw₀, p.1 ≠ e ∧ p.1 ≠ it) ∧ IsEnum s₁.heap e it 0 .none ∧ s₁.heap.IsListIter it l 0 ∧
    (∀ i ys nw, J i ys nw → (l, listOf vs.toArray nn) ∈ nw) ∧
    GStep prog w A h₀ L m env c elt a b scope cl s₁ vs.length J (fun i x y => ∃ t, x = .int i t ∧ vs[i]? = some y) ∧ J 0 [] nw₀ ∧
    ∀ ys nw, J vs.length ys nw → ∀ D h tk, Fr h₀ L h m → News h₀ L h ((D, LCg.lst ys) :: nw) → (∀ p ∈ nw, p.1 ≠ D) → Q (.ref D) { s₁ with heap := h, toks := tk }
theorem ListComp_En {elt iter c : PySem.Expr} {a b : Str} {pa pb tp : Pos} {kk : Nat} {scope : Scope} {cl : List (Str × Addr)} {pos : Pos} {Q : Value → Shared → Prop} (FU₀ : Fr h₀ L s.heap m)
    (hclos : closureFor scope env = pure cl) (hcell : ∀ y ∈ scope.names, y.2 ≠ .cell) (hkind : scope.kind = .function)
    (hnames : ∀ y ∈ scope.names, y.2 = .local → scope.names.lookup y.1 = some .local) (hxa : scope.names.lookup a = some .local) (hxb : scope.names.lookup b = some .local) (hab : ¬ a = b)
    (h : wpAny (model prog w) A (eval iter env) (SrcEn prog w A h₀ L m env c elt a b scope cl Q) E s)
    (hs : ∀ x, foldedSetIterable iter env x = pure x := by intro _; rfl) :
    wpAny (model prog w) A (eval (.ListComp elt [⟨.Tuple [.Name a pa, .Name b pb] kk tp, iter, [c], 0⟩] scope pos) env) Q E s := by
  rw [eval_ListComp]
  refine wpAny_comprehension_free (use := none) rfl hs hclos hkind hnames (wpAny_mono h (fun xv s₁ h₁ => ?_) fun _ _ e => e)
  obtain ⟨e, it, l, vs, nn, nw₀, J, rfl, hh, F, N, hsz, hei, hle, hli, hLe, hLi, he₀, hi₀, off, hE, hI, hJl, step, j0, fin⟩ := h₁
  have hol := (N _ (hJl _ _ _ j0)).1
  have hl : s₁.heap.IsList l vs.toArray := ⟨_, hol, rfl, nn, rfl⟩
  have hlt : l < s₁.heap.objs.size := Heap.lt_size hol
  refine wpAny_pyIter_enum hE ?_
  have hlen : vs.toArray.size = vs.length := by simp
  have W := KTurns.ofWalksU (elts := [.Name a pa, .Name b pb]) (k := kk) (pos := tp) (WalksT.enumerate (prog := prog) (w := w) hh e it l hei hle hli vs.toArray).toU
  rw [hlen] at W
  have hit : it < s₁.heap.objs.size := by obtain ⟨o, ho, _⟩ := hI; exact Heap.lt_size ho
  refine block_G (l := l) (ol := listOf vs.toArray nn) (PP := fun i x y => ∃ t, x = .int i t ∧ vs[i]? = some y) hh W (fun s' Q' E' st hq => by obtain ⟨⟨old, ho⟩, _⟩ := st; exact wpAny_pyIter_enum ho hq) (by rw [sizeLine_eq]; omega)
    (fun i h st x hx => ?_) (fun x hx => ?_) (fun x hx => ?_) ?_ (fun x hx => ?_) hcell hkind hxa hxb hab J hJl (fun i ys nw v h hi hJ Nw hv => ?_) (fun i ys nw IO oC C D m₂ h tk E' x y hi hJ hIO hPP hC hxa hxb F' N' off' hw hCD => ?_)
    F N (fun p hp hq => ?_) ⟨⟨_, hE⟩, hI, hl⟩ j0 ?_
  · obtain ⟨⟨old, ho⟩, ⟨o, hi, _⟩, _⟩ := st
    rcases List.mem_cons.mp hx with rfl | hx
    · exact ⟨_, ho⟩
    · rw [List.mem_singleton.mp hx]; exact ⟨_, hi⟩
  · rcases List.mem_cons.mp hx with rfl | hx
    · exact .inl (List.Mem.head _)
    · rcases List.mem_cons.mp hx with rfl | hx
      · exact .inl (List.Mem.tail _ (List.Mem.head _))
      · exact .inr (List.mem_singleton.mp hx)
  · rcases List.mem_cons.mp hx with rfl | hx
    · exact Heap.lt_size hE
    · rcases List.mem_cons.mp hx with rfl | hx
      · exact hit
      · rw [List.mem_singleton.mp hx]; exact hlt
  · intro hm
    rcases List.mem_cons.mp hm with e | hm
    · exact hLe e
    · exact hLi (List.mem_singleton.mp hm)
  · rcases List.mem_cons.mp hx with rfl | hx
    · exact he₀
    · rw [List.mem_singleton.mp hx]; exact hi₀
  · obtain ⟨T, vals, rfl, ⟨t, x, hx, rfl⟩, hT⟩ := hv
    exact ⟨T, _, _, rfl, hT, t, rfl, by simpa using hx⟩
  · exact step i ys nw IO oC C D m₂ h tk E' x y hi hJ hPP hC hxa hxb F' N' off' (hIO ▸ hw) hCD
  · rcases List.mem_cons.mp hq with e | hq
    · exact (off p hp).1 e
    · exact (off p hp).2 (List.mem_singleton.mp hq)
  · intro D C h tk m' ys nw F' N' o1 hn hC₀ hD₀ hCL hDL hCD offC hJ
    refine ⟨m', hn, fun h'' hs'' => fin ys nw hJ D h'' tk (F'.change hs'' hCL hC₀) (fun p hp => ?_) o1⟩
    refine ⟨hs''.extBut _ _ ?_ (N' p hp).1, (N' p hp).2⟩
    rcases List.mem_cons.mp hp with rfl | hp
    · exact Ne.symm hCD
    · exact offC p hp
end
end Mine
end
section
open PySem PySem.W PyProof.Rows PySem.Spec PySem.Calls PyProof.V
namespace Mine
set_option maxRecDepth 100000
set_option maxHeartbeats 2000000
section
variable {prog : Program} {w : World} {A : Around} {E : Value → Shared → Prop} {s : Shared} {h₀ : Heap} {L : Addr} {m : Str → Option Value} {env : Env}
def SrcS (prog : Program) (w : World) (A : Around) (h₀ : Heap) (L : Addr) (m : Str → Option Value) (env : Env) (elt : PySem.Expr) (x : Str) (scope : Scope) (cl : List (Str × Addr)) (Q : Value → Shared → Prop) (xv : Value) (s₁ : Shared) : Prop :=
  ∃ (z : Str) (t : Tok) (nw₀ : List (Addr × Obj)) (J : Nat → List Value → List (Addr × Obj) → Prop), xv = .str z t ∧ A.handled = none ∧ Fr h₀ L s₁.heap m ∧ News h₀ L s₁.heap nw₀ ∧ z.cps.size ≤ 1000 ∧
    (∀ i ys news, i < z.cps.size → J i ys news → ∀ v I oI C oC D m₂ h tk (E' : Value → Shared → Prop), SignAt z i v → LCg.NsObj oC m₂ → m₂ x = some v → Fr h₀ L h m → News h₀ L h ((I, oI) :: (C, oC) :: (D, LCg.lst ys) :: news) → (∀ p ∈ news, p.1 ≠ I ∧ p.1 ≠ C ∧ p.1 ≠ D) → ((@Ne Nat I C) ∧ (@Ne Nat I D) ∧ (@Ne Nat C D)) →
      wpAny (model prog w) A (eval elt (compEnvC scope cl C env)) (LCg.CompEnd h₀ L m { s₁ with heap := h, toks := tk } I oI C oC D (LCg.lst ys) (fun _ => True) (fun y news' => J (i + 1) (ys ++ [y]) news')) E' { s₁ with heap := h, toks := tk }) ∧ J 0 [] nw₀ ∧
    ∀ ys nw, J z.cps.size ys nw → LCg.FinE h₀ L m s₁ Q ys nw
theorem ListComp_S {elt iter : PySem.Expr} {x : Str} {px : Pos} {scope : Scope} {cl : List (Str × Addr)} {pos : Pos} {Q : Value → Shared → Prop} (FU₀ : Fr h₀ L s.heap m)
    (hclos : closureFor scope env = pure cl) (hcell : ∀ y ∈ scope.names, y.2 ≠ .cell) (hkind : scope.kind = .function)
    (hnames : ∀ y ∈ scope.names, y.2 = .local → scope.names.lookup y.1 = some .local) (hx : scope.names.lookup x = some .local)
    (h : wpAny (model prog w) A (eval iter env) (SrcS prog w A h₀ L m env elt x scope cl Q) E s)
    (hs : ∀ x, foldedSetIterable iter env x = pure x := by intro _; rfl) :
    wpAny (model prog w) A (eval (.ListComp elt [⟨.Name x px, iter, [], 0⟩] scope pos) env) Q E s := by
  rw [eval_ListComp]
  refine wpAny_comprehension_free (use := none) rfl hs hclos hkind hnames (wpAny_mono h (fun xv s₁ h₁ => ?_) fun _ _ e => e)
  obtain ⟨z, t, nw₀, J, rfl, hh, F, N, hsz, step, j0, fin⟩ := h₁
  have main : ∀ (o : Obj) (St : Nat → Heap → Prop) (kind : String), (∀ i h, St i h ↔ h.IsStrIter s₁.heap.objs.size kind z t i) → Walks prog w A s₁.heap.objs.size [s₁.heap.objs.size] [s₁.heap.objs.size] z.cps.size (SignAt z) St → St 0 (s₁.heap.push o) →
      wpAny (model prog w) A (newList []) (fun acc s₃ => wpAny (model prog w) A (newFunctionEnv scope env.globals cl [] env.qual none .none (some env)) (fun cenv s₄ =>
        codeAny (model prog w) A (.compStart (.ListComp elt [⟨.Name x px, iter, [], 0⟩] scope pos) 0 (.ref s₁.heap.objs.size) acc { cenv with scope := relabel scope env }) (compPost (model prog w) A E none Q acc cenv.locals) s₄) E s₃) E { s₁ with heap := s₁.heap.push o } := by
    intro o St kind hSt W st0
    have up : ∀ b o', s₁.heap.get? b = some o' → (s₁.heap.push o).get? b = some o' := fun b o' e => Heap.get?_push_of_some _ e
    refine LCg.block_U (S := fun _ => True) (Fin := LCg.FinE h₀ L m s₁ Q) (P := SignAt z) (s₂ := { s₁ with heap := s₁.heap.push o }) W (by rw [sizeLine_eq]; omega) (fun i h st => by obtain ⟨o', e, _⟩ := (hSt i h).mp st; exact ⟨o', e⟩) (fun i h h' o' nw st e e' _ _ _ => ?_) hcell hkind hx st0 (fun b hb => ?_)
      (F.keeps up) (N.grown up) (Nat.ne_of_lt F.ns.lt) (next_is_new F) (fun p hp => Nat.ne_of_lt (Heap.lt_size (N p hp).1)) trivial (comp_ind (s := { s₁ with heap := s₁.heap.push o }) J step fin j0) ?_
    · obtain ⟨o2, e2, r⟩ := (hSt i h).mp st
      rw [e] at e2
      cases e2
      exact (hSt i h').mpr ⟨o', e', r⟩
    · show b < (s₁.heap.push _).objs.size
      rw [Heap.size_push, List.mem_singleton.mp hb]
      exact Nat.lt_succ_self _
    · intro D C h tk m' ys news' F' N' o1 hn hC₀ hD₀ hCL hDL hCD offC fin
      refine ⟨m', hn, fun h'' hs'' => fin D h'' tk (F'.change hs'' hCL hC₀) (fun p hp => ?_) o1⟩
      refine ⟨hs''.extBut _ _ ?_ (N' p hp).1, (N' p hp).2⟩
      rcases List.mem_cons.mp hp with rfl | hp
      · exact Ne.symm hCD
      · exact offC p hp
  cases ha : z.cps.all (· < 128)
  · exact wpAny_pyIter_wide ha (main _ _ "str_iterator" (fun _ _ => Iff.rfl) (Walks.strWide hh _ z t) ⟨_, Heap.get?_push_size _ rfl, rfl, rfl⟩)
  · exact wpAny_pyIter_ascii ha (main _ _ "str_ascii_iterator" (fun _ _ => Iff.rfl) (Walks.strAscii hh _ z t) ⟨_, Heap.get?_push_size _ rfl, rfl, rfl⟩)
end
end Mine
end
section
open PySem PySem.W PyProof.Rows
namespace Mine
/-- the signs with their marks -/
def mk (b : Bool) : Option Nat → List Nat → List (Nat × Bool)
  | _, [] => []
  | none, c :: r => (c, false) :: mk b (if b && isQu c then some c else none) r
  | some q, c :: r => (c, true) :: mk b (if c = q then none else some q) r
def qend (q : Nat) : List Nat → Nat
  | [] => 0
  | c :: r => if c = q then 1 else qend q r + 1
theorem mk_some (b : Bool) (q : Nat) : ∀ r : List Nat, mk b (some q) r = (r.take (qend q r)).map (fun c => (c, true)) ++ mk b none (r.drop (qend q r))
  | [] => by simp [mk, qend]
  | c :: r => by
    by_cases h : c = q
    · simp [mk, qend, h]
    · simp [mk, qend, h, mk_some b q r]
theorem qend_le (q : Nat) : ∀ r : List Nat, qend q r ≤ r.length
  | [] => Nat.le_refl _
  | c :: r => by
    unfold qend
    split
    · simp
    · have := qend_le q r; simp; omega
theorem qend_none (q : Nat) : ∀ r : List Nat, (∀ j (h : j < r.length), r[j] ≠ q) → qend q r = r.length
  | [], _ => rfl
  | c :: r, h => by
    have h0 := h 0 (by simp)
    simp only [List.getElem_cons_zero] at h0
    unfold qend
    rw [if_neg h0, qend_none q r (fun j hj => by have := h (j + 1) (by simpa using hj); simpa using this)]
    rfl
theorem qend_some (q : Nat) : ∀ (r : List Nat) (j : Nat) (hj : j < r.length), r[j] = q → (∀ i (h : i < j), r[i]'(by omega) ≠ q) → qend q r = j + 1
  | [], _, hj, _, _ => absurd hj (Nat.not_lt_zero _)
  | c :: r, 0, _, e, _ => by
    simp only [List.getElem_cons_zero] at e
    unfold qend
    rw [if_pos e]
  | c :: r, j + 1, hj, e, h => by
    have h0 := h 0 (by omega)
    simp only [List.getElem_cons_zero] at h0
    unfold qend
    rw [if_neg h0, qend_some q r j (by simpa using hj) (by simpa using e) (fun i hi => by have := h (i + 1) (by omega); simpa using this)]
theorem mk_step (b : Bool) (l : List Nat) (k : Nat) (hk : k < l.length) (hq : (b && isQu l[k]) = false) {ps : List (Nat × Bool)} (e : mk b none l = ps ++ mk b none (l.drop k)) : mk b none l = (ps ++ [(l[k], false)]) ++ mk b none (l.drop (k + 1)) := by
  rw [e, List.drop_eq_getElem_cons hk, List.append_assoc]
  simp only [mk, hq, Bool.false_eq_true, if_false, List.singleton_append, List.cons_append, List.nil_append]
theorem mk_quote (b : Bool) (l : List Nat) (k : Nat) (hk : k < l.length) (hq : (b && isQu l[k]) = true) {ps : List (Nat × Bool)} (e : mk b none l = ps ++ mk b none (l.drop k)) :
    mk b none l = (ps ++ [(l[k], false)] ++ ((l.drop (k + 1)).take (qend l[k] (l.drop (k + 1)))).map (fun c => (c, true))) ++ mk b none (l.drop (k + 1 + qend l[k] (l.drop (k + 1)))) := by
  rw [e, List.drop_eq_getElem_cons hk]
  simp only [mk, hq, if_true, mk_some, List.drop_drop, List.append_assoc, List.cons_append, List.nil_append]

abbrev tupP (c : Nat) (t : Tok) (k : Bool) (n : Nat) : Obj := { cls := .type "tuple", data := .seq #[.str (tx [c]) t, .bool k] n }
/-- pairs in a ledger -/
inductive PIn (nw : List (Addr × Obj)) : List Value → List (Nat × Bool) → Prop
  | nil : PIn nw [] []
  | cons {T : Addr} {c : Nat} {t : Tok} {k : Bool} {n : Nat} {vs : List Value} {ps : List (Nat × Bool)} : (T, tupP c t k n) ∈ nw → PIn nw vs ps → PIn nw (.ref T :: vs) ((c, k) :: ps)
theorem PIn.mono {nw nw' : List (Addr × Obj)} (hs : ∀ p ∈ nw, p ∈ nw') {vs ps} (h : PIn nw vs ps) : PIn nw' vs ps := by
  induction h with
  | nil => exact .nil
  | cons hm _ ih => exact .cons (hs _ hm) ih
theorem PIn.append {nw : List (Addr × Obj)} {vs ps vs' ps'} (h : PIn nw vs ps) (h' : PIn nw vs' ps') : PIn nw (vs ++ vs') (ps ++ ps') := by
  induction h with
  | nil => exact h'
  | cons hm _ ih => exact .cons hm ih
theorem PIn.length {nw : List (Addr × Obj)} {vs ps} (h : PIn nw vs ps) : vs.length = ps.length := by
  induction h with
  | nil => rfl
  | cons _ _ ih => simp [ih]
theorem PIn.one {nw : List (Addr × Obj)} {T : Addr} {c : Nat} {t : Tok} {k : Bool} {n : Nat} (h : (T, tupP c t k n) ∈ nw) : PIn nw [.ref T] [(c, k)] := .cons h .nil
theorem PIn.get {nw : List (Addr × Obj)} {vs ps} (h : PIn nw vs ps) : ∀ {i : Nat} {v : Value}, vs[i]? = some v → ∃ (T : Addr) (c : Nat) (t : Tok) (k : Bool) (n : Nat), v = .ref T ∧ (T, tupP c t k n) ∈ nw ∧ ps[i]? = some (c, k) := by
  induction h with
  | nil => intro i v e; simp at e
  | cons hm _ ih =>
    intro i v e
    cases i with
    | zero =>
      simp only [List.getElem?_cons_zero, Option.some.injEq] at e
      subst e
      exact ⟨_, _, _, _, _, rfl, hm, rfl⟩
    | succ i => exact ih (by simpa using e)
theorem PIn.drop {nw : List (Addr × Obj)} {vs ps} (h : PIn nw vs ps) : ∀ k : Nat, PIn nw (vs.drop k) (ps.drop k) := by
  induction h with
  | nil => intro k; simp; exact .nil
  | cons hm h ih =>
    intro k
    cases k with
    | zero => exact .cons hm h
    | succ k => simpa using ih k
theorem PIn.take {nw : List (Addr × Obj)} {vs ps} (h : PIn nw vs ps) : ∀ k : Nat, PIn nw (vs.take k) (ps.take k) := by
  induction h with
  | nil => intro k; simp; exact .nil
  | cons hm h ih =>
    intro k
    cases k with
    | zero => exact .nil
    | succ k => simpa using .cons hm (ih k)
theorem mk_len (b : Bool) : ∀ (l : List Nat) (q : Option Nat), (mk b q l).length = l.length
  | [], q => by cases q <;> rfl
  | c :: r, none => by simp [mk, mk_len b r]
  | c :: r, some q => by simp [mk, mk_len b r]
end Mine
end
section
open PySem PySem.W PyProof.Rows
namespace Mine
set_option maxRecDepth 100000
set_option maxHeartbeats 8000000
section
variable {w : World} {loose : List Str} {mean : ExcName → Option Value} {mg mb : Str → Option Value} {dp un : Nat} {gd : Option (List Code)} {cn : Str} {cs : Scope} {a : Addr} {ccd : Value} {cl : List (Str × Addr)} {outer : List Env} {A₀ : Around} {base h₀ : Heap} {L : Addr} {m : Str → Option Value} {news : List (Addr × Obj)} {s : Shared} {Q E : Value → Shared → Prop}
local macro_rules | `(tactic| k_mem) => `(tactic| first | assumption | exact List.Mem.head _ | (refine' List.Mem.tail _ ?_; k_mem))
local macro_rules | `(tactic| k_all) => `(tactic| first | assumption | exact List.forall_mem_nil _ | (refine' neAll_cons ?a ?b; (case a => k_ne); (case b => k_all)))
local macro_rules | `(tactic| walk_at "subscriptTail") => `(tactic| (k_here; (with_reducible show wpAny _ _ (subscriptTail _ _ (Value.ref _) (Value.int 0 _)) _ _ _); k_dflt (refine' item0_news ?N ?k1 ?_; (case N => k_asm); (case k1 => k_mem); k_whole)))
local macro_rules | `(tactic| tb_start) => `(tactic| repeat ((fail_if_success (with_reducible show wpAny _ _ (exec (Stmt.While _ _ _ _) _) _ _ _)); (first | (k_unfold; (try dsimp only)) | walk1 | (dsimp only; walk1))))

local macro_rules | `(tactic| walk_at "call builtin:list.append") => `(tactic| (k_here; (with_reducible show wpAny _ _ (call (Value.builtin "list.append") _) _ _ _); k_dflt (refine' append_K ?k1 ?k2 ?k3 ?_ ?k4; (case k1 => k_asm); (case k2 => k_asm); (case k3 => k_upd); (case k4 => (rw [List.size_toArray, sizeLine_eq]; omega)); k_whole); intro h' F' N'))

local macro_rules | `(tactic| tb_rel) => `(tactic| repeat ((fail_if_success (with_reducible show wpAny _ _ (exec (Stmt.If _ _ _ _) _) _ _ _)); (fail_if_success (with_reducible show wpAny _ _ (eval (Expr.ListComp _ _ _ _) _) _ _ _)); (fail_if_success (with_reducible show LCt.CompSrcT _ _ _ _ _ _ _ _ _ _ _ _ _ _ _)); (fail_if_success (with_reducible show wpAny _ _ (binaryOp Operator.Add (Value.ref _) (Value.ref _)) _ _ _)); (first | (k_unfold; (try dsimp only)) | walk1 | (dsimp only; walk1))))

theorem allLt_mem {d : Nat} : ∀ {l : List (Addr × Obj)}, AllLt d l → ∀ p ∈ l, @LT.lt Nat _ p.1 d
  | [], _, _, h => nomatch h
  | q :: r, ⟨h1, h2⟩, p, hp => by
    rcases List.mem_cons.mp hp with rfl | hp
    · exact h1
    · exact allLt_mem h2 p hp
theorem push_list (vs : List Value) (v : Value) : (vs ++ [v]).toArray = vs.toArray.push v := by simp
/-- the ends of what a quote keeps, as far as seen -/
def EndsJ (l : List Nat) (c k i : Nat) (ys : List Value) : Prop :=
  ys.length ≤ i ∧ ((ys = [] ∧ ∀ j (hj : j < (l.drop (k + 1)).length), j < i → (l.drop (k + 1))[j] ≠ c) ∨ ∃ tk rest, ys = .int ((k + 1 + qend c (l.drop (k + 1)) : Nat) : Int) tk :: rest)
theorem EndsJ.done {l : List Nat} {c k : Nat} {ys : List Value} {tk : Tok} (hk : k < l.length) (h : EndsJ l c k (l.length - (k + 1)) ys) : ∃ tk' rest, ys ++ [.int ((l.length : Nat) : Int) tk] = .int ((k + 1 + qend c (l.drop (k + 1)) : Nat) : Int) tk' :: rest := by
  rcases h.2 with ⟨rfl, h5⟩ | ⟨tk', rest, rfl⟩
  · refine ⟨tk, [], ?_⟩
    have e := qend_none c (l.drop (k + 1)) (fun j hj => h5 j hj (by simpa using hj))
    rw [e, List.length_drop, List.nil_append]
    congr 3
    omega
  · exact ⟨tk', _, rfl⟩
theorem EndsJ.no {l : List Nat} {c k i : Nat} {ys : List Value} (hi : k + 1 + i < l.length) (h : EndsJ l c k i ys) (hne : l[k + 1 + i] ≠ c) : EndsJ l c k (i + 1) ys := by
  refine ⟨Nat.le_succ_of_le h.1, ?_⟩
  rcases h.2 with ⟨rfl, h5⟩ | h5
  · refine .inl ⟨rfl, fun j hj hji => ?_⟩
    by_cases e : j = i
    · subst e; simpa using hne
    · exact h5 j hj (by omega)
  · exact .inr (by assumption)
theorem EndsJ.yes {l : List Nat} {c k i : Nat} {ys : List Value} {v : Int} {tk : Tok} (hi : k + 1 + i < l.length) (h : EndsJ l c k i ys) (he : l[k + 1 + i] = c) (hv : v = ((k + 1 + i + 1 : Nat) : Int)) : EndsJ l c k (i + 1) (ys ++ [.int v tk]) := by
  refine ⟨by have := h.1; simp; omega, ?_⟩
  rcases h.2 with ⟨rfl, h5⟩ | ⟨tk', rest, rfl⟩
  · refine .inr ⟨tk, [], ?_⟩
    have hi' : i < (l.drop (k + 1)).length := by simp; omega
    rw [qend_some c (l.drop (k + 1)) i hi' (by simpa using he) (fun j hj => h5 j (by omega) hj), List.nil_append, hv]
    rfl
  · exact .inr ⟨tk', _, rfl⟩

theorem item_tx' (l : List Nat) (j : Nat) {z : Int} (hz : z = (j : Nat)) (h : j < l.length) : Txt.item (tx l) z = ⟨#[l[j]]⟩ := by subst hz; exact item_tx l j h
section
variable {prog : Program} {A : Around}
theorem add_ll {a b : Addr} {vs ws : List Value} {n n' : Nat} {Q : Value → Shared → Prop} (F : Fr h₀ L s.heap m) (N : News h₀ L s.heap news) (ha : (a, listOf vs.toArray n) ∈ news) (hb : (b, listOf ws.toArray n') ∈ news) (hz : vs.length + ws.length ≤ 1000)
    (h : ∀ D h', Fr h₀ L h' m → News h₀ L h' ((D, listOf (vs ++ ws).toArray 0) :: news) → (∀ p ∈ news, p.1 < D) → Q (.ref D) { s with heap := h' }) : wpAny (model prog w) A (binaryOp .Add (.ref a) (.ref b)) Q E s :=
  add_lists F N ⟨_, (N _ ha).1, rfl, n, rfl⟩ ⟨_, (N _ hb).1, rfl, n', rfl⟩ (fun h' F' N' => h _ h' F' N' fun p hp => Heap.lt_size (N p hp).1) (by rw [sizeLine_eq]; omega)
end
/-- between two turns of _law_marked's loop -/
inductive MJ (l : List Nat) (b : Bool) (L' : Addr) (o2 : Obj) (news : List (Addr × Obj)) (n : Nat) (m' : Str → Option Value) (nw : List (Addr × Obj)) : Prop
  | into (k : Nat) (tk : Tok) (D : Addr) (vs : List Value) (ps : List (Nat × Bool)) (nD : Nat) (oS : Obj) (vS : Option Value) (own : List (Addr × Obj)) (ue : Option Value) : (n = l.length - k) → (k ≤ l.length) → (vs.length ≤ k) → (oS.data = .cell vS) → ((nw = (L' + 1 + 1, oS) :: (L' + 1, o2) :: (D, listOf vs.toArray nD) :: (own ++ news))) → ((∀ p ∈ own, @LT.lt Nat _ L' p.1)) → ((∀ p ∈ own ++ news, p.1 ≠ L' + 1)) → ((∀ p ∈ own ++ news, p.1 ≠ L' + 1 + 1)) → ((∀ p ∈ own ++ news, p.1 ≠ D)) → ((@Ne Nat D (L' + 1))) → ((@Ne Nat D (L' + 1 + 1))) → (PIn own vs ps) → (mk b none l = ps ++ mk b none (l.drop k)) → (m' = fun y => if y = Str.ofString "pairs" then some (.ref D) else if y = Str.ofString "at" then some (.int (k : Int) tk) else if y = Str.ofString "ends" then ue else if y = Str.ofString "has_quotes" then some (.bool b) else none) → MJ l b L' o2 news n m' nw

theorem MJ.step {l : List Nat} {b : Bool} {L' : Addr} {o2 : Obj} {news : List (Addr × Obj)} {g h : Heap} {s : Shared} {k k' tk' : Nat} {z : Int} {m5 : Str → Option Value} {tk : Tok} {D : Addr} {vs : List Value} {ps : List (Nat × Bool)} {nD : Nat} {oS : Obj} {vS : Option Value} {own own' : List (Addr × Obj)}
    (F : Fr g L' h m5) (N : News g L' h ((L' + 1 + 1, oS) :: (L' + 1, o2) :: (D, listOf vs.toArray nD) :: (own' ++ (own ++ news)))) (hkk : k < k') (hk : k' ≤ l.length) (hvk : vs.length ≤ k') (hoS : oS.data = .cell vS)
    (h0' : ∀ p ∈ own' ++ own, @LT.lt Nat _ L' p.1) (h1 : ∀ p ∈ own' ++ (own ++ news), p.1 ≠ L' + 1) (h2 : ∀ p ∈ own' ++ (own ++ news), p.1 ≠ L' + 1 + 1) (h3 : ∀ p ∈ own' ++ (own ++ news), p.1 ≠ D) (hD1 : @Ne Nat D (L' + 1)) (hD2 : @Ne Nat D (L' + 1 + 1)) (hP : PIn (own' ++ own) vs ps) (hmk : mk b none l = ps ++ mk b none (l.drop k'))
    (hz : z = ((k' : Nat) : Int)) (e1 : m5 (Str.ofString "pairs") = some (.ref D)) (e2 : m5 (Str.ofString "at") = some (.int z tk)) (e3 : m5 (Str.ofString "has_quotes") = some (.bool b)) (e4 : ∀ y, y ≠ Str.ofString "pairs" → y ≠ Str.ofString "at" → y ≠ Str.ofString "ends" → y ≠ Str.ofString "has_quotes" → m5 y = none) :
    WhileStep g L' s (MJ l b L' o2 news) (l.length - k) .next { s with heap := h, toks := tk' } := by
  subst hz
  rw [← List.append_assoc] at N h1 h2 h3
  refine WhileStep.intro (n' := l.length - k') F N (by omega) ⟨k', tk, D, vs, ps, nD, oS, vS, own' ++ own, m5 (Str.ofString "ends"), rfl, hk, hvk, hoS, rfl, h0', h1, h2, h3, hD1, hD2, hP, hmk, ?_⟩
  funext y
  by_cases y1 : y = Str.ofString "pairs"
  · rw [y1, if_pos rfl, e1]
  by_cases y2 : y = Str.ofString "at"
  · rw [if_neg y1, if_pos y2, y2, e2]
  by_cases y3 : y = Str.ofString "ends"
  · rw [if_neg y1, if_neg y2, if_pos y3, y3]
  by_cases y4 : y = Str.ofString "has_quotes"
  · rw [if_neg y1, if_neg y2, if_neg y3, if_pos y4, y4, e3]
  · rw [if_neg y1, if_neg y2, if_neg y3, if_neg y4, e4 y y1 y2 y3 y4]

theorem marked_call {l : List Nat} {t : Tok} {b : Bool} (hl : l.length ≤ 8)
    (hB : Below A₀ base outer h₀) (F : Fr h₀ L s.heap m) (hK : (hd.heap_1 w.params).In h₀) (N : News h₀ L s.heap news) (hT : Top vw loose mean mg mb h₀) (hcs : cs.kind = .function)
    (hdp : dp + 8 < recursionLimit) (hunU : un + 60 < cLine)
    (hret : ∀ (D : Addr) (vs : List Value) (n : Nat) (own : List (Addr × Obj)) (h' : Heap) (tk' : Nat), Fr h₀ L h' m → News h₀ L h' ((D, listOf vs.toArray n) :: own ++ news) → (∀ p ∈ own ++ news, p.1 ≠ D) → (∀ p ∈ own, ∀ q ∈ news, @LT.lt Nat _ q.1 p.1) → PIn own vs (mk b none l) → Q (.ref D) { s with heap := h', toks := tk' }) :
    wpAny (model PySem.Challenge.rw_pf0006_01.row.prog w) (ktrTop dp un gd cn cs L a ccd cl outer) (call (.ref 160) [.str (tx l) t, .bool b]) Q E s := by
  w_on
  revert hK; k_fill; intro hK
  refine wpAny_call ?_
  k_dflt (refine' code_defC ?k1 ?k2 ?k3 ?k4 ?k5 ?kA ?kF ?kK ?k6 ?k7 ?k8 ?k9 ?kB ?kD ?_ ?c2 ?c3 ?c4; (case kA => exact rfl); (case kF => exact rfl); (case kK => assumption); (case k1 => k_asm); (case k2 => k_asm); (case k3 => k_asm); (case k4 => k_asm); (case k5 => k_asm); (case k6 => k_is); (case k7 => k_is); (case k8 => ktr_room); (case k9 => exact BindsTo.of_eq rfl); (case kB => exact rfl); (case kD => decide +kernel); (case c2 => exact rfl); (case c3 => exact rfl); (case c4 => exact rfl); k_whole; intro g' L' h' tk' cells' FG' F' N' Y' B' X' T' l1; (try k_lt l1); k_cells Y'; (try simp only [List.cons_append, List.nil_append] at N'); (try dsimp only); (try k_lift B'); (try k_fold))
  rename_i o1 o2 d1' d2'
  clear F N FG'
  have d1 : o1.data = .cell none := d1'
  have d2 : o2.data = .cell (some (.str (tx l) t)) := d2'
  clear d1' d2'
  replace F' : Fr g' L' h' (fun y => if y = Str.ofString "has_quotes" then some (.bool b) else none) := F'
  have hR1 : ∀ p ∈ news, p.1 ≠ L' + 1 := fun p hp => Nat.ne_of_lt (Nat.lt_of_lt_of_le (l1 p hp) (Nat.le_succ _))
  have hR2 : ∀ p ∈ news, p.1 ≠ L' + 1 + 1 := fun p hp => Nat.ne_of_lt (Nat.lt_of_lt_of_le (l1 p hp) (Nat.le_succ_of_le (Nat.le_succ _)))
  have hx : (tx l).length = l.length := tx_len l
  tb_start
  rename_i l2 _ _ l3 _ _ hX F3 N3
  obtain ⟨D, tk1, F4, N4, hD⟩ : ∃ (D : Addr) (tk1 : Tok), Fr g' L' hX (fun y => if y = Str.ofString "pairs" then some (.ref D) else if y = Str.ofString "at" then some (.int 0 tk1) else if y = Str.ofString "has_quotes" then some (.bool b) else none) ∧
      News g' L' hX ((L' + 1 + 1, o1) :: (L' + 1, o2) :: (D, listOf ([] : List Value).toArray 0) :: news) ∧ (@LT.lt Nat _ (L' + 1 + 1) D ∧ @LT.lt Nat _ (L' + 1) D ∧ AllLt D news) := by
    refine ⟨_, _, F3, cb_drop N3 (fun p hp => ?_), l2⟩
    rcases List.mem_cons.mp hp with rfl | hp
    · simp
    rcases List.mem_cons.mp hp with rfl | hp
    · simp
    rcases List.mem_cons.mp hp with rfl | hp
    · simp
    · simp [hp]
  clear F3 N3 l2 l3
  refine While_inv (MJ l b L' o2 news)
    (n₀ := l.length) F4 N4 ⟨0, tk1, D, [], [], 0, o1, none, [], none, rfl, Nat.zero_le _, Nat.le_refl _, d1, rfl, (fun _ h => nomatch h), hR1, hR2, allLt_ne (Nat.le_refl _) hD.2.2, Ne.symm (Nat.ne_of_lt hD.2.1), Ne.symm (Nat.ne_of_lt hD.1), .nil, rfl, ?_⟩ ?_
  · funext y
    by_cases e : y = Str.ofString "ends"
    · subst e; rfl
    · simp [e]
  clear F4 N4 hD D tk1
  rintro n m1 nw h2 tk2 F1 N1 ⟨k, tkA, D, vs, ps, nD, oS, vS, own, ue, rfl, hk, hvk, hoS, rfl, hO0, hO1, hO2, hO3, hD1, hD2, hP, hmk, rfl⟩
  have hPR : PIn (own ++ news) vs ps := hP.mono (fun p hp => List.mem_append_left _ hp)
  generalize hRe : own ++ news = R at N1 hO1 hO2 hO3 hPR
  clear d1
  by_cases hkl : k < l.length
  · have hkx : (k : Int) < ((tx l).length : Int) := by omega
    tb_rel
    simp only [item_tx l k hkl] at *
    rename Fr _ _ _ _ => F3
    rename News _ _ _ _ => N3
    rename (_ < _ ∧ L' + 1 + 1 < _ ∧ _) => l3
    rename (_ = Data.cell (some (Value.str ⟨#[l[k]]⟩ _))) => d3
    rename Heap => h5
    obtain ⟨T, tk5, tk6, o5, hTl, d5, F5, N5⟩ : ∃ (T : Addr) (tk5 tk6 : Tok) (o5 : Obj), ((@LT.lt Nat _ (L' + 1 + 1) T) ∧ (@LT.lt Nat _ (L' + 1) T) ∧ (@LT.lt Nat _ D T) ∧ AllLt T R) ∧ o5.data = .cell (some (.str ⟨#[l[k]]⟩ tk5)) ∧
      Fr g' L' h5 (fun y => if y = Str.ofString "at" then some (.int ((k : Int) + 1) tk6) else if y = Str.ofString "pairs" then some (.ref D) else if y = Str.ofString "at" then some (.int (k : Int) tkA) else if y = Str.ofString "ends" then ue else if y = Str.ofString "has_quotes" then some (.bool b) else none) ∧
      News g' L' h5 ((T, tupP l[k] tk5 false 0) :: (L' + 1 + 1, o5) :: (L' + 1, o2) :: (D, listOf (vs ++ [Value.ref T]).toArray (nD + 1)) :: R) := by
      refine ⟨_, _, _, _, l3.2, d3, F3, cb_drop N3 (fun p hp => ?_)⟩
      rw [push_list] at hp
      rcases List.mem_cons.mp hp with rfl | hp
      · exact List.Mem.head _
      · exact List.Mem.tail _ (List.Mem.tail _ hp)
    replace F5 : Fr g' L' h5 (fun y => if y = Str.ofString "at" then some (.int ((k : Int) + 1) tk6) else if y = Str.ofString "pairs" then some (.ref D) else if y = Str.ofString "ends" then ue else if y = Str.ofString "has_quotes" then some (.bool b) else none) := Fr.eqm F5 (fun y => by
      by_cases e : y = Str.ofString "at"
      · simp only [e, if_true]
      · simp only [e, if_false])
    clear F3 N3 l3 d3
    (try clear F' N')
    have hT0 : ∀ p ∈ R, p.1 ≠ T := allLt_ne (Nat.le_refl _) hTl.2.2.2
    cases hq : (b && isQu l[k])
    · have fin : ∀ tk', WhileStep g' L' { s with heap := hX, toks := 0 } (MJ l b L' o2 news) (l.length - k) .next { s with heap := h5, toks := tk' } := by
        intro tk'
        refine MJ.step (k' := k + 1) (nD := nD + 1) (own' := [(T, tupP l[k] tk5 false 0)]) (own := own) F5 (cb_drop N5 (fun p hp => ?_)) (Nat.lt_succ_self _) hkl (by simp; omega) d5 (List.forall_mem_cons.mpr ⟨Nat.lt_of_succ_lt hTl.2.1, hO0⟩) ?_ ?_ ?_ hD1 hD2 (PIn.append (hP.mono (fun p hp => List.mem_append_right _ hp)) (.one (List.Mem.head _))) (mk_step b l k hkl hq hmk) (by omega) rfl rfl rfl ?_
        · rw [hRe] at hp
          simp only [List.mem_cons, List.singleton_append] at hp ⊢
          rcases hp with h | h | h | h | h <;> simp [h]
        · rw [hRe]; exact neAll_cons (by k_ne) hO1
        · rw [hRe]; exact neAll_cons (by k_ne) hO2
        · rw [hRe]; exact neAll_cons (by k_ne) hO3
        · intro y y1 y2 y3 y4
          simp only [y1, y2, y3, y4, if_false]
      cases b
      · k_steps
        exact fin _
      · have ho := occ_qu l[k]
        rw [Bool.true_and, isQu] at hq
        rw [hq, Bool.not_false] at ho
        k_steps
        exact fin _
    · obtain ⟨rfl, hqk⟩ := Bool.and_eq_true_iff.mp hq
      have ho := occ_qu l[k]
      rw [isQu] at hqk
      rw [hqk, Bool.not_true] at ho
      clear hret
      walk1
      (try dsimp only)
      tb_rel
      refine LCt.ListComp_T (F₀ := by k_asm) (by with_unfolding_all rfl) (by decide) (by rfl) (by decide) (by rfl) ?_
      tb_rel

      refine LCt.CompSrcT.range rfl (by k_asm) (by k_asm) (by assumption) (small_one (by omega) (by omega) (by omega) (by omega)) (rangeSize_nat _ _) (by rw [sizeLine_eq]; omega) ?_
      intro g6
      refine comp_indT (fun i ys nw => nw = (T, tupP l[k] tk5 false 0) :: (L' + 1 + 1, o5) :: (L' + 1, o2) :: (D, listOf (vs ++ [Value.ref T]).toArray (nD + 1)) :: R ∧ EndsJ l l[k] k i ys) ?step ?fin ?j0
      case j0 => exact ⟨rfl, Nat.le_refl _, .inl ⟨rfl, fun j _ h => absurd h (Nat.not_lt_zero _)⟩⟩
      case step =>
        rintro i ys nw hi ⟨rfl, hJ⟩ v I oI C oC D2 m₂ h tk E' ⟨tv, rfl⟩ hC' hx5 F6 N6 off ne
        have hi' : k + 1 + i < l.length := by omega
        have ezi : ((k : Int) + 1 + (i : Int)) = ((k + 1 + i : Nat) : Int) := by omega
        rw [ezi] at hx5
        have hit := item_tx l (k + 1 + i) hi'
        k_steps
        · rename ((Txt.item _ _ == _) = true) => he
          rw [hit, beq_one _ _ l[k] rfl, beq_iff_eq] at he
          exact LCg.CompEnd.intro F6 N6 _ (fun _ h => h) (LCg.Off3.of off) trivial ⟨rfl, hJ.yes hi' he (by omega)⟩
        · rename ((Txt.item _ _ == _) = false) => he
          rw [hit, beq_one _ _ l[k] rfl] at he
          exact LCg.CompEnd.intro F6 N6 _ (fun _ h => h) (LCg.Off3.of off) trivial ⟨rfl, hJ.no hi' (ne_of_beq_false he)⟩
      case fin =>
        rintro ys nw ⟨rfl, hJ⟩
        unfold LCg.FinE
        intro D6 h6 tk6' F6 N6 off6
        tb_rel
        have hJ2 : EndsJ l l[k] k (l.length - (k + 1)) ys := by
          have : (((tx l).length : Int) - ((k : Int) + 1)).toNat = l.length - (k + 1) := by omega
          rw [this] at hJ; exact hJ
        refine add_ll (by k_asm) (by k_asm) (List.Mem.tail _ (List.Mem.head _)) (List.Mem.head _) (by have := hJ2.1; simp only [List.length_cons, List.length_nil]; omega) ?_
        intro E0 h7 F7 N7 hE0
        rw [hx] at N7
        obtain ⟨te, rest, ee⟩ := EndsJ.done (tk := _) hkl hJ2
        rw [ee] at N7
        generalize hq9 : qend l[k] (l.drop (k + 1)) = q9 at N7 ee
        have N8 : News g' L' h7 ((E0, listOf (Value.int ((k + 1 + q9 : Nat) : Int) te :: rest).toArray 0) :: (T, tupP l[k] tk5 false 0) :: (L' + 1 + 1, o5) :: (L' + 1, o2) :: (D, listOf (vs ++ [Value.ref T]).toArray (nD + 1)) :: R) := cb_drop N7 (fun p hp => by
          rcases List.mem_cons.mp hp with rfl | hp
          · exact List.Mem.head _
          · exact List.Mem.tail _ (List.Mem.tail _ (List.Mem.tail _ hp)))
        clear N7 ee hE0
        dsimp only
        tb_rel
        refine ListComp_S (FU₀ := by k_asm) (by with_unfolding_all rfl) (by decide) (by rfl) (by decide) (by rfl) ?_
        tb_rel
        have hql : q9 ≤ l.length - (k + 1) := by have := qend_le l[k] (l.drop (k + 1)); rw [hq9] at this; simpa using this
        have esl : Txt.slice (tx l) (some ((k : Int) + 1)) (some ((k + 1 + q9 : Nat) : Int)) = tx ((l.drop (k + 1)).take q9) := by
          rw [show ((k : Int) + 1) = ((k + 1 : Nat) : Int) from by omega, sl_ss l (k + 1) (k + 1 + q9) (by omega) (by omega)]
          congr 2
          omega
        rw [esl]
        generalize hbs : (E0, listOf (Value.int ((k + 1 + q9 : Nat) : Int) te :: rest).toArray 0) :: (T, tupP l[k] tk5 false 0) :: (L' + 1 + 1, o5) :: (L' + 1, o2) :: (D, listOf (vs ++ [Value.ref T]).toArray (nD + 1)) :: R = base9 at *
        generalize hq' : (l.drop (k + 1)).take q9 = q
        have hqlen : q.length = q9 := by rw [← hq']; simp; omega
        refine ⟨tx q, _, _, fun i ys nw => ∃ own2, nw = own2 ++ base9 ∧ PIn own2 ys ((q.take i).map (fun c => (c, true))) ∧ ys.length = i ∧ (∀ p ∈ own2, @LT.lt Nat _ L' p.1 ∧ p.1 ≠ L' + 1 ∧ p.1 ≠ L' + 1 + 1), rfl, rfl, by k_asm, by k_asm, ?sz, ?step2, ?j02, ?fin2⟩
        case sz => simp; omega
        case j02 => exact ⟨[], rfl, .nil, rfl, fun _ h => nomatch h⟩
        case step2 =>
          rintro i ys nw hi ⟨own2, rfl, hP2, hlen2, hoff2⟩ v I oI C oC D2 m₂ h tk E' hsign hC' hx6 F6 N6 off ne
          obtain ⟨c9, u9, hc9, rfl⟩ := hsign
          k_steps
          rename Fr _ _ _ _ => F9
          rename News _ _ _ _ => N9
          rename Addr => T9
          rename (@LT.lt Nat _ I T9 ∧ _) => l9
          have hc9' : q[i]? = some c9 := by simpa using hc9
          have hm1 : ∀ p ∈ base9, p ∈ own2 ++ base9 := fun p hp => List.mem_append_right _ hp
          have hx1 := allLt_ne (Nat.le_refl _) l9.2.2.2
          refine LCg.CompEnd.intro F9 N9 ((T9, tupP c9 u9 true 0) :: (own2 ++ base9)) ?_ (LCg.Off3.of (List.forall_mem_cons.mpr ⟨⟨by k_ne, by k_ne, by k_ne⟩, off⟩)) trivial ⟨(T9, tupP c9 u9 true 0) :: own2, rfl, ?_, by simp [hlen2], ?_⟩
          · intro p hp
            simp only [List.mem_cons] at hp ⊢
            rcases hp with h | h | h | h | h <;> simp [h]
          · have e9 : (q.take (i + 1)).map (fun c => (c, true)) = (q.take i).map (fun c => (c, true)) ++ [(c9, true)] := by
              rw [List.take_add_one, hc9']; simp
            rw [e9]
            exact PIn.append (hP2.mono (fun p hp => List.Mem.tail _ hp)) (.one (List.Mem.head _))
          · have hgt := allLt_mem l9.2.2.2
            refine List.forall_mem_cons.mpr ⟨⟨Nat.lt_of_succ_lt (hgt (L' + 1, o2) (hm1 _ ?_)), Ne.symm (hx1 (L' + 1, o2) (hm1 _ ?_)), Ne.symm (hx1 (L' + 1 + 1, o5) (hm1 _ ?_))⟩, hoff2⟩
            · rw [← hbs]; simp
            · rw [← hbs]; simp
            · rw [← hbs]; simp
        case fin2 =>
          rintro ys nw ⟨own2, rfl, hP2, hlen2, hoff2⟩
          unfold LCg.FinE
          intro D7 h8 tk8 F8 N8 off8
          have eqs : (tx q).cps.size = q.length := by simp
          rw [eqs, List.take_length] at hP2
          rw [eqs, hqlen] at hlen2
          have hm1 : ∀ p ∈ base9, p ∈ own2 ++ base9 := fun p hp => List.mem_append_right _ hp
          have hmD : (D, listOf (vs ++ [Value.ref T]).toArray (nD + 1)) ∈ own2 ++ base9 := hm1 _ (by rw [← hbs]; simp)
          have hmE : (E0, listOf (Value.int ((k + 1 + q9 : Nat) : Int) te :: rest).toArray 0) ∈ own2 ++ base9 := hm1 _ (by rw [← hbs]; simp)
          have hmT : (T, tupP l[k] tk5 false 0) ∈ own2 ++ base9 := hm1 _ (by rw [← hbs]; simp)
          have hmS : (L' + 1 + 1, o5) ∈ own2 ++ base9 := hm1 _ (by rw [← hbs]; simp)
          have hmX : (L' + 1, o2) ∈ own2 ++ base9 := hm1 _ (by rw [← hbs]; simp)
          have hmR : ∀ p ∈ R, p ∈ own2 ++ base9 := fun p hp => hm1 _ (by rw [← hbs]; simp [hp])
          have hm2 : ∀ p ∈ own2, p ∈ own2 ++ base9 := fun p hp => List.mem_append_left _ hp
          have hqm := mk_quote true l k hkl (by rw [Bool.true_and, isQu]; exact hqk) hmk
          rw [hq9, hq'] at hqm
          clear hbs
          generalize own2 ++ base9 = B9 at *
          refine add_ll F8 N8 (List.Mem.tail _ hmD) (List.Mem.head _) (by simp; omega) ?_
          intro D8 h9 F9 N9 hD8
          have hB8 : ∀ p ∈ B9, p.1 ≠ D8 := fun p hp => Nat.ne_of_lt (hD8 p (List.Mem.tail _ hp))
          clear hD8
          k_steps
          rename Fr _ _ _ _ => FA
          rename News _ _ _ _ => NA
          have hsub : ∀ p ∈ (own2 ++ [(T, tupP l[k] tk5 false 0)]) ++ R, p ∈ B9 := by
            intro p hp
            simp only [List.mem_append, List.mem_singleton] at hp
            rcases hp with (h | h) | h
            · exact hm2 p h
            · rw [h]; exact hmT
            · exact hmR p h
          refine MJ.step (k' := k + 1 + q9) (vs := vs ++ [Value.ref T] ++ ys) (nD := 0) (oS := o5) (own' := own2 ++ [(T, tupP l[k] tk5 false 0)]) (own := own) FA (cb_drop NA (fun p hp => ?_)) (by omega) (by omega) ?_ d5 ?_ ?_ ?_ ?_ (Ne.symm (hB8 _ hmX)) (Ne.symm (hB8 _ hmS)) ?_ hqm (by omega) rfl rfl rfl ?_
          · rw [hRe] at hp
            rcases List.mem_cons.mp hp with rfl | hp
            · simp [hmS]
            rcases List.mem_cons.mp hp with rfl | hp
            · simp [hmX]
            rcases List.mem_cons.mp hp with rfl | hp
            · simp
            · have := hsub p hp
              simp [this]
          · simp only [List.length_append, List.length_cons, List.length_nil]; omega
          · intro p hp
            simp only [List.mem_append, List.mem_singleton] at hp
            rcases hp with (h | h) | h
            · exact (hoff2 p h).1
            · rw [h]; exact Nat.lt_of_succ_lt hTl.2.1
            · exact hO0 p h
          · rw [hRe]
            intro p hp
            simp only [List.mem_append, List.mem_singleton] at hp
            rcases hp with (h | h) | h
            · exact (hoff2 p h).2.1
            · rw [h]; k_ne
            · exact hO1 p h
          · rw [hRe]
            intro p hp
            simp only [List.mem_append, List.mem_singleton] at hp
            rcases hp with (h | h) | h
            · exact (hoff2 p h).2.2
            · rw [h]; k_ne
            · exact hO2 p h
          · rw [hRe]; exact fun p hp => hB8 p (hsub p hp)
          · refine PIn.append (PIn.append (hP.mono ?_) (.one (t := tk5) (n := 0) ?_)) (hP2.mono ?_)
            · exact fun p hp => List.mem_append_right _ hp
            · simp
            · exact fun p hp => List.mem_append_left _ (List.mem_append_left _ hp)
          · intro y y1 y2 y3 y4
            simp only [y1, y2, y3, y4, if_false]
  · have hkx : ¬ ((k : Int) < ((tx l).length : Int)) := by omega
    obtain rfl : k = l.length := by omega
    k_steps
    subst hRe
    exact hret D vs nD own _ _ (by assumption) (cb_drop (by assumption) (fun p hp => List.Mem.tail _ (List.Mem.tail _ hp))) hO3 (fun p hp q hq => Nat.lt_trans (l1 q hq) (hO0 p hp)) (by rw [hmk, List.drop_length]; simpa [mk] using hP)
end
end Mine
end
section
open PySem PySem.W PyProof.Rows
namespace Mine
def emp : Nat × Bool := (32, false)
def gone (f : Int) (c : Nat) : Bool := (bt f 1 && isBl c) || (bt f 2 && isDr c)
def turnS (f : Int) (c : Nat) : Nat := if bt f 5 && c == 97 then 65 else if bt f 6 && c == 91 then 40 else if bt f 6 && c == 93 then 41 else if bt f 4 && c == 9 then 32 else c
def blP (p : Nat × Bool) : Bool := !p.2 && isBl p.1
def coll : Option (Nat × Bool) → List (Nat × Bool) → List (Nat × Bool)
  | _, [] => []
  | o, p :: r => if p = emp ∧ o = some emp then coll (some p) r else p :: coll (some p) r
def p1 (f : Int) (q : List (Nat × Bool)) : List (Nat × Bool) := if bt f 0 then q.map (fun p => (if p.2 then p.1 else p.1 % 128, p.2)) else q
def p2 (f : Int) (q : List (Nat × Bool)) : List (Nat × Bool) := q.filter (fun p => p.2 || !gone f p.1)
def p3 (f : Int) (q : List (Nat × Bool)) : List (Nat × Bool) := q.map (fun p => (if p.2 then p.1 else turnS f p.1, p.2))
def p4 (f : Int) (q : List (Nat × Bool)) : List (Nat × Bool) := if bt f 4 then coll none q else q
def p5 (f : Int) (q : List (Nat × Bool)) : List (Nat × Bool) := if bt f 3 then q.dropWhile blP else q
def rdw (q : List (Nat × Bool)) : List (Nat × Bool) := (q.reverse.dropWhile blP).reverse
def p6 (f : Int) (q : List (Nat × Bool)) : List (Nat × Bool) := if bt f 7 then rdw q else q
def stg (f : Int) (l : List Nat) : List (Nat × Bool) := p6 f (p5 f (p4 f (p3 f (p2 f (p1 f (mk (bt f 8) none l))))))
/-- what the law's stages give -/
def staged (f : Int) (l : List Nat) : List Nat := (stg f l).map (·.1)

def alph2 : List Nat := [97, 90, 32, 9, 13, 0, 34, 39, 91, 93, 160, 141, 219, 225, 137, 65, 40, 41]
/-- a sign outside quotes, through the first stages -/
def g (f : Int) (c : Nat) : List Nat := if gone f (low7 f c) then [] else [turnS f (low7 f c)]
def gP (f : Int) (p : Nat × Bool) : List (Nat × Bool) := if p.2 then [p] else (g f p.1).map (fun x => (x, false))
theorem p321 (f : Int) : ∀ q : List (Nat × Bool), p3 f (p2 f (p1 f q)) = q.flatMap (gP f)
  | [] => by simp [p1, p2, p3]
  | (c, k) :: r => by
    have ih := p321 f r
    unfold p1 p2 p3 at ih ⊢
    rw [List.flatMap_cons, ← ih]
    cases h0 : bt f 0 <;> cases k
    · simp only [h0, Bool.false_eq_true, if_false, List.filter_cons, Bool.false_or, gP, g, low7]
      cases hg : gone f c <;> simp
    · simp [gP]
    · simp only [h0, if_true, List.map_cons, Bool.false_eq_true, if_false, List.filter_cons, Bool.false_or, gP, g, low7]
      cases hg : gone f (c % 128) <;> simp
    · simp [gP]
def eT (f : Int) (c : Nat) : List Nat := (eSign f c).map (fun x => if bt f 4 && isBl x then 32 else x)
theorem sgn (f : Int) {c : Nat} (hc : c ∈ alph2) : g f c = eT f c := by
  unfold g eT eSign gone turnS low7 great isBl isDr
  generalize bt f 0 = b0
  generalize bt f 1 = b1
  generalize bt f 2 = b2
  generalize bt f 4 = b4
  generalize bt f 5 = b5
  generalize bt f 6 = b6
  revert c
  revert b0 b1 b2 b4 b5 b6
  decide +kernel
theorem g_mem (f : Int) {c : Nat} (hc : c ∈ alph2) : ∀ x ∈ g f c, x ∈ alph2 ∧ isQu x = isQu c ∧ g f x = [x] := by
  unfold g gone turnS low7 isBl isDr isQu
  generalize bt f 0 = b0
  generalize bt f 1 = b1
  generalize bt f 2 = b2
  generalize bt f 4 = b4
  generalize bt f 5 = b5
  generalize bt f 6 = b6
  revert c
  revert b0 b1 b2 b4 b5 b6
  decide +kernel
theorem g_qu (f : Int) {c : Nat} (hc : c ∈ alph2) (hq : isQu c = true) : g f c = [c] := by
  revert hq
  unfold g gone turnS low7 isBl isDr isQu
  generalize bt f 0 = b0
  generalize bt f 1 = b1
  generalize bt f 2 = b2
  generalize bt f 4 = b4
  generalize bt f 5 = b5
  generalize bt f 6 = b6
  revert c
  revert b0 b1 b2 b4 b5 b6
  decide +kernel
theorem g_one (f : Int) (c : Nat) : g f c = [] ∨ ∃ x, g f c = [x] := by
  unfold g
  split
  · exact .inl rfl
  · exact .inr ⟨_, rfl⟩
theorem g_bl (f : Int) {c x : Nat} (hc : c ∈ alph2) (hg : g f c = [x]) (h4 : bt f 4 = true) (hb : isBl x = true) : x = 32 := by
  rw [sgn f hc] at hg
  unfold eT at hg
  rcases eSign_one f c with e | ⟨y, e⟩
  · rw [e] at hg; cases hg
  · rw [e] at hg
    simp only [List.map_cons, List.map_nil, List.cons.injEq, and_true, h4, Bool.true_and] at hg
    split at hg
    · exact hg.symm
    · rename_i hy
      subst hg
      exact absurd hb hy

theorem nil_or_snoc {α : Type} (l : List α) : l = [] ∨ ∃ l' x, l = l' ++ [x] := by
  rcases List.eq_nil_or_concat l with h | ⟨l', x, h⟩
  · exact .inl h
  · exact .inr ⟨l', x, by simpa using h⟩
def lay (f : Int) (P : List (Nat × Bool)) (p : Nat × Bool) : List (Nat × Bool) :=
  if p.2 then P ++ [p] else if isBl p.1 then (if bt f 3 && P.isEmpty then P else if bt f 4 then (if P.getLast? = some emp then P else P ++ [p]) else P ++ [p]) else P ++ [p]

structure Sim (d : Ed) (P : List (Nat × Bool)) : Prop where
  fd : d.found = P.map (·.1)
  kp : ∃ A B, P = A ++ B ∧ d.kept = A.length ∧ (∀ p ∈ B, p.2 = false) ∧ (∀ p, A.getLast? = some p → p.2 = true)
  qn : d.quote = none → P.getLast? ≠ some (32, true)
  qs : ∀ q, d.quote = some q → isQu q = true

theorem last_map (P : List (Nat × Bool)) : (P.map (·.1)).getLast? = P.getLast?.map (·.1) := by simp

theorem lay_map {f : Int} {d : Ed} {P : List (Nat × Bool)} {c : Nat} (hc : c ∈ alph2) (S : Sim d P) (hq : d.quote = none) :
    d.found ++ laid f d.found c = (((g f c).map (fun x => (x, false))).foldl (lay f) P).map (·.1) ∧ ∃ r, ((g f c).map (fun x => (x, false))).foldl (lay f) P = P ++ r ∧ ∀ p ∈ r, p.2 = false := by
  have hl : (d.found.getLast? = some 32) ↔ (P.getLast? = some emp) := by
    rw [S.fd, last_map]
    have := S.qn hq
    constructor
    · intro h
      cases e : P.getLast? with
      | none => rw [e] at h; cases h
      | some p =>
        rw [e] at h this
        obtain ⟨x, k⟩ := p
        simp only [Option.map_some, Option.some.injEq] at h
        subst h
        cases k
        · rfl
        · exact absurd rfl this
    · intro h; rw [h]; rfl
  have hem : d.found.isEmpty = P.isEmpty := by rw [S.fd]; cases P <;> rfl
  rw [sgn f hc]
  unfold eT laid
  rcases eSign_one f c with e | ⟨x, e⟩
  · simp only [e, List.map_nil, List.foldl_nil, List.append_nil]
    exact ⟨S.fd, [], by simp, fun _ h => nomatch h⟩
  · simp only [e, List.map_cons, List.map_nil, List.foldl_cons, List.foldl_nil, lay, Bool.false_eq_true, if_false]
    have one : ∀ y : Nat, ∃ r, P ++ [(y, false)] = P ++ r ∧ ∀ p ∈ r, p.2 = false := fun y => ⟨[(y, false)], rfl, by simp⟩
    have non : ∃ r, P = P ++ r ∧ ∀ p ∈ r, p.2 = false := ⟨[], by simp, fun _ h => nomatch h⟩
    cases hb : isBl x
    · simp only [Bool.and_false, Bool.false_eq_true, if_false, hb, List.map_append, S.fd]
      exact ⟨rfl, one x⟩
    · cases h4 : bt f 4
      · simp only [Bool.false_and, Bool.false_eq_true, if_false, hb, if_true, hem]
        split
        · exact ⟨by rw [S.fd]; simp, non⟩
        · exact ⟨by rw [S.fd]; simp, one x⟩
      · have h32 : isBl 32 = true := rfl
        simp only [Bool.true_and, hb, if_true, h32, hem]
        split
        · exact ⟨by rw [S.fd]; simp, non⟩
        · by_cases hh : P.getLast? = some emp
          · rw [if_pos hh, if_pos (hl.mpr hh)]
            exact ⟨by rw [S.fd]; simp, non⟩
          · rw [if_neg hh, if_neg (fun q => hh (hl.mp q))]
            exact ⟨by rw [S.fd]; simp, one 32⟩

theorem sim_step {f : Int} {d : Ed} {P : List (Nat × Bool)} {c : Nat} (hc : c ∈ alph2) (S : Sim d P) :
    Sim (Ed.step f d c) ((gP f (c, d.quote.isSome)).foldl (lay f) P) := by
  obtain ⟨found, kept, quote⟩ := d
  cases quote with
  | none =>
    obtain ⟨h1, r, h2, h3⟩ := lay_map (f := f) hc S rfl
    have e : (gP f (c, (none : Option Nat).isSome)) = (g f c).map (fun x => (x, false)) := by simp [gP]
    show Sim (Ed.step f ⟨found, kept, none⟩ c) ((gP f (c, (none : Option Nat).isSome)).foldl (lay f) P)
    rw [e]
    unfold Ed.step
    dsimp only at h1 ⊢
    obtain ⟨A, B, hP, hk, hB, hA⟩ := S.kp
    refine ⟨h1, ⟨A, B ++ r, ?_, hk, ?_, hA⟩, ?_, ?_⟩
    · rw [h2, hP, List.append_assoc]
    · intro p hp
      rcases List.mem_append.mp hp with hp | hp
      · exact hB p hp
      · exact h3 p hp
    · intro _
      rw [h2]
      rcases nil_or_snoc r with rfl | ⟨r', p, rfl⟩
      · rw [List.append_nil]; exact S.qn rfl
      · have := h3 p (by simp)
        rw [← List.append_assoc, List.getLast?_append]
        simp only [List.getLast?_singleton, Option.some_or]
        intro e
        cases e
        cases this
    · intro q hq
      dsimp only at hq
      split at hq
      · rename_i hh
        cases hq
        simp only [Bool.and_eq_true] at hh
        exact hh.2
      · cases hq
  | some q =>
    have e : (gP f (c, (some q : Option Nat).isSome)) = [(c, true)] := by simp [gP]
    show Sim (Ed.step f ⟨found, kept, some q⟩ c) ((gP f (c, (some q : Option Nat).isSome)).foldl (lay f) P)
    rw [e]
    have hq := S.qs q rfl
    have hfd := S.fd
    dsimp only at hfd
    unfold Ed.step
    simp only [List.foldl_cons, List.foldl_nil, lay, if_true]
    refine ⟨?_, ⟨P ++ [(c, true)], [], by simp, ?_, (fun _ h => nomatch h), ?_⟩, ?_, ?_⟩
    · dsimp only; rw [hfd]; simp
    · dsimp only; rw [hfd]; simp
    · intro p hp
      simp only [List.getLast?_append, List.getLast?_singleton, Option.some_or, Option.some.injEq] at hp
      rw [← hp]
    · dsimp only
      intro h e5
      split at h
      · rename_i hh
        subst hh
        simp only [List.getLast?_append, List.getLast?_singleton, Option.some_or, Option.some.injEq, Prod.mk.injEq, and_true] at e5
        subst e5
        cases hq
      · cases h
    · intro q' h
      replace h : (if c = q then none else some q) = some q' := h
      split at h
      · cases h
      · cases h; exact hq

theorem sim_run {f : Int} : ∀ (l : List Nat) (d : Ed) (P : List (Nat × Bool)), (∀ c ∈ l, c ∈ alph2) → Sim d P → Sim (l.foldl (Ed.step f) d) (((mk (bt f 8) d.quote l).flatMap (gP f)).foldl (lay f) P)
  | [], d, P, _, S => by cases hq : d.quote <;> simpa [mk] using S
  | c :: r, d, P, hl, S => by
    have S1 := sim_step (f := f) (hl c (by simp)) S
    have ih := sim_run (f := f) r _ _ (fun x hx => hl x (by simp [hx])) S1
    have e : mk (bt f 8) d.quote (c :: r) = (c, d.quote.isSome) :: mk (bt f 8) (Ed.step f d c).quote r := by
      cases hq : d.quote <;> simp [mk, Ed.step, hq]
    rw [e, List.flatMap_cons, List.foldl_append, List.foldl_cons]
    exact ih

theorem dw_snoc (p : Nat × Bool → Bool) : ∀ (l : List (Nat × Bool)) (x : Nat × Bool), (l ++ [x]).dropWhile p = if l.all p then (if p x then [] else [x]) else l.dropWhile p ++ [x]
  | [], x => by simp [List.dropWhile_cons]
  | y :: l, x => by
    rw [List.cons_append, List.dropWhile_cons, List.dropWhile_cons, List.all_cons]
    cases h : p y
    · simp
    · simp only [if_true, Bool.true_and]; exact dw_snoc p l x
theorem dw_nil (p : Nat × Bool → Bool) : ∀ l : List (Nat × Bool), (l.dropWhile p).isEmpty = l.all p
  | [] => rfl
  | y :: l => by
    rw [List.dropWhile_cons, List.all_cons]
    cases h : p y
    · simp
    · simpa using dw_nil p l
theorem dw_last (p : Nat × Bool → Bool) : ∀ l : List (Nat × Bool), l.all p = false → (l.dropWhile p).getLast? = l.getLast?
  | [], h => by cases h
  | y :: l, h => by
    rw [List.dropWhile_cons]
    rw [List.all_cons] at h
    cases hy : p y
    · simp
    · rw [hy, Bool.true_and] at h
      simp only [if_true]
      rw [dw_last p l h]
      cases l with
      | nil => cases h
      | cons z l => simp [List.getLast?_cons_cons]
theorem coll_snoc : ∀ (l : List (Nat × Bool)) (o : Option (Nat × Bool)) (x : Nat × Bool), coll o (l ++ [x]) = coll o l ++ (if x = emp ∧ (l.getLast?.or o) = some emp then [] else [x])
  | [], o, x => by
    show (if x = emp ∧ o = some emp then coll (some x) [] else x :: coll (some x) []) = (if x = emp ∧ o = some emp then [] else [x])
    split <;> rfl
  | y :: l, o, x => by
    have e : ((y :: l).getLast?.or o) = l.getLast?.or (some y) := by
      cases l with
      | nil => simp
      | cons z l => rw [List.getLast?_cons_cons]; simp [List.getLast?_cons]
    rw [List.cons_append, coll, coll, coll_snoc l (some y) x, e]
    by_cases h : y = emp ∧ o = some emp
    · rw [if_pos h, if_pos h]
    · rw [if_neg h, if_neg h, List.cons_append]
theorem coll_last (l : List (Nat × Bool)) : (coll none l).getLast? = l.getLast? := by
  have key : ∀ n (l : List (Nat × Bool)), l.length = n → (coll none l).getLast? = l.getLast? := by
    intro n
    induction n with
    | zero => intro l h; rw [List.eq_nil_of_length_eq_zero h]; rfl
    | succ n ih =>
      intro l h
      rcases nil_or_snoc l with rfl | ⟨l', x, rfl⟩
      · rfl
      · have h' : l'.length = n := by simpa using h
        rw [coll_snoc, List.getLast?_append (l' := [x])]
        by_cases hx : x = emp ∧ (l'.getLast?.or none) = some emp
        · rw [if_pos hx, List.append_nil, ih l' h']
          simp only [Option.or_none] at hx
          rw [hx.2, hx.1]; rfl
        · rw [if_neg hx, List.getLast?_append]; rfl
  exact key _ l rfl

theorem lay_stage {f : Int} (q : List (Nat × Bool)) (x : Nat × Bool) (hx : bt f 4 = true → blP x = true → x = emp) : p5 f (p4 f (q ++ [x])) = lay f (p5 f (p4 f q)) x := by
  have hlay : ∀ P : List (Nat × Bool), lay f P x = if blP x then (if bt f 3 && P.isEmpty then P else if bt f 4 then (if P.getLast? = some emp then P else P ++ [x]) else P ++ [x]) else P ++ [x] := by
    intro P
    unfold lay blP
    cases x.2
    · simp
    · simp
  rw [hlay]
  unfold p4 p5
  cases h4 : bt f 4
  · simp only [Bool.false_eq_true, if_false]
    cases h3 : bt f 3
    · simp
    · simp only [if_true, Bool.true_and]
      rw [dw_snoc, dw_nil]
      cases ha : q.all blP
      · simp
      · have : q.dropWhile blP = [] := by have := dw_nil blP q; rw [ha] at this; simpa using this
        simp only [if_true, this, List.nil_append]
  · simp only [if_true]
    rw [coll_snoc, Option.or_none]
    cases hb : blP x
    · have hne : x ≠ emp := by intro e; rw [e] at hb; cases hb
      simp only [Bool.false_eq_true, if_false, hne, false_and]
      cases h3 : bt f 3
      · simp
      · simp only [if_true]
        rw [dw_snoc]
        cases ha : (coll none q).all blP
        · simp
        · have : (coll none q).dropWhile blP = [] := by have := dw_nil blP (coll none q); rw [ha] at this; simpa using this
          simp [this, hb]
    · have he := hx h4 hb
      subst he
      simp only [true_and, if_true]
      cases h3 : bt f 3
      · simp only [Bool.false_eq_true, if_false, Bool.false_and, coll_last]
        split
        · simp
        · rfl
      · simp only [if_true, Bool.true_and, dw_nil]
        cases ha : (coll none q).all blP
        · simp only [Bool.false_eq_true, if_false]
          rw [dw_last _ _ ha, coll_last]
          split
          · simp
          · rw [dw_snoc, ha]; simp
        · have h0 : (coll none q).dropWhile blP = [] := by have := dw_nil blP (coll none q); rw [ha] at this; simpa using this
          simp only [if_true, h0]
          split
          · simp [h0]
          · rw [dw_snoc, ha]
            simp [hb]

theorem lay_all {f : Int} (q : List (Nat × Bool)) (hq : ∀ x ∈ q, bt f 4 = true → blP x = true → x = emp) : p5 f (p4 f q) = q.foldl (lay f) [] := by
  have key : ∀ n (q : List (Nat × Bool)), q.length = n → (∀ x ∈ q, bt f 4 = true → blP x = true → x = emp) → p5 f (p4 f q) = q.foldl (lay f) [] := by
    intro n
    induction n with
    | zero =>
      intro q h _
      rw [List.eq_nil_of_length_eq_zero h]
      unfold p5 p4
      cases bt f 4 <;> cases bt f 3 <;> rfl
    | succ n ih =>
      intro q h hq
      rcases nil_or_snoc q with rfl | ⟨q', x, rfl⟩
      · cases h
      · have h' : q'.length = n := by simpa using h
        rw [lay_stage q' x (hq x (by simp)), List.foldl_append, ih q' h' (fun y hy => hq y (by simp [hy]))]
        rfl
  exact key _ q rfl hq

theorem mk_mem (b : Bool) : ∀ (l : List Nat) (q : Option Nat) (p : Nat × Bool), p ∈ mk b q l → p.1 ∈ l
  | [], q, p, h => by cases q <;> cases h
  | c :: r, none, p, h => by
    rw [mk] at h
    rcases List.mem_cons.mp h with rfl | h
    · exact List.mem_cons_self
    · exact List.mem_cons_of_mem _ (mk_mem b r _ p h)
  | c :: r, some q, p, h => by
    rw [mk] at h
    rcases List.mem_cons.mp h with rfl | h
    · exact List.mem_cons_self
    · exact List.mem_cons_of_mem _ (mk_mem b r _ p h)

theorem flat_bl {f : Int} {l : List Nat} {b : Bool} (hl : ∀ c ∈ l, c ∈ alph2) : ∀ x ∈ (mk b none l).flatMap (gP f), bt f 4 = true → blP x = true → x = emp := by
  intro x hx h4 hb
  obtain ⟨p, hp, hxp⟩ := List.mem_flatMap.mp hx
  unfold gP at hxp
  split at hxp
  · rename_i h2
    rw [List.mem_singleton.mp hxp] at hb
    simp [blP, h2] at hb
  · obtain ⟨y, hy, rfl⟩ := List.mem_map.mp hxp
    have hpc := hl _ (mk_mem _ _ _ _ hp)
    simp only [blP, Bool.not_false, Bool.true_and] at hb
    rcases g_one f p.1 with e | ⟨z, e⟩
    · rw [e] at hy; cases hy
    · rw [e] at hy
      rw [List.mem_singleton.mp hy] at hb ⊢
      rw [g_bl f hpc e h4 hb]
      rfl

theorem dw_app (p : Nat → Bool) : ∀ (B A : List (Nat × Bool)), (∀ x ∈ B, x.2 = false) → (∀ y, A.head? = some y → y.2 = true) → ((B ++ A).dropWhile blP) = B.dropWhile blP ++ A
  | [], A, _, hA => by
    cases A with
    | nil => rfl
    | cons y A => have := hA y rfl; simp [List.dropWhile_cons, blP, this]
  | x :: B, A, hB, hA => by
    rw [List.cons_append, List.dropWhile_cons, List.dropWhile_cons, dw_app p B A (fun y hy => hB y (by simp [hy])) hA]
    split <;> simp
theorem dw_map : ∀ B : List (Nat × Bool), (∀ x ∈ B, x.2 = false) → (B.map (·.1)).dropWhile isBl = (B.dropWhile blP).map (·.1)
  | [], _ => rfl
  | x :: B, hB => by
    have hx := hB x (by simp)
    rw [List.map_cons, List.dropWhile_cons, List.dropWhile_cons, dw_map B (fun y hy => hB y (by simp [hy]))]
    have : blP x = isBl x.1 := by simp [blP, hx]
    rw [this]
    split <;> simp

theorem sim_end {f : Int} {d : Ed} {P : List (Nat × Bool)} (S : Sim d P) :
    d.found.take d.kept ++ (if bt f 7 then rst (d.found.drop d.kept) else d.found.drop d.kept) = (p6 f P).map (·.1) := by
  obtain ⟨A, B, rfl, hk, hB, hA⟩ := S.kp
  rw [S.fd, hk, List.map_append, List.take_left' (by simp), List.drop_left' (by simp)]
  unfold p6
  split
  · rw [rst, ← List.map_reverse, dw_map _ (fun x hx => hB x (by simpa using hx)), ← List.map_reverse, ← List.map_append]
    congr 1
    rw [rdw, List.reverse_append, dw_app isBl _ _ (fun x hx => hB x (by simpa using hx)) (fun y hy => hA y (by simpa using hy)), List.reverse_append, List.reverse_reverse]
  · rw [List.map_append]

theorem ed_staged {f : Int} {l : List Nat} (hl : ∀ c ∈ l, c ∈ alph2) : ed f l = staged f l := by
  have S := sim_run (f := f) l ⟨[], 0, none⟩ [] hl ⟨rfl, ⟨[], [], rfl, rfl, (fun _ h => nomatch h), (fun _ h => nomatch h)⟩, (fun _ h => nomatch h), (fun _ h => nomatch h)⟩
  unfold staged stg
  rw [p321, lay_all _ (flat_bl hl)]
  exact sim_end S
end Mine
end
section
open PySem PySem.W PyProof.Rows PyProof.V PySem.Spec
namespace Mine
set_option maxRecDepth 100000
def pd (p : Nat × Bool) : PyData := .tuple [.str (tx [p.1]), .bool p.2]
theorem strOk_one {c : Nat} (h : c < 256) : PyData.strOk (tx [c]) = true := by
  simp [PyData.strOk]
  omega
theorem pd_lay {p : Nat × Bool} (h : p.1 < 256) : (pd p).canLay0 = true ∧ (pd p).depth ≤ 2 := by
  simp [pd, PyData.canLay0, PyData.canLayAll0, PyData.depth, PyData.depthAll, strOk_one h]
theorem shaped_pd {p : Nat × Bool} (h : p.1 < 256) : SeqAt.shaped (pd p) = true := by
  unfold SeqAt.shaped
  rw [(pd_lay h).1, Bool.true_and]
  exact decide_eq_true (Nat.le_trans (pd_lay h).2 (by decide))
theorem eqv_pd (p q : Nat × Bool) : PyData.eqv (pd p) (pd q) = decide (p = q) := by
  obtain ⟨c, k⟩ := p
  obtain ⟨d, j⟩ := q
  simp [pd, PyData.eqv, PyData.eqvAll]
  cases k <;> cases j <;> simp [Bool.and_comm, beq_one c (tx [d]) d rfl]
  all_goals (rw [Bool.eq_iff_iff]; simp)
theorem reads_pd {h₀ h : Heap} {L T : Addr} {nw : List (Addr × Obj)} {c : Nat} {t : Tok} {k : Bool} {n : Nat} (N : News h₀ L h nw) (hm : (T, tupP c t k n) ∈ nw) : ∃ as, Reads h (.ref T) (pd (c, k)) as :=
  ⟨_, reads_tuple_at (N.get hm) rfl rfl (ReadsAll.cons (Reads.str _ _) (ReadsAll.cons (Reads.bool _) ReadsAll.nil))⟩
theorem reads_pds {h₀ h : Heap} {L : Addr} {nw : List (Addr × Obj)} (N : News h₀ L h nw) {vs : List Value} {ps : List (Nat × Bool)} (hP : PIn nw vs ps) : ∃ as, ReadsAll h vs (ps.map pd) as := by
  induction hP with
  | nil => exact ⟨_, ReadsAll.nil⟩
  | cons hm _ ih =>
    obtain ⟨as, h1⟩ := reads_pd N hm
    obtain ⟨bs, h2⟩ := ih
    exact ⟨_, ReadsAll.cons h1 h2⟩
theorem lay_pds : ∀ {ps : List (Nat × Bool)}, (∀ p ∈ ps, p.1 < 256) → PyData.canLayAll0 (ps.map pd) = true ∧ PyData.depthAll (ps.map pd) ≤ 2
  | [], _ => by simp [PyData.canLayAll0, PyData.depthAll]
  | p :: r, h => by
    have h1 := pd_lay (h p (.head _))
    have h2 := lay_pds (ps := r) fun q hq => h q (.tail _ hq)
    have a := h1.2
    have b := h2.2
    simp only [List.map_cons, PyData.canLayAll0, PyData.depthAll, h1.1, h2.1, Bool.and_self, true_and]
    omega
section
variable {prog : Program} {w : World} {A : Around} {E : Value → Shared → Prop} {s : Shared} {h₀ : Heap} {L : Addr} {nw : List (Addr × Obj)} {Q : Value → Shared → Prop}
theorem ne_pair {T U : Addr} {c d : Nat} {t u : Tok} {k j : Bool} {n n' : Nat} (N : News h₀ L s.heap nw) (ha : (T, tupP c t k n) ∈ nw) (hb : (U, tupP d u j n') ∈ nw) (hc : c < 256) (hd : d < 256) (hu : A.units + 64 < cLine)
    (h : Q (.bool (!decide ((c, k) = (d, j)))) s) : wpAny (model prog w) A (compareOp .NotEq (.ref T) (.ref U)) Q E s := by
  obtain ⟨as, ra⟩ := reads_pd N ha
  obtain ⟨bs, rb⟩ := reads_pd N hb
  refine ne_dataH ra rb (shaped_pd hc) (shaped_pd hd) hu ?_
  rw [eqv_pd]
  exact h
theorem ne_empty {D G : Addr} {vs : List Value} {ps : List (Nat × Bool)} {n n' : Nat} (N : News h₀ L s.heap nw) (ha : (D, listOf vs.toArray n) ∈ nw) (hP : PIn nw vs ps) (hb : (G, listOf ([] : List Value).toArray n') ∈ nw) (hc : ∀ p ∈ ps, p.1 < 256) (hu : A.units + 64 < cLine)
    (h : Q (.bool (!ps.isEmpty)) s) : wpAny (model prog w) A (compareOp .NotEq (.ref D) (.ref G)) Q E s := by
  obtain ⟨as, ra⟩ := reads_pds N hP
  have l := lay_pds hc
  have l2 := l.2
  refine ne_dataH (reads_list_at (N.get ha) rfl rfl (by simpa using ra)) (reads_list_at (N.get hb) rfl rfl (by simpa using ReadsAll.nil)) ?_ rfl hu ?_
  · unfold SeqAt.shaped
    simp only [PyData.canLay0, PyData.depth, l.1, Bool.true_and]
    exact decide_eq_true (by omega)
  · have : PyData.eqv (.list (ps.map pd)) (.list []) = ps.isEmpty := by cases ps <;> simp [PyData.eqv, PyData.eqvAll]
    rw [this]
    exact h
theorem in_pairs {T G : Addr} {c : Nat} {t : Tok} {k : Bool} {n n' : Nat} {vs : List Value} {ps : List (Nat × Bool)} (N : News h₀ L s.heap nw) (ha : (T, tupP c t k n) ∈ nw) (hb : (G, listOf vs.toArray n') ∈ nw) (hP : PIn nw vs ps) (hc : c < 256) (hd : ∀ p ∈ ps, p.1 < 256) (hu : A.units + 64 < cLine)
    (h : Q (.bool (ps.any fun p => decide (p = (c, k)))) s) : wpAny (model prog w) A (compareOp .In (.ref T) (.ref G)) Q E s := by
  obtain ⟨as, ra⟩ := reads_pd N ha
  obtain ⟨bs, rb⟩ := reads_pds N hP
  have l := lay_pds hd
  have l2 := (pd_lay (p := (c, k)) hc).2
  refine SeqAt.in_list_reads (reads_list_at (N.get hb) rfl rfl (by simpa using rb)) ra l.1 (pd_lay hc).1 (by omega) ?_
  have : ((ps.map pd).any fun y => PyData.eqv y (pd (c, k))) = ps.any fun p => decide (p = (c, k)) := by
    rw [List.any_map]
    congr 1
    funext p
    exact eqv_pd p (c, k)
  rw [this]
  exact h
theorem in_tpairs {T G : Addr} {c : Nat} {t : Tok} {k : Bool} {n n' : Nat} {vs : List Value} {ps : List (Nat × Bool)} (N : News h₀ L s.heap nw) (ha : (T, tupP c t k n) ∈ nw) (hb : (G, ({ cls := .type "tuple", data := .seq vs.toArray n' } : Obj)) ∈ nw) (hP : PIn nw vs ps) (hc : c < 256) (hd : ∀ p ∈ ps, p.1 < 256) (hu : A.units + 64 < cLine)
    (h : Q (.bool (ps.any fun p => decide (p = (c, k)))) s) : wpAny (model prog w) A (compareOp .In (.ref T) (.ref G)) Q E s := by
  obtain ⟨as, ra⟩ := reads_pd N ha
  obtain ⟨bs, rb⟩ := reads_pds N hP
  have l := lay_pds hd
  have l2 := (pd_lay (p := (c, k)) hc).2
  refine SeqAt.in_tuple_reads (reads_tuple_at (N.get hb) rfl rfl (by simpa using rb)) ra l.1 (pd_lay hc).1 (by omega) ?_
  have : ((ps.map pd).any fun y => PyData.eqv y (pd (c, k))) = ps.any fun p => decide (p = (c, k)) := by
    rw [List.any_map]
    congr 1
    funext p
    exact eqv_pd p (c, k)
  rw [this]
  exact h
end
end Mine
end
section
open PySem PySem.W PyProof.Rows PyProof.V
namespace Mine
abbrev PD := List (PyData × PyData)
def tD0 (f : Int) : PD := if bt f 5 then [(.str (Str.ofString "a"), .str (Str.ofString "A"))] else []
def tD1 (f : Int) : PD := if bt f 6 then putD (.str (Str.ofString "]")) (.str (Str.ofString ")")) (putD (.str (Str.ofString "[")) (.str (Str.ofString "(")) (tD0 f)) else tD0 f
def tD2 (f : Int) : PD := if bt f 4 then putD (.str (Str.ofString "\t")) (.str (Str.ofString " ")) (tD1 f) else tD1 f
def tDf (b4 b5 b6 : Bool) : List (Nat × Nat) := (if b5 then [(97, 65)] else []) ++ (if b6 then [(91, 40), (93, 41)] else []) ++ (if b4 then [(9, 32)] else [])
def enc1 (p : Nat × Nat) : PyData × PyData := (.str (tx [p.1]), .str (tx [p.2]))
theorem tD2_eq (f : Int) : tD2 f = (tDf (bt f 4) (bt f 5) (bt f 6)).map enc1 := by
  unfold tD2 tD1 tD0 tDf
  cases bt f 4 <;> cases bt f 5 <;> cases bt f 6 <;> rfl
theorem look1 (c : Nat) : ∀ l : List (Nat × Nat), (PySem.Spec.lookup (.str (tx [c])) (l.map enc1)).getD (.str (tx [c])) = .str (tx [((l.find? (fun p => p.1 == c)).map (·.2)).getD c])
  | [] => rfl
  | (a, b) :: l => by
    show (if PySem.Spec.same (PyData.str (tx [a])) (PyData.str (tx [c])) = true then some (PyData.str (tx [b])) else PySem.Spec.lookup (PyData.str (tx [c])) (l.map enc1)).getD _ = _
    rw [PyProof.V.same_str, List.find?_cons]
    by_cases h : a = c
    · subst h; simp
    · have h' : (a == c) = false := by simpa using h
      have h2 : ¬ (tx [a] = tx [c]) := by simpa using h
      rw [decide_eq_false h2, if_neg (by decide), look1 c l]
      have h' : (a == c) = false := by simpa using h
      simp only [h']
theorem look_turn (f : Int) (c : Nat) : (PySem.Spec.lookup (.str (tx [c])) (tD2 f)).getD (.str (tx [c])) = .str (tx [turnS f c]) := by
  rw [tD2_eq, look1]
  unfold tDf turnS
  cases bt f 4 <;> cases bt f 5 <;> cases bt f 6
  all_goals simp only [Bool.false_eq_true, if_false, if_true, List.nil_append, List.append_nil, List.cons_append, Bool.true_and, Bool.false_and, List.find?_cons, List.find?_nil, Option.map_none, Option.getD_none]
  all_goals (
    by_cases h1 : c = 97
    · subst h1; rfl
    · by_cases h2 : c = 91
      · subst h2; rfl
      · by_cases h3 : c = 93
        · subst h3; rfl
        · by_cases h4 : c = 9
          · subst h4; rfl
          · have e1 : (97 == c) = false := by simpa using Ne.symm h1
            have e2 : (91 == c) = false := by simpa using Ne.symm h2
            have e3 : (93 == c) = false := by simpa using Ne.symm h3
            have e4 : (9 == c) = false := by simpa using Ne.symm h4
            simp [e1, e2, e3, e4, h1, h2, h3, h4])
section
variable {w : World} {A : Around} {E : Value → Shared → Prop} {s : Shared} {h₀ : Heap} {L : Addr} {nw : List (Addr × Obj)}
theorem get_turn {M : Addr} {oM : Obj} {kvs : List (Str × Value)} {f : Int} {c : Nat} {t t2 : Tok} {Q : Value → Shared → Prop} (N : News h₀ L s.heap nw) (hm : (M, oM) ∈ nw) (hd : Obj.IsDictOf (PySem.strKind PySem.Challenge.rw_pf0006_01.row.prog w) oM kvs) (hf : FlatPairs PyData.str kvs (tD2 f)) (hs : (M == sysModules) = false)
    (h : ∀ t', Q (.str (tx [turnS f c]) t') { s with toks := s.toks + 1 }) : wpAny (model PySem.Challenge.rw_pf0006_01.row.prog w) A (call (.builtin "dict.get") [.ref M, .str (tx [c]) t, .str (tx [c]) t2]) Q E s := by
  have e := FlatPairs.getD PyProof.V.same_str hf (tx [c]) (PyProof.V.Flat.str (tx [c]) t2)
  rw [look_turn] at e
  obtain ⟨t', e'⟩ := PyProof.V.Flat.str_inv e
  exact kdg_get2 N hm hd hs (strKind_is _ _ _ _) _ rfl (by rw [e']; exact h t')
end
end Mine
end
section
open PySem PySem.W PyProof.Rows
namespace Mine
/-- signs outside quotes gone or turned -/
inductive Rm : List (Nat × Bool) → List (Nat × Bool) → Prop
  | nil : Rm [] []
  | keep (p : Nat × Bool) {P P' : List (Nat × Bool)} : Rm P P' → Rm (p :: P) (p :: P')
  | drop {c : Nat} {P P' : List (Nat × Bool)} : isQu c = false → Rm P P' → Rm ((c, false) :: P) P'
  | chg {c d : Nat} {P P' : List (Nat × Bool)} : isQu c = false → isQu d = false → Rm P P' → Rm ((c, false) :: P) ((d, false) :: P')
theorem Rm.refl : ∀ P, Rm P P
  | [] => .nil
  | p :: P => .keep p (.refl P)
theorem Rm.pre {S : List (Nat × Bool)} (h : Rm S []) : ∀ A, Rm (A ++ S) A
  | [] => h
  | p :: A => .keep p (h.pre A)
theorem mk_cons (b : Bool) (q : Option Nat) (c : Nat) (r : List Nat) : mk b q (c :: r) = (c, q.isSome) :: mk b (match q with | none => if b && isQu c then some c else none | some q => if c = q then none else some q) r := by
  cases q <;> rfl
theorem Rm.mk {b : Bool} {P P' : List (Nat × Bool)} (h : Rm P P') : ∀ q, mk b q (P.map (·.1)) = P → mk b q (P'.map (·.1)) = P' := by
  induction h with
  | nil => intro q h; exact h
  | @keep p P P' _ ih =>
    intro q h
    rw [List.map_cons, mk_cons] at h ⊢
    have h2 := List.cons.inj h
    rw [h2.1, ih _ h2.2]
  | @drop c P P' hc _ ih =>
    intro q h
    rw [List.map_cons, mk_cons] at h
    have h2 := List.cons.inj h
    cases q with
    | none =>
      have h3 := h2.2
      simp only [hc, Bool.and_false, Bool.false_eq_true, if_false] at h3
      exact ih _ h3
    | some q => cases h2.1
  | @chg c d P P' hc hd _ ih =>
    intro q h
    rw [List.map_cons, mk_cons] at h ⊢
    have h2 := List.cons.inj h
    cases q with
    | none =>
      have h3 := h2.2
      simp only [hc, hd, Bool.and_false, Bool.false_eq_true, if_false] at h3 ⊢
      rw [ih _ h3]
      rfl
    | some q => cases h2.1
theorem mk_map (b : Bool) : ∀ (l : List Nat) (q : Option Nat), (mk b q l).map (·.1) = l
  | [], q => by cases q <;> rfl
  | c :: r, q => by rw [mk_cons, List.map_cons, mk_map b r]
theorem rm_flat (f : Int) : ∀ P : List (Nat × Bool), (∀ p ∈ P, p.1 ∈ alph2) → Rm P (P.flatMap (gP f))
  | [], _ => .nil
  | (c, k) :: P, h => by
    have ih := rm_flat f P fun p hp => h p (by simp [hp])
    have hc := h (c, k) (by simp)
    dsimp only at hc
    rw [List.flatMap_cons]
    cases k
    · show Rm _ ((g f c).map (fun x => (x, false)) ++ _)
      cases hq : isQu c
      · rcases g_one f c with e | ⟨x, e⟩
        · rw [e]; exact .drop hq ih
        · rw [e]
          have := (g_mem f hc x (by rw [e]; simp)).2.1
          exact .chg hq (by rw [this, hq]) ih
      · rw [g_qu f hc hq]
        exact .keep _ ih
    · exact .keep _ ih
theorem isQu_bl {p : Nat × Bool} (h : blP p = true) : isQu p.1 = false ∧ p.2 = false := by
  obtain ⟨c, k⟩ := p
  cases k
  · simp only [blP, Bool.not_false, Bool.true_and, isBl, Bool.or_eq_true, beq_iff_eq] at h
    rcases h with rfl | rfl <;> exact ⟨rfl, rfl⟩
  · cases h
theorem rm_coll : ∀ (q : List (Nat × Bool)) (o : Option (Nat × Bool)), Rm q (coll o q)
  | [], _ => .nil
  | p :: r, o => by
    rw [coll]
    split
    · rename_i h
      rw [h.1]
      exact .drop (by rfl) (rm_coll r _)
    · exact .keep _ (rm_coll r _)
theorem rm_nil : ∀ q : List (Nat × Bool), (∀ p ∈ q, blP p = true) → Rm q []
  | [], _ => .nil
  | (c, k) :: r, h => by
    have := isQu_bl (h (c, k) (by simp))
    have hk : k = false := this.2
    subst hk
    exact .drop this.1 (rm_nil r fun p hp => h p (by simp [hp]))
theorem rm_dw : ∀ q : List (Nat × Bool), Rm q (q.dropWhile blP)
  | [] => .nil
  | (c, k) :: r => by
    rw [List.dropWhile_cons]
    split
    · rename_i h
      have := isQu_bl h
      have hk : k = false := this.2
      subst hk
      exact .drop this.1 (rm_dw r)
    · exact .refl _
theorem rdw_pre (q : List (Nat × Bool)) : ∃ S, q = rdw q ++ S ∧ ∀ p ∈ S, blP p = true := by
  refine ⟨(q.reverse.takeWhile blP).reverse, ?_, ?_⟩
  · rw [rdw, ← List.reverse_append, List.takeWhile_append_dropWhile, List.reverse_reverse]
  · intro p hp
    rw [List.mem_reverse] at hp
    have := List.all_takeWhile (p := blP) (l := q.reverse)
    exact List.all_eq_true.mp this p hp
theorem rm_rdw (q : List (Nat × Bool)) : Rm q (rdw q) := by
  obtain ⟨S, e, h⟩ := rdw_pre q
  have := (rm_nil S h).pre (rdw q)
  rwa [← e] at this

/-- no two empty ones side by side -/
def nadj : List (Nat × Bool) → Prop
  | [] => True
  | p :: r => ¬ (p = emp ∧ r.head? = some emp) ∧ nadj r
theorem coll_fix : ∀ (q : List (Nat × Bool)) (o : Option (Nat × Bool)), nadj q → (q.head? = some emp → o ≠ some emp) → coll o q = q
  | [], _, _, _ => rfl
  | p :: r, o, h, ho => by
    rw [coll, if_neg (fun e => ho (by rw [e.1]; rfl) e.2), coll_fix r _ h.2 (fun e e2 => h.1 ⟨Option.some.inj e2, e⟩)]
theorem coll_nadj : ∀ (q : List (Nat × Bool)) (o : Option (Nat × Bool)), nadj (coll o q) ∧ ((coll o q).head? = some emp → o ≠ some emp)
  | [], _ => ⟨trivial, fun h => nomatch h⟩
  | p :: r, o => by
    rw [coll]
    have ih := coll_nadj r (some p)
    split
    · rename_i h
      refine ⟨ih.1, fun e => ?_⟩
      exact absurd (congrArg some h.1) (ih.2 e)
    · rename_i h
      refine ⟨⟨fun e => ih.2 e.2 (congrArg some e.1), ih.1⟩, fun e e2 => h ⟨Option.some.inj e, e2⟩⟩
theorem nadj_app : ∀ (A B : List (Nat × Bool)), nadj (A ++ B) → nadj A ∧ nadj B
  | [], _, h => ⟨trivial, h⟩
  | p :: A, B, h => by
    have ih := nadj_app A B h.2
    refine ⟨⟨fun e => h.1 ⟨e.1, ?_⟩, ih.1⟩, ih.2⟩
    cases A with
    | nil => cases e.2
    | cons => exact e.2
theorem dw_suf : ∀ q : List (Nat × Bool), ∃ S, q = S ++ q.dropWhile blP
  | q => ⟨q.takeWhile blP, List.takeWhile_append_dropWhile.symm⟩
/-- a list that opens with no blank -/
def hd0 (q : List (Nat × Bool)) : Prop := ∀ p, q.head? = some p → blP p = false
theorem hd0_dw : ∀ q : List (Nat × Bool), hd0 (q.dropWhile blP)
  | [] => fun _ h => nomatch h
  | p :: r => by
    rw [List.dropWhile_cons]
    split
    · exact hd0_dw r
    · rename_i h
      intro x hx
      cases hx
      simpa using h
theorem hd0_fix : ∀ q : List (Nat × Bool), hd0 q → q.dropWhile blP = q
  | [], _ => rfl
  | p :: r, h => by rw [List.dropWhile_cons, if_neg (by rw [h p rfl]; decide)]
theorem hd0_pre {A B : List (Nat × Bool)} (h : hd0 (A ++ B)) : hd0 A := by
  intro p hp
  cases A with
  | nil => cases hp
  | cons x A => exact h p hp
theorem rdw_fix (q : List (Nat × Bool)) : rdw (rdw q) = rdw q := by
  unfold rdw
  rw [List.reverse_reverse, hd0_fix _ (hd0_dw _)]

theorem p4_on {f : Int} (h : bt f 4 = true) (q : List (Nat × Bool)) : p4 f q = coll none q := by unfold p4; rw [if_pos h]
theorem p4_off {f : Int} (h : bt f 4 = false) (q : List (Nat × Bool)) : p4 f q = q := by unfold p4; rw [if_neg (by rw [h]; decide)]
theorem p5_on {f : Int} (h : bt f 3 = true) (q : List (Nat × Bool)) : p5 f q = q.dropWhile blP := by unfold p5; rw [if_pos h]
theorem p5_off {f : Int} (h : bt f 3 = false) (q : List (Nat × Bool)) : p5 f q = q := by unfold p5; rw [if_neg (by rw [h]; decide)]
theorem stg_eq (f : Int) (l : List Nat) : stg f l = p6 f (p5 f (p4 f ((mk (bt f 8) none l).flatMap (gP f)))) := by unfold stg; rw [p321]
theorem p4_nadj {f : Int} (q : List (Nat × Bool)) (h : bt f 4 = true) : nadj (p4 f q) := by
  unfold p4; rw [if_pos h]; exact (coll_nadj q none).1
theorem p5_suf (f : Int) (q : List (Nat × Bool)) : ∃ S, q = S ++ p5 f q := by
  unfold p5; split
  · exact dw_suf q
  · exact ⟨[], rfl⟩
theorem p6_pre (f : Int) (q : List (Nat × Bool)) : ∃ S, q = p6 f q ++ S := by
  unfold p6; split
  · obtain ⟨S, e, _⟩ := rdw_pre q
    exact ⟨S, e⟩
  · exact ⟨[], by simp⟩
theorem coll_mem : ∀ (q : List (Nat × Bool)) (o : Option (Nat × Bool)), ∀ p ∈ coll o q, p ∈ q
  | [], _, _, h => h
  | x :: r, o, p, h => by
    rw [coll] at h
    split at h
    · exact List.mem_cons_of_mem _ (coll_mem r _ p h)
    · rcases List.mem_cons.mp h with rfl | h
      · exact List.mem_cons_self
      · exact List.mem_cons_of_mem _ (coll_mem r _ p h)
theorem stg_mem {f : Int} {l : List Nat} : ∀ p ∈ stg f l, p ∈ (mk (bt f 8) none l).flatMap (gP f) := by
  intro p hp
  unfold stg at hp
  rw [p321] at hp
  generalize (mk (bt f 8) none l).flatMap (gP f) = X at *
  obtain ⟨S, e⟩ := p6_pre f (p5 f (p4 f X))
  have h1 : p ∈ p5 f (p4 f X) := by rw [e]; exact List.mem_append_left _ hp
  obtain ⟨S, e⟩ := p5_suf f (p4 f X)
  have h2 : p ∈ p4 f X := by rw [e]; exact List.mem_append_right _ h1
  unfold p4 at h2
  split at h2
  · exact coll_mem _ _ p h2
  · exact h2
theorem flat_mem {f : Int} {P : List (Nat × Bool)} (hP : ∀ p ∈ P, p.1 ∈ alph2) : ∀ x ∈ P.flatMap (gP f), x.1 ∈ alph2 ∧ gP f x = [x] := by
  intro x hx
  obtain ⟨p, hp, hxp⟩ := List.mem_flatMap.mp hx
  unfold gP at hxp
  split at hxp
  · rename_i h2
    rw [List.mem_singleton.mp hxp]
    refine ⟨hP p hp, ?_⟩
    unfold gP
    rw [if_pos h2]
  · obtain ⟨y, hy, rfl⟩ := List.mem_map.mp hxp
    have := g_mem f (hP p hp) y hy
    refine ⟨this.1, ?_⟩
    show (g f y).map _ = _
    rw [this.2.2]
    rfl
theorem flat_id {f : Int} : ∀ P : List (Nat × Bool), (∀ x ∈ P, gP f x = [x]) → P.flatMap (gP f) = P
  | [], _ => rfl
  | p :: P, h => by
    rw [List.flatMap_cons, h p (by simp), flat_id P fun x hx => h x (by simp [hx])]
    rfl
theorem staged_alph {f : Int} {l : List Nat} (hl : ∀ c ∈ l, c ∈ alph2) : ∀ c ∈ staged f l, c ∈ alph2 := by
  intro c hc
  obtain ⟨p, hp, rfl⟩ := List.mem_map.mp hc
  exact (flat_mem (f := f) (fun q hq => hl _ (mk_mem _ _ _ _ hq)) p (stg_mem p hp)).1
theorem stg_again {f : Int} {l : List Nat} (hl : ∀ c ∈ l, c ∈ alph2) : stg f ((stg f l).map (·.1)) = stg f l := by
  have hX : ∀ p ∈ mk (bt f 8) none l, p.1 ∈ alph2 := fun q hq => hl _ (mk_mem _ _ _ _ hq)
  have hwf : mk (bt f 8) none ((stg f l).map (·.1)) = stg f l := by
    unfold stg
    rw [p321]
    have h0 : mk (bt f 8) none ((mk (bt f 8) none l).map (·.1)) = mk (bt f 8) none l := by rw [mk_map]
    have h1 := (rm_flat f _ hX).mk none h0
    generalize (mk (bt f 8) none l).flatMap (gP f) = X at *
    have h2 : mk (bt f 8) none ((p4 f X).map (·.1)) = p4 f X := by
      unfold p4; split
      · exact (rm_coll X none).mk none h1
      · exact h1
    have h3 : mk (bt f 8) none ((p5 f (p4 f X)).map (·.1)) = p5 f (p4 f X) := by
      unfold p5; split
      · exact (rm_dw _).mk none h2
      · exact h2
    unfold p6; split
    · exact (rm_rdw _).mk none h3
    · exact h3
  have hid := flat_id (f := f) (stg f l) fun x hx => (flat_mem hX x (stg_mem x hx)).2
  have e : stg f ((stg f l).map (·.1)) = p6 f (p5 f (p4 f (stg f l))) := by
    rw [stg_eq, hwf, hid]
  rw [e]
  unfold stg
  rw [p321]
  generalize (mk (bt f 8) none l).flatMap (gP f) = X
  have hp4 : p4 f (p6 f (p5 f (p4 f X))) = p6 f (p5 f (p4 f X)) := by
    cases h4 : bt f 4
    · exact p4_off h4 _
    · have n := p4_nadj X h4
      obtain ⟨S, e5⟩ := p5_suf f (p4 f X)
      obtain ⟨S', e6⟩ := p6_pre f (p5 f (p4 f X))
      rw [e5] at n
      have n2 := (nadj_app _ _ n).2
      rw [e6] at n2
      have n3 := (nadj_app _ _ n2).1
      rw [p4_on h4 (p6 f _), coll_fix _ none n3 (fun _ h => nomatch h)]
  rw [hp4]
  have hp5 : p5 f (p6 f (p5 f (p4 f X))) = p6 f (p5 f (p4 f X)) := by
    generalize p4 f X = Y
    cases h3 : bt f 3
    · exact p5_off h3 _
    · obtain ⟨S', e6⟩ := p6_pre f (p5 f Y)
      have n : hd0 (p5 f Y) := by unfold p5; rw [if_pos h3]; exact hd0_dw _
      rw [e6] at n
      have n3 := hd0_pre n
      rw [p5_on h3 (p6 f _), hd0_fix _ n3]
  rw [hp5]
  unfold p6
  split
  · exact rdw_fix _
  · rfl
theorem ed_again {f : Int} {l : List Nat} (hl : ∀ c ∈ l, c ∈ alph2) : ed f (staged f l) = staged f l := by
  rw [ed_staged (staged_alph hl)]
  unfold staged
  rw [stg_again hl]

theorem rdw_cons (y : Nat × Bool) (Y : List (Nat × Bool)) : rdw (y :: Y) = if Y.all blP then (if blP y then [] else [y]) else y :: rdw Y := by
  unfold rdw
  rw [List.reverse_cons, dw_snoc, List.all_reverse]
  split
  · split <;> rfl
  · simp
theorem rdw_all {Y : List (Nat × Bool)} (h : Y.all blP = true) : rdw Y = [] := by
  cases Y with
  | nil => rfl
  | cons y Y =>
    rw [List.all_cons, Bool.and_eq_true] at h
    rw [rdw_cons, if_pos h.2, if_pos h.1]
theorem rdw_dw : ∀ Y : List (Nat × Bool), rdw (Y.dropWhile blP) = (rdw Y).dropWhile blP
  | [] => rfl
  | y :: Y => by
    rw [List.dropWhile_cons, rdw_cons]
    cases hy : blP y
    · simp only [Bool.false_eq_true, if_false]
      rw [rdw_cons, hy]
      simp only [Bool.false_eq_true, if_false]
      split <;> simp [hy]
    · simp only [if_true]
      rw [rdw_dw Y]
      split
      · rename_i h
        rw [rdw_all h]
      · rw [List.dropWhile_cons, if_pos hy]
theorem mk_false : ∀ l : List Nat, mk false none l = l.map (fun c => (c, false))
  | [] => rfl
  | c :: r => by rw [mk_cons]; simp [mk_false r]
theorem ed_bare {f e : Int} {l : List Nat} (hl : ∀ c ∈ l, c ∈ alph2) (h0 : bt e 0 = bt f 0) (h1 : bt e 1 = bt f 1) (h2 : bt e 2 = bt f 2) (h3 : bt e 3 = true) (f3 : bt f 3 = false) (h4 : bt e 4 = bt f 4) (h5 : bt e 5 = bt f 5) (h6 : bt e 6 = bt f 6) (h7 : bt e 7 = true) (f7 : bt f 7 = false) (h8 : bt e 8 = false) (f8 : bt f 8 = false) :
    ed e l = (rst (ed f l)).dropWhile isBl := by
  rw [ed_staged hl, ed_staged hl]
  unfold staged stg
  rw [p321, p321, h8, f8]
  have hg : ∀ c, g e c = g f c := by intro c; unfold g gone turnS low7; rw [h0, h1, h2, h4, h5, h6]
  have hgP : gP e = gP f := by funext p; unfold gP; rw [hg]
  rw [hgP]
  have hX : ∀ x ∈ (mk false none l).flatMap (gP f), x.2 = false := by
    intro x hx
    obtain ⟨p, hp, hxp⟩ := List.mem_flatMap.mp hx
    rw [mk_false] at hp
    obtain ⟨c, _, rfl⟩ := List.mem_map.mp hp
    obtain ⟨y, _, rfl⟩ := List.mem_map.mp hxp
    rfl
  generalize (mk false none l).flatMap (gP f) = X at hX
  have e4 : p4 e X = p4 f X := by unfold p4; rw [h4]
  rw [e4]
  have hY : ∀ x ∈ p4 f X, x.2 = false := by
    intro x hx
    unfold p4 at hx
    split at hx
    · exact hX x (coll_mem _ _ x hx)
    · exact hX x hx
  generalize p4 f X = Y at hY
  unfold p6 p5
  rw [h3, f3, h7, f7]
  simp only [if_true, Bool.false_eq_true, if_false]
  have er : rst (Y.map (·.1)) = (rdw Y).map (·.1) := by
    rw [rst, ← List.map_reverse, dw_map _ (fun x hx => hY x (by simpa using hx)), ← List.map_reverse]
    rfl
  have hr : ∀ x ∈ rdw Y, x.2 = false := by
    intro x hx
    obtain ⟨S, e, _⟩ := rdw_pre Y
    exact hY x (by rw [e]; exact List.mem_append_left _ hx)
  rw [er, dw_map _ hr, rdw_dw]
end Mine
end
section
open PySem PySem.W PyProof.Rows PyProof.V
namespace Mine
set_option maxRecDepth 100000
set_option maxHeartbeats 8000000
section
variable {w : World} {loose : List Str} {mean : ExcName → Option Value} {mg mb : Str → Option Value} {dp un : Nat} {gd : Option (List Code)} {cn : Str} {cs : Scope} {a : Addr} {ccd : Value} {cl : List (Str × Addr)} {outer : List Env} {A₀ : Around} {base h₀ : Heap} {L : Addr} {m : Str → Option Value} {news : List (Addr × Obj)} {s : Shared} {Q E : Value → Shared → Prop}
local macro_rules | `(tactic| k_mem) => `(tactic| first | assumption | exact List.Mem.head _ | (refine' List.Mem.tail _ ?_; k_mem))
local macro_rules | `(tactic| k_all) => `(tactic| first | assumption | exact List.forall_mem_nil _ | (refine' neAll_cons ?a ?b; (case a => k_ne); (case b => k_all)))
local macro_rules | `(tactic| tb_start) => `(tactic| repeat ((fail_if_success (with_reducible show wpAny _ _ (exec (Stmt.Assign _ (Expr.ListComp _ _ _ _) _) _) _ _ _)); (first | (k_unfold; (try dsimp only)) | walk1 | (dsimp only; walk1))))
local macro_rules | `(tactic| tb_rel) => `(tactic| repeat ((fail_if_success (with_reducible show wpAny _ _ (exec (Stmt.Assign _ (Expr.ListComp _ _ _ _) _) _) _ _ _)); (fail_if_success (with_reducible show wpAny _ _ (exec (Stmt.If _ _ _ _) _) _ _ _)); (fail_if_success (with_reducible show wpAny _ _ (exec (Stmt.While _ _ _ _) _) _ _ _)); (fail_if_success (with_reducible show wpAny _ _ (eval (Expr.ListComp _ _ _ _) _) _ _ _)); (fail_if_success (with_reducible show LCg.CompSrc _ _ _ _ _ _ _ _ _ _ _ _ _ _)); (fail_if_success (with_reducible show wpAny _ _ (binaryOp Operator.Add (Value.ref _) (Value.ref _)) _ _ _)); (fail_if_success (with_reducible show wpAny _ _ (call (Value.ref 160) _) _ _ _)); (first | (k_unfold; (try dsimp only)) | walk1 | (dsimp only; walk1))))

theorem bit_eq (f : Int) (i : Nat) : ((f.fdiv (2 ^ (0 + (i : Int)).toNat)).fmod 2 == 1) = bt f i := by
  rw [Int.zero_add, Int.toNat_natCast]
  have h2 : (0 : Int) ≤ 2 ^ i := Int.pow_nonneg (by decide)
  rw [Int.fdiv_eq_ediv_of_nonneg _ h2, Int.fmod_eq_emod_of_nonneg _ (by decide : (0 : Int) ≤ 2)]
  unfold bt
  rw [Bool.eq_iff_iff]
  simp
theorem fmod128 (c : Nat) : ((c : Int).fmod 128).toNat = c % 128 := by
  rw [Int.fmod_eq_emod_of_nonneg _ (by decide : (0 : Int) ≤ 128)]; omega
abbrev hasL (f : Int) : List Value := [.bool (bt f 0), .bool (bt f 1), .bool (bt f 2), .bool (bt f 3), .bool (bt f 4), .bool (bt f 5), .bool (bt f 6), .bool (bt f 7), .bool (bt f 8)]

section
variable {prog : Program} {A : Around} {f : Int} {H : Addr} {u : Tok} {value slice : PySem.Expr}
theorem has_item {n : Nat} (N : News h₀ L s.heap news) (hl : (H, listOf (hasL f).toArray n) ∈ news) (k : Nat) (hk : k < 9) (h : Q (.bool (bt f k)) s)
    (hs : subscripted slice false (.ref H) (.int (Int.ofNat k) u) = operate [.ref H, .int (Int.ofNat k) u] (getItem (.ref H) (.int (Int.ofNat k) u)) := by with_unfolding_all rfl) :
    wpAny (model prog w) A (subscriptTail value slice (.ref H) (.int (Int.ofNat k) u)) Q E s := by
  refine item_news N hl (Int.natCast_nonneg k) (by show (Int.ofNat k) < 2 ^ 63; simp only [Int.ofNat_eq_natCast]; omega) ?_ h hs
  have : k = 0 ∨ k = 1 ∨ k = 2 ∨ k = 3 ∨ k = 4 ∨ k = 5 ∨ k = 6 ∨ k = 7 ∨ k = 8 := by omega
  rcases this with rfl | rfl | rfl | rfl | rfl | rfl | rfl | rfl | rfl <;> rfl
end
local macro_rules | `(tactic| walk_at "subscriptTail") => `(tactic| (k_here; (with_reducible show wpAny _ _ (subscriptTail _ _ (Value.ref _) (Value.int _ _)) _ _ _); k_dflt (refine' has_item ?N ?k1 _ ?a ?_; (case N => k_asm); (case k1 => k_mem); (case a => decide); k_whole)))
/-- three and four facts, opened in one step -/
inductive And3 (a b c : Prop) : Prop
  | mk : a → b → c → And3 a b c
inductive And4 (a b c d : Prop) : Prop
  | mk : a → b → c → d → And4 a b c d
inductive And6 (a b c d e f : Prop) : Prop
  | mk : a → b → c → d → e → f → And6 a b c d e f
/-- what holds between two statements of _law_staged -/
inductive SSt (f : Int) (x : Str) (t : Tok) (g' : Heap) (L' H : Addr) (news : List (Addr × Obj)) (cG cT cE : List (Addr × Obj) → Option Value → Prop) (ps : List (Nat × Bool)) (h : Heap) : Prop
  | mk (oE oT oG oP : Obj) (D : Addr) (vs : List Value) (n : Nat) (R : List (Addr × Obj)) (vE vT vG : Option Value) : (Fr g' L' h (fun y => if y = Str.ofString "has" then some (.ref H) else if y = Str.ofString "text" then some (.str x t) else none)) → (News g' L' h ((L' + 1 + 1 + 1 + 1 + 1, oE) :: (L' + 1 + 1 + 1 + 1, oT) :: (L' + 1 + 1 + 1, oG) :: (L' + 1 + 1, oP) :: (D, listOf vs.toArray n) :: R)) → (And4 (oE.data = .cell vE) (oT.data = .cell vT) (oG.data = .cell vG) (oP.data = .cell (some (.ref D)))) → (And3 (cE R vE) (cT R vT) (cG R vG)) → (PIn R vs ps) → ((H, listOf (hasL f).toArray 9) ∈ R) → (∀ p ∈ news, p ∈ R) → (And4 (∀ p ∈ R, p.1 ≠ L' + 1 + 1 + 1 + 1 + 1) (∀ p ∈ R, p.1 ≠ L' + 1 + 1 + 1 + 1) (∀ p ∈ R, p.1 ≠ L' + 1 + 1 + 1) (∀ p ∈ R, p.1 ≠ L' + 1 + 1)) → (And4 (@Ne Nat D (L' + 1 + 1 + 1 + 1 + 1)) (@Ne Nat D (L' + 1 + 1 + 1 + 1)) (@Ne Nat D (L' + 1 + 1 + 1)) (@Ne Nat D (L' + 1 + 1))) → SSt f x t g' L' H news cG cT cE ps h

abbrev cNo (_ : List (Addr × Obj)) (v : Option Value) : Prop := v = none

theorem pcomp_end {g h : Heap} {L' I C D2 T9 D : Addr} {m' : Str → Option Value} {oI oC : Obj} {ys : List Value} {own2 base9 : List (Addr × Obj)} {c tk : Nat} {u : Tok} {k : Bool} {qs qs' : List (Nat × Bool)} {its : Array Value} {n9 : Nat} {s : Shared}
    (F : Fr g L' h m') (N : News g L' h ((T9, tupP c u k 0) :: (I, oI) :: (C, oC) :: (D2, LCg.lst ys) :: (own2 ++ base9))) (l9 : (@LT.lt Nat _ I T9) ∧ (@LT.lt Nat _ C T9) ∧ (@LT.lt Nat _ D2 T9) ∧ AllLt T9 (own2 ++ base9))
    (off : ∀ p ∈ own2 ++ base9, p.1 ≠ I ∧ p.1 ≠ C ∧ p.1 ≠ D2) (hP : PIn own2 ys qs) (hO : ∀ p ∈ own2, ∀ q ∈ base9, @LT.lt Nat _ q.1 p.1) (hS : (D, ({ cls := .type "list", data := .seq its n9 } : Obj)) ∈ base9) (hq : qs' = qs ++ [(c, k)]) :
    LCg.CompEnd g L' m' s I oI C oC D2 (LCg.lst ys) (LCg.SrcAt g D its) (fun y nw => ∃ own2, nw = own2 ++ base9 ∧ PIn own2 (ys ++ [y]) qs' ∧ (∀ p ∈ own2, ∀ q ∈ base9, @LT.lt Nat _ q.1 p.1)) (.ref T9) { s with heap := h, toks := tk } := by
  have hgt := allLt_mem l9.2.2.2
  refine LCg.CompEnd.intro F N ((T9, tupP c u k 0) :: (own2 ++ base9)) ?_ (LCg.Off3.of (List.forall_mem_cons.mpr ⟨⟨Ne.symm (Nat.ne_of_lt l9.1), Ne.symm (Nat.ne_of_lt l9.2.1), Ne.symm (Nat.ne_of_lt l9.2.2.1)⟩, off⟩)) (.inr ⟨_, List.mem_cons_of_mem _ (List.mem_append_right _ hS), rfl, n9, rfl⟩) ⟨(T9, tupP c u k 0) :: own2, rfl, ?_, ?_⟩
  · intro p hp
    simp only [List.mem_cons] at hp ⊢
    rcases hp with h | h | h | h | h <;> simp [h]
  · rw [hq]
    exact PIn.append (hP.mono (fun p hp => List.Mem.tail _ hp)) (.one (List.Mem.head _))
  · exact List.forall_mem_cons.mpr ⟨fun q hq => hgt q (List.mem_append_right _ hq), hO⟩
theorem take_map_snoc {α β : Type} (φ : α → β) {ps : List α} {i : Nat} {x : α} (h : ps[i]? = some x) : (ps.take (i + 1)).map φ = (ps.take i).map φ ++ [φ x] := by
  rw [List.take_add_one, h]; simp

theorem off1_mem {D : Addr} : ∀ {l : List (Addr × Obj)}, LCg.Off1 D l → ∀ p ∈ l, @Ne Nat p.1 D
  | [], _, _, h => nomatch h
  | q :: r, ⟨h1, h2⟩, p, hp => by
    rcases List.mem_cons.mp hp with rfl | hp
    · exact h1
    · exact off1_mem h2 p hp
theorem off1_of {D : Addr} : ∀ {l : List (Addr × Obj)}, (∀ p ∈ l, p.1 ≠ D) → LCg.Off1 D l
  | [], _ => trivial
  | q :: _, h => ⟨h q (List.Mem.head _), off1_of fun p hp => h p (List.Mem.tail _ hp)⟩
theorem rearr {g h : Heap} {L' D D' : Addr} {oE oT oG oP dobj : Obj} {R own2 : List (Addr × Obj)} {ys : List Value}
    (N : News g L' h ((D', LCg.lst ys) :: (own2 ++ ((L' + 1 + 1 + 1 + 1 + 1, oE) :: (L' + 1 + 1 + 1 + 1, oT) :: (L' + 1 + 1 + 1, oG) :: (L' + 1 + 1, oP) :: (D, dobj) :: R))))
    (off : LCg.Off1 D' (own2 ++ ((L' + 1 + 1 + 1 + 1 + 1, oE) :: (L' + 1 + 1 + 1 + 1, oT) :: (L' + 1 + 1 + 1, oG) :: (L' + 1 + 1, oP) :: (D, dobj) :: R)))
    (hO : ∀ p ∈ own2, ∀ q ∈ (L' + 1 + 1 + 1 + 1 + 1, oE) :: (L' + 1 + 1 + 1 + 1, oT) :: (L' + 1 + 1 + 1, oG) :: (L' + 1 + 1, oP) :: (D, dobj) :: R, @LT.lt Nat _ q.1 p.1)
    (r5 : ∀ p ∈ R, p.1 ≠ L' + 1 + 1 + 1 + 1 + 1) (r4 : ∀ p ∈ R, p.1 ≠ L' + 1 + 1 + 1 + 1) (r3 : ∀ p ∈ R, p.1 ≠ L' + 1 + 1 + 1) (r2 : ∀ p ∈ R, p.1 ≠ L' + 1 + 1)
    (d5 : @Ne Nat D (L' + 1 + 1 + 1 + 1 + 1)) (d4 : @Ne Nat D (L' + 1 + 1 + 1 + 1)) (d3 : @Ne Nat D (L' + 1 + 1 + 1)) (d2 : @Ne Nat D (L' + 1 + 1)) :
    And3 (News g L' h ((L' + 1 + 1 + 1 + 1 + 1, oE) :: (L' + 1 + 1 + 1 + 1, oT) :: (L' + 1 + 1 + 1, oG) :: (L' + 1 + 1, oP) :: (D', listOf ys.toArray ys.length) :: (own2 ++ (D, dobj) :: R))) (And4 (∀ p ∈ own2 ++ (D, dobj) :: R, p.1 ≠ L' + 1 + 1 + 1 + 1 + 1) (∀ p ∈ own2 ++ (D, dobj) :: R, p.1 ≠ L' + 1 + 1 + 1 + 1) (∀ p ∈ own2 ++ (D, dobj) :: R, p.1 ≠ L' + 1 + 1 + 1) (∀ p ∈ own2 ++ (D, dobj) :: R, p.1 ≠ L' + 1 + 1)) (And4 (@Ne Nat D' (L' + 1 + 1 + 1 + 1 + 1)) (@Ne Nat D' (L' + 1 + 1 + 1 + 1)) (@Ne Nat D' (L' + 1 + 1 + 1)) (@Ne Nat D' (L' + 1 + 1))) := by
  have om := off1_mem off
  have key : ∀ x o, (x, o) ∈ (L' + 1 + 1 + 1 + 1 + 1, oE) :: (L' + 1 + 1 + 1 + 1, oT) :: (L' + 1 + 1 + 1, oG) :: (L' + 1 + 1, oP) :: (D, dobj) :: R → @Ne Nat D x → (∀ p ∈ R, p.1 ≠ x) → ∀ p ∈ own2 ++ (D, dobj) :: R, p.1 ≠ x := by
    intro x o hx hd hr p hp
    rcases List.mem_append.mp hp with hp | hp
    · exact Ne.symm (Nat.ne_of_lt (hO p hp _ hx))
    · rcases List.mem_cons.mp hp with rfl | hp
      · exact hd
      · exact hr p hp
  refine ⟨cb_drop N (fun p hp => ?_), ⟨key _ oE (by simp) d5 r5, key _ oT (by simp) d4 r4, key _ oG (by simp) d3 r3, key _ oP (by simp) d2 r2⟩, Ne.symm (om (_, oE) (by simp)), Ne.symm (om (_, oT) (by simp)), Ne.symm (om (_, oG) (by simp)), Ne.symm (om (_, oP) (by simp))⟩
  simp only [List.mem_cons, List.mem_append] at hp ⊢
  rcases hp with h | h | h | h | h | h | h | h <;> simp [h]

theorem p1_len (f : Int) (q : List (Nat × Bool)) : (p1 f q).length = q.length := by unfold p1; split <;> simp
theorem p2_len (f : Int) (q : List (Nat × Bool)) : (p2 f q).length ≤ q.length := by unfold p2; exact List.length_filter_le _ _
theorem p3_len (f : Int) (q : List (Nat × Bool)) : (p3 f q).length = q.length := by unfold p3; simp
theorem p1_lt {f : Int} {q : List (Nat × Bool)} (h : ∀ p ∈ q, p.1 < 256) : ∀ p ∈ p1 f q, p.1 < 256 := by
  unfold p1
  split
  · intro p hp
    obtain ⟨x, hx, rfl⟩ := List.mem_map.mp hp
    have := h x hx
    dsimp only
    split
    · exact this
    · exact Nat.lt_of_le_of_lt (Nat.mod_le _ _) this
  · exact h
theorem p2_lt {f : Int} {q : List (Nat × Bool)} (h : ∀ p ∈ q, p.1 < 256) : ∀ p ∈ p2 f q, p.1 < 256 := fun p hp => h p (List.mem_filter.mp hp).1
theorem p3_lt {f : Int} {q : List (Nat × Bool)} (h : ∀ p ∈ q, p.1 < 256) : ∀ p ∈ p3 f q, p.1 < 256 := by
  unfold p3
  intro p hp
  obtain ⟨x, hx, rfl⟩ := List.mem_map.mp hp
  have := h x hx
  dsimp only
  split
  · exact this
  · unfold turnS
    repeat' split
    all_goals omega
/-- the signs that go -/
def goneS (f : Int) : List Nat := (if bt f 1 then [32, 9] else []) ++ (if bt f 2 then [13, 10, 12, 27, 127, 0] else [])

abbrev cGone (f : Int) (_ : List (Addr × Obj)) (v : Option Value) : Prop := ∃ tg, v = some (.str (tx (goneS f)) tg)

theorem goneS_gone (f : Int) (c : Nat) : (goneS f).contains c = gone f c := by
  unfold goneS gone isBl isDr
  cases bt f 1 <;> cases bt f 2 <;> (rw [Bool.eq_iff_iff]; simp [or_assoc])
theorem occ_gone (f : Int) (c : Nat) : (Builtin.Str.occurrences (tx (goneS f)) (tx [c]) 0 (tx (goneS f)).length 1).isEmpty = !(gone f c) := by
  have := occ_one (tx (goneS f)) c
  rw [this]
  simp only [goneS_gone]
theorem gend_yes {g h : Heap} {L' C D2 T9 : Addr} {m' : Str → Option Value} {oC : Obj} {ys : List Value} {IO own2 base9 W : List (Addr × Obj)} {c tk : Nat} {u : Tok} {k : Bool} {qs qs' : List (Nat × Bool)} {s : Shared}
    (F : Fr g L' h m') (N : News g L' h ((T9, tupP c u k 0) :: W)) (hW : IO ++ (C, oC) :: (D2, LCg.lst ys) :: (own2 ++ base9) = W) (l9 : ∀ p ∈ W, @LT.lt Nat _ p.1 T9)
    (off : ∀ p ∈ own2 ++ base9, p.1 ∉ IO.map (·.1) ∧ p.1 ≠ C ∧ p.1 ≠ D2) (hP : PIn own2 ys qs) (hO : ∀ p ∈ own2, ∀ q ∈ base9, @LT.lt Nat _ q.1 p.1) (hq : qs' = qs ++ [(c, k)]) :
    GEnd g L' m' s IO C oC D2 (LCg.lst ys) (fun y nw => ∃ own2, nw = own2 ++ base9 ∧ PIn own2 (ys ++ [y]) qs' ∧ (∀ p ∈ own2, ∀ q ∈ base9, @LT.lt Nat _ q.1 p.1)) (.ref T9) { s with heap := h, toks := tk } := by
  subst hW
  refine ⟨h, tk, (T9, tupP c u k 0) :: (own2 ++ base9), rfl, F, cb_drop N (fun p hp => ?_), List.forall_mem_cons.mpr ⟨⟨fun hm => ?_, Ne.symm (Nat.ne_of_lt (l9 (C, oC) (by simp))), Ne.symm (Nat.ne_of_lt (l9 (D2, LCg.lst ys) (by simp)))⟩, off⟩, (T9, tupP c u k 0) :: own2, rfl, ?_, ?_⟩
  · simp only [List.mem_cons, List.mem_append] at hp ⊢
    rcases hp with h | h | h | h | h | h <;> simp [h]
  · obtain ⟨p, hp, e⟩ := List.mem_map.mp hm
    exact Nat.lt_irrefl _ (e ▸ l9 p (List.mem_append_left _ hp))
  · rw [hq]
    exact PIn.append (hP.mono (fun p hp => List.Mem.tail _ hp)) (.one (List.Mem.head _))
  · exact List.forall_mem_cons.mpr ⟨fun q hq => l9 q (by simp [hq]), hO⟩
theorem gend_no {g h : Heap} {L' C D2 : Addr} {m' : Str → Option Value} {oC : Obj} {ys : List Value} {IO own2 base9 W : List (Addr × Obj)} {tk : Nat} {v : Value} {qs qs' : List (Nat × Bool)} {s : Shared}
    (F : Fr g L' h m') (N : News g L' h W) (hW : IO ++ (C, oC) :: (D2, LCg.lst ys) :: (own2 ++ base9) = W)
    (off : ∀ p ∈ own2 ++ base9, p.1 ∉ IO.map (·.1) ∧ p.1 ≠ C ∧ p.1 ≠ D2) (hP : PIn own2 ys qs) (hO : ∀ p ∈ own2, ∀ q ∈ base9, @LT.lt Nat _ q.1 p.1) (hq : qs' = qs) :
    GEnd g L' m' s IO C oC D2 (LCg.lst ys) (fun _ nw => ∃ own2, nw = own2 ++ base9 ∧ PIn own2 ys qs' ∧ (∀ p ∈ own2, ∀ q ∈ base9, @LT.lt Nat _ q.1 p.1)) v { s with heap := h, toks := tk } := by
  subst hW hq
  exact ⟨h, tk, own2 ++ base9, rfl, F, N, off, own2, rfl, hP, hO⟩
theorem p2_snoc {f : Int} {ps : List (Nat × Bool)} {i : Nat} {p : Nat × Bool} (h : ps[i]? = some p) : p2 f (ps.take (i + 1)) = p2 f (ps.take i) ++ if (p.2 || !gone f p.1) = true then [p] else [] := by
  unfold p2
  rw [List.take_add_one, h, List.filter_append]
  congr 1
  simp [List.filter_cons]

/-- what holds while the turns are laid -/
inductive SSd (w : World) (f : Int) (x : Str) (t : Tok) (g' : Heap) (L' H : Addr) (news : List (Addr × Obj)) (Dd : PD) (ps : List (Nat × Bool)) (h : Heap) : Prop
  | mk (oE oT oG oP oM : Obj) (M D : Addr) (vs : List Value) (n : Nat) (R : List (Addr × Obj)) (tg : Tok) (kvs : List (Str × Value)) : (Fr g' L' h (fun y => if y = Str.ofString "has" then some (.ref H) else if y = Str.ofString "text" then some (.str x t) else none)) → (News g' L' h ((M, oM) :: (L' + 1 + 1 + 1 + 1 + 1, oE) :: (L' + 1 + 1 + 1 + 1, oT) :: (L' + 1 + 1 + 1, oG) :: (L' + 1 + 1, oP) :: (D, listOf vs.toArray n) :: R)) → (And4 (oE.data = .cell none) (oT.data = .cell (some (.ref M))) (oG.data = .cell (some (.str (tx (goneS f)) tg))) (oP.data = .cell (some (.ref D)))) → (And3 (Obj.IsDictOf (PySem.strKind PySem.Challenge.rw_pf0006_01.row.prog w) oM kvs) (PyProof.V.FlatPairs PySem.PyData.str kvs Dd) ((M == sysModules) = false)) → (PIn R vs ps) → ((H, listOf (hasL f).toArray 9) ∈ R) → (∀ p ∈ news, p ∈ R) → (And4 (∀ p ∈ R, p.1 ≠ L' + 1 + 1 + 1 + 1 + 1) (∀ p ∈ R, p.1 ≠ L' + 1 + 1 + 1 + 1) (∀ p ∈ R, p.1 ≠ L' + 1 + 1 + 1) (∀ p ∈ R, p.1 ≠ L' + 1 + 1)) → (And4 (@Ne Nat D (L' + 1 + 1 + 1 + 1 + 1)) (@Ne Nat D (L' + 1 + 1 + 1 + 1)) (@Ne Nat D (L' + 1 + 1 + 1)) (@Ne Nat D (L' + 1 + 1))) → (And6 (@Ne Nat M (L' + 1 + 1 + 1 + 1 + 1)) (@Ne Nat M (L' + 1 + 1 + 1 + 1)) (@Ne Nat M (L' + 1 + 1 + 1)) (@Ne Nat M (L' + 1 + 1)) (@Ne Nat D M) (∀ p ∈ R, p.1 ≠ M)) → SSd w f x t g' L' H news Dd ps h


theorem tD0_len (f : Int) : (tD0 f).length ≤ 3 := by unfold tD0; split <;> simp
theorem tD1_len (f : Int) : (tD1 f).length ≤ 3 := by
  unfold tD1
  have h0 : (tD0 f).length ≤ 1 := by unfold tD0; split <;> simp
  split
  · refine Nat.le_trans (putD_length_le _ _ _) (Nat.succ_le_succ (Nat.le_trans (putD_length_le _ _ _) (Nat.succ_le_succ h0)))
  · exact Nat.le_trans h0 (by decide)
section
variable {prog : Program} {A : Around}
theorem put_str {d : Addr} {o : Obj} {u : Obj → List (Addr × Obj)} {kvs : List (Str × Value)} {Dd : PD} {k v : Str} {tk tv : Tok} {Q : Unit → Shared → Prop} (F : Fr h₀ L s.heap m) (N : News h₀ L s.heap news) (U : UpdF d o news u) (hd : o.IsDictOf (PySem.strKind prog w) kvs) (hf : FlatPairs PyData.str kvs Dd) (hc : Dd.length ≤ 100)
    (h : ∀ h' o' kvs', Fr h₀ L h' m → News h₀ L h' (u o') → o'.IsDictOf (PySem.strKind prog w) kvs' → FlatPairs PyData.str kvs' (putD (.str k) (.str v) Dd) → Q () { s with heap := h', toks := s.toks + 1 }) :
    wpAny (model prog w) A (setItem (.ref d) (.str k tk) (.str v tv)) Q E s :=
  setItem_K PyProof.V.same_str (strKind_is _ _ _ _) (PyProof.V.Flat.str v tv) F N U hd hf (fun h' o' F' N' a b => h h' o' _ F' N' a b) (by rw [sizeLine_eq]; omega)
end
local macro_rules | `(tactic| walk_at "setItem ref str") => `(tactic| (k_here; (with_reducible show wpAny _ _ (setItem (Value.ref _) (Value.str _ _) (Value.str _ _)) _ _ _); k_dflt (refine' put_str ?F ?N ?U ?hd ?hf ?hz ?_; (case F => k_asm); (case N => k_asm); (case U => k_updF); (case hd => assumption); (case hf => assumption); (case hz => first | exact Nat.le_trans (by assumption : _ ≤ 3) (by decide) | exact Nat.le_trans (putD_length_le _ _ _) (Nat.le_trans (Nat.succ_le_succ (by assumption : _ ≤ 3)) (by decide))); k_whole); intro h' o' kvs' F' N' hd' hf'; (try dsimp only at N')))

local macro_rules | `(tactic| walk_at "call builtin:dict.get") => `(tactic| (k_here; (try dsimp only [List.cons_append, List.nil_append]); (with_reducible show wpAny _ _ (call (Value.builtin "dict.get") [Value.ref _, Value.str _ _, Value.str _ _]) _ _ _); k_dflt (refine' get_turn ?N ?hm ?hd ?hf ?hs ?_; (case N => k_asm); (case hm => k_mem); (case hd => assumption); (case hf => assumption); (case hs => assumption); k_whole); intro t9'))
local macro_rules | `(tactic| walk_at "newTuple") => `(tactic| (k_here; k_dflt (refine' kup_newTuple ?F ?N ?_ ?z; (case F => k_asm); (case N => k_asm); (case z => kmk_size)); intro D' h' F' N' l1; (try k_lt l1); (try k_sweep)))
abbrev cAny (_ : List (Addr × Obj)) (_ : Option Value) : Prop := True

theorem coll_take {ps : List (Nat × Bool)} {i : Nat} {p : Nat × Bool} (h : ps[i]? = some p) : coll none (ps.take (i + 1)) = coll none (ps.take i) ++ (if p = emp ∧ (i ≠ 0 ∧ ps[i - 1]? = some emp) then [] else [p]) := by
  have hi : i < ps.length := by
    rcases Nat.lt_or_ge i ps.length with h5 | h5
    · exact h5
    · rw [List.getElem?_eq_none h5] at h; cases h
  rw [List.take_add_one, h]
  show coll none (ps.take i ++ [p]) = _
  rw [coll_snoc, Option.or_none]
  congr 1
  cases i with
  | zero => simp
  | succ i =>
    have : (ps.take (i + 1)).getLast? = ps[i]? := by
      rw [List.getLast?_eq_getElem?, List.length_take, List.getElem?_take]
      have : min (i + 1) ps.length - 1 = i := by omega
      rw [this, if_pos (by omega)]
    rw [this]
    simp
theorem prev_ix {vs : List Value} {i : Nat} {v : Value} (h : vs[i]? = some v) : vs.toArray[(((i + 1 : Nat) : Int) - 1).toNat]? = some v := by
  have : (((i + 1 : Nat) : Int) - 1).toNat = i := by omega
  rw [this]
  simpa using h
theorem news_lt {h : Heap} {nw : List (Addr × Obj)} (N : News h₀ L h nw) : ∀ p ∈ nw, @LT.lt Nat _ p.1 h.objs.size := fun p hp => Heap.lt_size (N p hp).1
theorem gend_same {g h : Heap} {L' C D2 : Addr} {m' : Str → Option Value} {oC : Obj} {ys : List Value} {IO base9 W : List (Addr × Obj)} {tk : Nat} {v : Value} {s : Shared} {rest : Value → List (Addr × Obj) → Prop}
    (F : Fr g L' h m') (N : News g L' h W) (hW : IO ++ (C, oC) :: (D2, LCg.lst ys) :: base9 = W)
    (off : ∀ p ∈ base9, p.1 ∉ IO.map (·.1) ∧ p.1 ≠ C ∧ p.1 ≠ D2) (hr : rest v base9) :
    GEnd g L' m' s IO C oC D2 (LCg.lst ys) rest v { s with heap := h, toks := tk } := by
  subst hW
  exact ⟨h, tk, base9, rfl, F, N, off, hr⟩
local macro_rules | `(tactic| walk_at "compareOp NotEq ref ref") => `(tactic| (k_here; (with_reducible show wpAny _ _ (compareOp CmpOp.NotEq (Value.ref _) (Value.ref _)) _ _ _); k_dflt (refine' ne_pair ?N ?a ?b ?c ?d ?e ?_; (case N => k_asm); (case a => assumption); (case b => assumption); (case c => assumption); (case d => decide); (case e => first | ke_room | ktr_units); k_whole)))
local macro_rules | `(tactic| walk_at "subscriptTail") => `(tactic| (k_here; (with_reducible show wpAny _ _ (subscriptTail _ _ (Value.ref _) (Value.int _ _)) _ _ _); k_dflt (refine' item_news ?N ?k1 ?a ?b ?c ?_; (case N => k_asm); (case k1 => assumption); (case a => omega); (case b => omega); (case c => exact prev_ix (by assumption)); k_whole)))

theorem p4_len (f : Int) (q : List (Nat × Bool)) : (p4 f q).length ≤ q.length := by
  unfold p4
  split
  · have : ∀ (q : List (Nat × Bool)) (o : Option (Nat × Bool)), (coll o q).length ≤ q.length := by
      intro q
      induction q with
      | nil => intro o; exact Nat.le_refl _
      | cons p r ih =>
        intro o
        rw [coll]
        split
        · exact Nat.le_succ_of_le (ih _)
        · exact Nat.succ_le_succ (ih _)
    exact this q none
  · exact Nat.le_refl _
theorem coll_memS : ∀ (q : List (Nat × Bool)) (o : Option (Nat × Bool)), ∀ p ∈ coll o q, p ∈ q
  | [], _, _, h => h
  | x :: r, o, p, h => by
    rw [coll] at h
    split at h
    · exact List.mem_cons_of_mem _ (coll_memS r _ p h)
    · rcases List.mem_cons.mp h with rfl | h
      · exact List.mem_cons_self
      · exact List.mem_cons_of_mem _ (coll_memS r _ p h)
theorem p4_lt {f : Int} {q : List (Nat × Bool)} (h : ∀ p ∈ q, p.1 < 256) : ∀ p ∈ p4 f q, p.1 < 256 := by
  unfold p4
  split
  · exact fun p hp => h p (coll_memS _ _ p hp)
  · exact h
/-- between two turns of the last two loops of _law_staged -/
inductive WJ (f : Int) (x : Str) (t : Tok) (L' H : Addr) (news : List (Addr × Obj)) (Inv : List (Nat × Bool) → Prop) (n9 : Nat) (m' : Str → Option Value) (nw : List (Addr × Obj)) : Prop
  | mk (oE oT oG oP : Obj) (D : Addr) (vs : List Value) (n : Nat) (R : List (Addr × Obj)) (vE vT vG : Option Value) (ps : List (Nat × Bool)) : (m' = (fun y => if y = Str.ofString "has" then some (.ref H) else if y = Str.ofString "text" then some (.str x t) else none)) → (nw = ((L' + 1 + 1 + 1 + 1 + 1, oE) :: (L' + 1 + 1 + 1 + 1, oT) :: (L' + 1 + 1 + 1, oG) :: (L' + 1 + 1, oP) :: (D, listOf vs.toArray n) :: R)) → (And4 (oE.data = .cell vE) (oT.data = .cell vT) (oG.data = .cell vG) (oP.data = .cell (some (.ref D)))) → (PIn R vs ps) → ((H, listOf (hasL f).toArray 9) ∈ R) → (∀ p ∈ news, p ∈ R) → (And4 (∀ p ∈ R, p.1 ≠ L' + 1 + 1 + 1 + 1 + 1) (∀ p ∈ R, p.1 ≠ L' + 1 + 1 + 1 + 1) (∀ p ∈ R, p.1 ≠ L' + 1 + 1 + 1) (∀ p ∈ R, p.1 ≠ L' + 1 + 1)) → (And4 (@Ne Nat D (L' + 1 + 1 + 1 + 1 + 1)) (@Ne Nat D (L' + 1 + 1 + 1 + 1)) (@Ne Nat D (L' + 1 + 1 + 1)) (@Ne Nat D (L' + 1 + 1))) → (ps.length = n9) → (ps.length ≤ 8) → (∀ p ∈ ps, p.1 < 256) → (Inv ps) → WJ f x t L' H news Inv n9 m' nw

theorem pick_tail (v : Value) (vs : List Value) : kms_pick (v :: vs) (some 1) none = vs := by
  unfold kms_pick kms_lo kms_hi
  have e : (if (1 : Int) < 0 then (v :: vs).length - (-1 : Int).toNat else min (1 : Int).toNat (v :: vs).length) = 1 := by
    rw [if_neg (by decide)]
    simp
  simp only [e]
  simp
theorem pick_init (v : Value) (vs : List Value) : kms_pick (vs ++ [v]) none (some (-1)) = vs := by
  unfold kms_pick kms_lo kms_hi
  have e : (if (-1 : Int) < 0 then (vs ++ [v]).length - (-(-1) : Int).toNat else min (-1 : Int).toNat (vs ++ [v]).length) = vs.length := by
    rw [if_pos (by decide)]
    simp
  simp only [e]
  simp
theorem PIn.snoc {nw : List (Addr × Obj)} {vs ps} (h : PIn nw vs ps) : (vs = [] ∧ ps = []) ∨ ∃ (vs' : List Value) (ps' : List (Nat × Bool)) (T : Addr) (c : Nat) (t : Tok) (k : Bool) (n : Nat), vs = vs' ++ [.ref T] ∧ ps = ps' ++ [(c, k)] ∧ (T, tupP c t k n) ∈ nw ∧ PIn nw vs' ps' := by
  induction h with
  | nil => exact .inl ⟨rfl, rfl⟩
  | cons hm h ih =>
    rcases ih with ⟨rfl, rfl⟩ | ⟨vs', ps', T', c', t', k', n', rfl, rfl, hm', h'⟩
    · exact .inr ⟨[], [], _, _, _, _, _, rfl, rfl, hm, .nil⟩
    · exact .inr ⟨_ :: vs', _ :: ps', T', c', t', k', n', rfl, rfl, hm', .cons hm h'⟩
theorem p6_on {f : Int} (h : bt f 7 = true) (q : List (Nat × Bool)) : p6 f q = rdw q := by unfold p6; rw [if_pos h]
theorem p6_off {f : Int} (h : bt f 7 = false) (q : List (Nat × Bool)) : p6 f q = q := by unfold p6; rw [if_neg (by rw [h]; decide)]
theorem rdw_snoc (q : List (Nat × Bool)) (p : Nat × Bool) : rdw (q ++ [p]) = if blP p = true then rdw q else q ++ [p] := by
  unfold rdw
  rw [List.reverse_append, List.reverse_singleton, List.singleton_append, List.dropWhile_cons]
  split
  · rfl
  · simp
theorem p5_len (f : Int) (q : List (Nat × Bool)) : (p5 f q).length ≤ q.length := by
  unfold p5
  split
  · exact (List.dropWhile_sublist _).length_le
  · exact Nat.le_refl _
theorem p5_lt {f : Int} {q : List (Nat × Bool)} (h : ∀ p ∈ q, p.1 < 256) : ∀ p ∈ p5 f q, p.1 < 256 := by
  unfold p5
  split
  · exact fun p hp => h p ((List.dropWhile_sublist _).subset hp)
  · exact h
theorem p6_len (f : Int) (q : List (Nat × Bool)) : (p6 f q).length ≤ q.length := by
  unfold p6
  split
  · unfold rdw
    have := (List.dropWhile_sublist blP (l := q.reverse)).length_le
    simpa using this
  · exact Nat.le_refl _
theorem neg1_le (v : Value) (vs : List Value) : -((vs ++ [v]).toArray.size : Int) ≤ (-1 : Int) := by simp; omega
theorem neg1_at (v : Value) (vs : List Value) : (vs ++ [v]).toArray[((-1 : Int) + ((vs ++ [v]).toArray.size : Nat)).toNat]? = some v := by
  have e : ((-1 : Int) + ((vs ++ [v]).toArray.size : Nat)).toNat = vs.length := by simp; omega
  rw [e]
  simp
section
variable {prog : Program} {A : Around}
theorem ne_nil {D G : Addr} {n n' : Nat} (N : News h₀ L s.heap news) (ha : (D, listOf ([] : List Value).toArray n) ∈ news) (hb : (G, listOf ([] : List Value).toArray n') ∈ news) (hu : A.units + 64 < cLine)
    (h : Q (.bool false) s) : wpAny (model prog w) A (compareOp .NotEq (.ref D) (.ref G)) Q E s :=
  ne_empty (ps := []) N ha .nil hb (fun _ h => nomatch h) hu h
theorem ne_cons {D G T : Addr} {R : List (Addr × Obj)} {vs : List Value} {c : Nat} {t : Tok} {k : Bool} {ps : List (Nat × Bool)} {n n' nT : Nat} (N : News h₀ L s.heap news) (ha : (D, listOf (.ref T :: vs).toArray n) ∈ news) (hT : (T, tupP c t k nT) ∈ R) (hP : PIn R vs ps) (hb : (G, listOf ([] : List Value).toArray n') ∈ news) (hs : ∀ p ∈ R, p ∈ news) (hc : ∀ x ∈ (c, k) :: ps, x.1 < 256) (hu : A.units + 64 < cLine)
    (h : Q (.bool true) s) : wpAny (model prog w) A (compareOp .NotEq (.ref D) (.ref G)) Q E s :=
  ne_empty N ha (PIn.cons (hs _ hT) (hP.mono hs)) hb hc hu h
theorem ne_snoc {D G T : Addr} {R : List (Addr × Obj)} {vs : List Value} {c : Nat} {t : Tok} {k : Bool} {ps : List (Nat × Bool)} {n n' nT : Nat} (N : News h₀ L s.heap news) (ha : (D, listOf (vs ++ [Value.ref T]).toArray n) ∈ news) (hT : (T, tupP c t k nT) ∈ R) (hP : PIn R vs ps) (hb : (G, listOf ([] : List Value).toArray n') ∈ news) (hs : ∀ p ∈ R, p ∈ news) (hc : ∀ x ∈ ps ++ [(c, k)], x.1 < 256) (hu : A.units + 64 < cLine)
    (h : Q (.bool true) s) : wpAny (model prog w) A (compareOp .NotEq (.ref D) (.ref G)) Q E s :=
  ne_empty N ha ((hP.mono hs).append (.one (hs _ hT))) hb hc hu (by
    have e : (ps ++ [(c, k)]).isEmpty = false := by simp
    rw [e]; exact h)
theorem str_tb : Str.ofString "\t" = tx [9] := by decide +kernel
abbrev tupS (x : Str) (t : Tok) (n : Nat) : Obj := { cls := .type "tuple", data := .seq #[.str x t, .bool false] n }
theorem in_bl {T G T1 T2 : Addr} {c : Nat} {t t1 t2 : Tok} {k : Bool} {n n' n1 n2 : Nat} (N : News h₀ L s.heap news) (ha : (T, tupP c t k n) ∈ news) (hb : (G, listOf [Value.ref T1, Value.ref T2].toArray n') ∈ news) (h1 : (T1, tupS (Str.ofString " ") t1 n1) ∈ news) (h2 : (T2, tupS (Str.ofString "\t") t2 n2) ∈ news) (hc : c < 256) (hu : A.units + 64 < cLine)
    (h : Q (.bool (blP (c, k))) s) : wpAny (model prog w) A (compareOp .In (.ref T) (.ref G)) Q E s := by
  rw [str_sp] at h1
  rw [str_tb] at h2
  refine in_pairs N ha hb (PIn.cons h1 (PIn.cons h2 .nil)) hc (by intro p hp; simp only [List.mem_cons, List.not_mem_nil, or_false] at hp; rcases hp with rfl | rfl <;> decide) hu ?_
  have e : ([((32 : Nat), false), (9, false)].any fun p => decide (p = (c, k))) = blP (c, k) := by
    unfold blP isBl
    cases k
    · simp only [List.any_cons, List.any_nil, Bool.or_false, Prod.mk.injEq, and_true, Bool.not_false, Bool.true_and]
      rw [Bool.eq_iff_iff]; simp only [Bool.or_eq_true, decide_eq_true_eq, beq_iff_eq]; exact or_congr eq_comm eq_comm
    · simp
  rw [e]
  exact h
end
local macro_rules | `(tactic| walk_at "compareOp NotEq ref ref") => `(tactic| (k_here; (with_reducible show wpAny _ _ (compareOp CmpOp.NotEq (Value.ref _) (Value.ref _)) _ _ _); k_dflt (refine' ne_cons ?N ?a ?b ?c ?d ?s ?e ?f ?_; (case N => k_asm); (case b => assumption); (case c => assumption); (case a => k_mem); (case d => k_mem); (case s => (intro _ _; repeat (first | assumption | apply List.Mem.tail))); (case e => assumption); (case f => first | ke_room | ktr_units); k_whole)))
local macro_rules | `(tactic| walk_at "compareOp NotEq ref ref") => `(tactic| (k_here; (with_reducible show wpAny _ _ (compareOp CmpOp.NotEq (Value.ref _) (Value.ref _)) _ _ _); k_dflt (refine' ne_nil ?N ?a ?d ?f ?_; (case N => k_asm); (case a => k_mem); (case d => k_mem); (case f => first | ke_room | ktr_units); k_whole)))
local macro_rules | `(tactic| walk_at "compareOp NotEq ref ref") => `(tactic| (k_here; (with_reducible show wpAny _ _ (compareOp CmpOp.NotEq (Value.ref _) (Value.ref _)) _ _ _); k_dflt (refine' ne_snoc ?N ?a ?b ?c ?d ?s ?e ?f ?_; (case N => k_asm); (case b => assumption); (case c => assumption); (case a => k_mem); (case d => k_mem); (case s => (intro _ _; repeat (first | assumption | apply List.Mem.tail))); (case e => assumption); (case f => first | ke_room | ktr_units); k_whole)))
local macro_rules | `(tactic| walk_at "call builtin:str.join") => `(tactic| (k_here; (with_reducible show wpAny _ _ (call (Value.builtin "str.join") _) _ _ _); k_dflt (refine' join_tx ?N ?k1 ?e ?hS ?hl ?_; (case N => k_asm); (case k1 => k_mem); (case e => exact rfl); (case hS => assumption); (case hl => (rw [List.length_map]; omega)); k_whole); intro t9 k9; (try dsimp only); (try k_fold)))

theorem staged_call {l : List Nat} {t : Tok} {f : Int} {tf : Tok} (hl : l.length ≤ 8) (hc : ∀ c ∈ l, c ∈ alph) (h0 : 0 ≤ f) (h1 : f < 512)
    (hB : Below A₀ base outer h₀) (F : Fr h₀ L s.heap m) (hK : (hd.heap_1 w.params).In h₀) (N : News h₀ L s.heap news) (hT : Top vw loose mean mg mb h₀) (hcs : cs.kind = .function)
    (hdp : dp + 12 < recursionLimit) (hunU : un + 200 < cLine) (hret : RetS h₀ L m news s Q (tx (staged f l))) :
    wpAny (model PySem.Challenge.rw_pf0006_01.row.prog w) (ktrTop dp un gd cn cs L a ccd cl outer) (call (.ref 165) [.str (tx l) t, .int f tf]) Q E s := by
  w_on
  revert hK; k_fill; intro hK
  refine wpAny_call ?_
  k_dflt (refine' code_defC ?k1 ?k2 ?k3 ?k4 ?k5 ?kA ?kF ?kK ?k6 ?k7 ?k8 ?k9 ?kB ?kD ?_ ?c2 ?c3 ?c4; (case kA => exact rfl); (case kF => exact rfl); (case kK => assumption); (case k1 => k_asm); (case k2 => k_asm); (case k3 => k_asm); (case k4 => k_asm); (case k5 => k_asm); (case k6 => k_is); (case k7 => k_is); (case k8 => ktr_room); (case k9 => exact BindsTo.of_eq rfl); (case kB => exact rfl); (case kD => decide +kernel); (case c2 => exact rfl); (case c3 => exact rfl); (case c4 => exact rfl); k_whole; intro g' L' h' tk' cells' FG' F' N' Y' B' X' T' l1; (try k_lt l1); k_cells Y'; (try simp only [List.cons_append, List.nil_append] at N'); (try dsimp only); (try k_lift B'); (try k_fold))
  rename_i oE oT oG oP oF d1' d2' d3' d4' d5'
  clear F N FG'
  have dE : oE.data = .cell none := d1'
  have dT : oT.data = .cell none := d2'
  have dG : oG.data = .cell none := d3'
  have dP : oP.data = .cell none := d4'
  have dF : oF.data = .cell (some (.int f tf)) := d5'
  clear d1' d2' d3' d4' d5'
  replace F' : Fr g' L' h' (fun y => if y = Str.ofString "text" then some (.str (tx l) t) else none) := F'
  have hN1 : ∀ p ∈ news, p.1 ≠ L' + 1 := fun p hp => Nat.ne_of_lt (Nat.lt_of_lt_of_le (l1 p hp) (by omega))
  have hN2 : ∀ p ∈ news, p.1 ≠ L' + 1 + 1 := fun p hp => Nat.ne_of_lt (Nat.lt_of_lt_of_le (l1 p hp) (by omega))
  have hN3 : ∀ p ∈ news, p.1 ≠ L' + 1 + 1 + 1 := fun p hp => Nat.ne_of_lt (Nat.lt_of_lt_of_le (l1 p hp) (by omega))
  have hN4 : ∀ p ∈ news, p.1 ≠ L' + 1 + 1 + 1 + 1 := fun p hp => Nat.ne_of_lt (Nat.lt_of_lt_of_le (l1 p hp) (by omega))
  have hN5 : ∀ p ∈ news, p.1 ≠ L' + 1 + 1 + 1 + 1 + 1 := fun p hp => Nat.ne_of_lt (Nat.lt_of_lt_of_le (l1 p hp) (by omega))
  tb_start
  refine LCg.Assign_ListComp_U (F₀ := by k_asm) (by rfl) (by with_unfolding_all rfl) (by with_unfolding_all rfl) (by decide) (by rfl) (by decide) (by rfl) (by rfl) (by rfl) ?_
  tb_rel
  refine LCg.CompSrc.range rfl (by k_asm) (by k_asm) (by assumption) (by decide) (rangeSize_nat _ _) (by rw [sizeLine_eq]; omega) ?_
  intro g5
  refine comp_ind (fun i ys nw => nw = (L' + 1 + 1 + 1 + 1 + 1, oE) :: (L' + 1 + 1 + 1 + 1, oT) :: (L' + 1 + 1 + 1, oG) :: (L' + 1 + 1, oP) :: (L' + 1, oF) :: news ∧ ys = (List.range i).map (fun k => Value.bool (bt f k))) ?step ?fin ?j0
  case j0 => exact ⟨rfl, rfl⟩
  case step =>
    rintro i ys nw hi ⟨rfl, rfl⟩ v I oI C oC D2 m₂ h tk E' ⟨tv, rfl⟩ hC' hx5 F6 N6 off ne
    have hi9 : i < 9 := hi
    k_steps
    refine LCg.CompEnd.intro F6 N6 _ (fun _ h => h) (LCg.Off3.of off) trivial ⟨rfl, ?_⟩
    rw [List.range_succ, List.map_append]
    congr 1
    simp only [List.map_cons, List.map_nil]
    congr 2
    exact bit_eq f i
  case fin =>
    rintro ys nw ⟨rfl, rfl⟩
    unfold LCg.FinA
    intro D6 h6 tk6 F6 N6 off6
    have eH : LCg.lst (List.map (fun k => Value.bool (bt f k)) (List.range ((9 : Int) - 0).toNat)) = listOf (hasL f).toArray 9 := rfl
    rw [eH] at N6
    dsimp only
    tb_rel
    refine marked_call hl (by k_asm) (by k_asm) (by k_asm) (by k_asm) (by k_asm) (by first | exact rfl | assumption) (by ktr_room) (by ktr_units) ?_
    intro D vs n own h7 tk7 F7 N7 hD7 hO7 hP7
    have N8 : News g' L' h7 ((L' + 1 + 1 + 1 + 1 + 1, oE) :: (L' + 1 + 1 + 1 + 1, oT) :: (L' + 1 + 1 + 1, oG) :: (L' + 1 + 1, oP) :: (D, listOf vs.toArray n) :: (own ++ ((D6, listOf (hasL f).toArray 9) :: (L' + 1, oF) :: news))) := cb_drop N7 (fun p hp => by
      simp only [List.mem_cons, List.mem_append, List.cons_append] at hp ⊢
      rcases hp with h | h | h | h | h | h | h | h | h <;> simp [h])
    have hC1 := hD7 (L' + 1 + 1, oP) (by simp)
    have hC2 := hD7 (L' + 1 + 1 + 1, oG) (by simp)
    have hC3 := hD7 (L' + 1 + 1 + 1 + 1, oT) (by simp)
    have hC4 := hD7 (L' + 1 + 1 + 1 + 1 + 1, oE) (by simp)
    have hX : ∀ x, ((∃ o, (x, o) ∈ (D6, listOf (hasL f).toArray 9) :: (L' + 1 + 1 + 1 + 1 + 1, oE) :: (L' + 1 + 1 + 1 + 1, oT) :: (L' + 1 + 1 + 1, oG) :: (L' + 1 + 1, oP) :: (L' + 1, oF) :: news) → @Ne Nat D6 x → @Ne Nat (L' + 1) x → (∀ p ∈ news, p.1 ≠ x) → ∀ p ∈ own ++ ((D6, listOf (hasL f).toArray 9) :: (L' + 1, oF) :: news), p.1 ≠ x) := by
      rintro x ⟨o, hx⟩ k1 k2 k3 p hp
      rcases List.mem_append.mp hp with hp | hp
      · exact Ne.symm (Nat.ne_of_lt (hO7 p hp _ hx))
      · rcases List.mem_cons.mp hp with rfl | hp
        · exact k1
        · rcases List.mem_cons.mp hp with rfl | hp
          · exact k2
          · exact k3 p hp
    have hR5 := hX (L' + 1 + 1 + 1 + 1 + 1) ⟨oE, by simp⟩ (Ne.symm off6.1) (by k_ne) hN5
    have hR4 := hX (L' + 1 + 1 + 1 + 1) ⟨oT, by simp⟩ (Ne.symm off6.2.1) (by k_ne) hN4
    have hR3 := hX (L' + 1 + 1 + 1) ⟨oG, by simp⟩ (Ne.symm off6.2.2.1) (by k_ne) hN3
    have hR2 := hX (L' + 1 + 1) ⟨oP, by simp⟩ (Ne.symm off6.2.2.2.1) (by k_ne) hN2
    have hHR : (D6, listOf (hasL f).toArray 9) ∈ own ++ ((D6, listOf (hasL f).toArray 9) :: (L' + 1, oF) :: news) := by simp
    have hNR : ∀ p ∈ news, p ∈ own ++ ((D6, listOf (hasL f).toArray 9) :: (L' + 1, oF) :: news) := fun p hp => by simp [hp]
    have hPR := hP7.mono (nw' := own ++ ((D6, listOf (hasL f).toArray 9) :: (L' + 1, oF) :: news)) (fun p hp => List.mem_append_left _ hp)
    generalize own ++ ((D6, listOf (hasL f).toArray 9) :: (L' + 1, oF) :: news) = R at N8 hR5 hR4 hR3 hR2 hHR hNR hPR
    have hD2 : @Ne Nat D (L' + 1 + 1) := Ne.symm hC1
    have hD3 : @Ne Nat D (L' + 1 + 1 + 1) := Ne.symm hC2
    have hD4 : @Ne Nat D (L' + 1 + 1 + 1 + 1) := Ne.symm hC3
    have hD5 : @Ne Nat D (L' + 1 + 1 + 1 + 1 + 1) := Ne.symm hC4
    clear N7 hD7 hO7 hP7 hX off6 N6 F6 hC1 hC2 hC3 hC4 hN1 hN2 hN3 hN4 hN5 l1 dF
    have hps0 : (mk (bt f 8) none l).length ≤ 8 := by rw [mk_len]; exact hl
    have hpc0 : ∀ p ∈ mk (bt f 8) none l, p.1 < 256 := fun p hp => (by decide : ∀ c ∈ alph, c < 256) _ (hc _ (mk_mem _ _ _ _ hp))
    unfold staged stg at hret
    generalize mk (bt f 8) none l = ps0 at hPR hps0 hpc0 hret
    tb_rel
    k_fold
    refine wpAny_mono (Q := Nx (SSt f (tx l) t g' L' D6 news cNo cNo cNo (p1 f ps0)) s) ?st1 ?_ (fun _ _ h => h)
    case st1 =>
      walk1
      (try dsimp only)
      rcases Bool.eq_false_or_eq_true (bt f 0) with hb | hb
      · tb_rel
        refine wpAny_Assign_Name ?_ (by with_unfolding_all rfl)
        refine LCp.ListComp_P (F₀ := by k_asm) (by with_unfolding_all rfl) (by decide) (by rfl) (by decide) (by rfl) (by rfl) (by decide) ?_
        tb_rel
        rename Fr _ _ _ _ => F9
        rename News _ _ _ _ => N9
        have hvl := hPR.length
        generalize hbs : (L' + 1 + 1 + 1 + 1 + 1, oE) :: _ = base9 at N9
        refine LCp.SrcLP.ledger (its := vs.toArray) (k := n) rfl F9 N9 (by rw [← hbs]; k_mem) (by rw [List.size_toArray, sizeLine_eq]; omega) ?_
        intro g6
        refine comp_indP (fun i ys nw => ∃ own2, nw = own2 ++ base9 ∧ PIn own2 ys ((ps0.take i).map (fun p => (if p.2 then p.1 else p.1 % 128, p.2))) ∧ (∀ p ∈ own2, ∀ q ∈ base9, @LT.lt Nat _ q.1 p.1)) ?step1 ?fin1 ?j01
        case j01 => exact ⟨[], rfl, .nil, fun _ h => nomatch h⟩
        case step1 =>
          rintro i ys nw hi ⟨own2, rfl, hP2, hO2⟩ v hv
          obtain ⟨T, c, tT, k, nT, rfl, hmT, hpi⟩ := hPR.get (i := i) (by simpa using hv)
          refine ⟨T, tupP c tT k nT, _, _, nT, rfl, ?_, rfl, rfl, ?_⟩
          · exact List.mem_append_right _ (by rw [← hbs]; k_mem)
          intro I oI C oC D2 m₂ h tk E' hC' hx5 hx6 F6 N6 off ne
          cases k
          · k_steps
            simp only [fmod128] at *
            rename Fr _ _ _ _ => FA
            rename News _ _ _ _ => NA
            rename Addr => T9
            rename (@LT.lt Nat _ I T9 ∧ _) => l9
            exact pcomp_end FA NA l9 off hP2 hO2 (by rw [← hbs]; k_mem) (take_map_snoc _ hpi)
          · k_steps
            rename Fr _ _ _ _ => FA
            rename News _ _ _ _ => NA
            rename Addr => T9
            rename (@LT.lt Nat _ I T9 ∧ _) => l9
            exact pcomp_end FA NA l9 off hP2 hO2 (by rw [← hbs]; k_mem) (take_map_snoc _ hpi)
        case fin1 =>
          rintro ys nw ⟨own2, rfl, hP2, hO2⟩
          unfold LCg.FinE
          intro D6' h8 tk8 F8 N8 off8
          subst hbs
          obtain ⟨N9, ⟨r5, r4, r3, r2⟩, e5, e4, e3, e2⟩ := rearr N8 off8 hO2 hR5 hR4 hR3 hR2 hD5 hD4 hD3 hD2
          have hPn : PIn (own2 ++ (D, listOf vs.toArray n) :: R) ys (p1 f ps0) := by
            rw [show vs.toArray.size = ps0.length by rw [List.size_toArray, hvl], List.take_length] at hP2
            rw [p1, if_pos hb]
            exact hP2.mono (fun p hp => List.mem_append_left _ hp)
          have hRR : ∀ p ∈ R, p ∈ own2 ++ (D, listOf vs.toArray n) :: R := fun p hp => by simp [hp]
          clear N8 off8 hP2 hO2
          generalize own2 ++ (D, listOf vs.toArray n) :: R = R2 at *
          tb_rel
          exact Nx.intro ⟨oE, oT, oG, _, D6', ys, ys.length, R2, _, _, _, by assumption, by assumption, ⟨dE, dT, dG, by assumption⟩, ⟨rfl, rfl, rfl⟩, hPn, hRR _ hHR, fun p hp => hRR _ (hNR p hp), ⟨r5, r4, r3, r2⟩, e5, e4, e3, e2⟩
      · k_steps
        rw [p1, if_neg (by simp [hb])]
        exact Nx.intro ⟨oE, oT, oG, _, D, vs, n, R, _, _, _, by assumption, by assumption, ⟨dE, dT, dG, by assumption⟩, ⟨rfl, rfl, rfl⟩, hPR, hHR, hNR, ⟨hR5, hR4, hR3, hR2⟩, hD5, hD4, hD3, hD2⟩
    -- the signs that go
    rename Fr _ _ _ _ => Fx
    rename News _ _ _ _ => Nx9
    clear Fx Nx9 hR5 hR4 hR3 hR2 hHR hNR hPR hD2 hD3 hD4 hD5 dE dT dG
    have hps1 : (p1 f ps0).length ≤ 8 := by rw [p1_len]; exact hps0
    have hpc1 : ∀ p ∈ p1 f ps0, p.1 < 256 := p1_lt hpc0
    generalize p1 f ps0 = ps1 at hps1 hpc1 hret
    clear hps0 hpc0
    rintro _ _ ⟨rfl, h5, tk5, rfl, oE, oT, oG, oP, D, vs, n, R, _, _, _, F5, N5, ⟨dE, dT, dG, dP⟩, ⟨rfl, rfl, rfl⟩, hPR, hHR, hNR, ⟨hR5, hR4, hR3, hR2⟩, hD5, hD4, hD3, hD2⟩
    k_unfold
    dsimp only
    walk1
    k_fold
    refine wpAny_mono (Q := Nx (SSt f (tx l) t g' L' D6 news (cGone f) cNo cNo ps1) s) ?st2 ?_ (fun _ _ h => h)
    case st2 =>
      k_steps
      all_goals (
        rename (bt f 1 = _) => g1
        rename (bt f 2 = _) => g2
        refine Nx.intro ⟨oE, oT, _, oP, D, vs, n, R, _, _, _, by assumption, by assumption, ⟨dE, dT, by assumption, dP⟩, ⟨rfl, rfl, ⟨_, congrArg (fun z => some (Value.str z _)) ?_⟩⟩, hPR, hHR, hNR, ⟨hR5, hR4, hR3, hR2⟩, hD5, hD4, hD3, hD2⟩
        simp only [goneS, g1, g2]
        decide +kernel)
    -- signs go
    rename Fr _ _ _ _ => Fx
    rename News _ _ _ _ => Nx9
    clear Fx Nx9 hR5 hR4 hR3 hR2 hHR hNR hPR hD2 hD3 hD4 hD5 dE dT dG dP
    rintro _ _ ⟨rfl, h5, tk5, rfl, oE, oT, oG, oP, D, vs, n, R, _, _, _, F5, N5, ⟨dE, dT, dG, dP⟩, ⟨rfl, rfl, ⟨tg, rfl⟩⟩, hPR, hHR, hNR, ⟨hR5, hR4, hR3, hR2⟩, hD5, hD4, hD3, hD2⟩
    k_unfold
    dsimp only
    walk1
    k_fold
    refine wpAny_mono (Q := Nx (SSt f (tx l) t g' L' D6 news (cGone f) cNo cNo (p2 f ps1)) s) ?st3 ?_ (fun _ _ h => h)
    case st3 =>
      refine wpAny_Assign_Name ?_ (by with_unfolding_all rfl)
      refine ListComp_PT (FU₀ := by k_asm) (by with_unfolding_all rfl) (by decide) (by rfl) (by decide) (by rfl) (by rfl) (by decide) ?_
      tb_rel
      rename Fr _ _ _ _ => F9
      rename News _ _ _ _ => N9
      have hvl := hPR.length
      generalize hbs : (L' + 1 + 1 + 1 + 1 + 1, oE) :: _ = base9 at N9
      refine ⟨D, vs, n, base9, fun i ys nw => ∃ own2, nw = own2 ++ base9 ∧ PIn own2 ys (p2 f (ps1.take i)) ∧ (∀ p ∈ own2, ∀ q ∈ base9, @LT.lt Nat _ q.1 p.1), fun i x y => ∃ c tT k, ps1[i]? = some (c, k) ∧ x = .str (tx [c]) tT ∧ y = .bool k, rfl, rfl, F9, N9, by omega, ?hJl, ?hT, ?step, ?j0, ?fin⟩
      case hJl =>
        rintro i ys nw ⟨own2, rfl, _⟩
        exact List.mem_append_right _ (by rw [← hbs]; k_mem)
      case hT =>
        rintro j i ys nw v ⟨own2, rfl, _⟩ hv
        obtain ⟨T, c, tT, k, nT, rfl, hmT, hpi⟩ := hPR.get hv
        exact ⟨T, _, _, nT, rfl, List.mem_append_right _ (by rw [← hbs]; k_mem), c, tT, k, hpi, rfl, rfl⟩
      case j0 => exact ⟨[], rfl, .nil, fun _ h => nomatch h⟩
      case step =>
        rintro i ys nw IO oC C D2 m₂ h tk E' x y hi ⟨own2, rfl, hP2, hO2⟩ ⟨c, tT, k, hpi, rfl, rfl⟩ hC' hx5 hx6 F6 N6 off hw hCD
        generalize hW : IO ++ (C, oC) :: (D2, LCg.lst ys) :: (own2 ++ base9) = W at N6
        have hmC : (C, oC) ∈ W := by rw [← hW]; simp
        have hmG : (L' + 1 + 1 + 1, oG) ∈ W := by rw [← hW, ← hbs]; simp
        cases k
        · k_steps
          · rename ((Builtin.Str.occurrences _ _ _ _ _).isEmpty = true) => ho
            rw [occ_gone] at ho
            rename Fr _ _ _ _ => FA
            rename News _ _ _ _ => NA
            rename Addr => T9
            exact gend_yes FA NA hW (by assumption) off hP2 hO2 (by rw [p2_snoc hpi, if_pos (by simpa using ho)])
          · rename ((Builtin.Str.occurrences _ _ _ _ _).isEmpty = false) => ho
            rw [occ_gone] at ho
            exact gend_no F6 N6 hW off hP2 hO2 (by rw [p2_snoc hpi, if_neg (by simpa using ho), List.append_nil])
        · k_steps
          rename Fr _ _ _ _ => FA
          rename News _ _ _ _ => NA
          rename Addr => T9
          exact gend_yes FA NA hW (by assumption) off hP2 hO2 (by rw [p2_snoc hpi, if_pos (by simp)])
      case fin =>
        rintro ys nw ⟨own2, rfl, hP2, hO2⟩ D6' h8 tk8 F8 N8 off8
        subst hbs
        obtain ⟨N9, ⟨r5, r4, r3, r2⟩, e5, e4, e3, e2⟩ := rearr N8 (off1_of off8) hO2 hR5 hR4 hR3 hR2 hD5 hD4 hD3 hD2
        have hPn : PIn (own2 ++ (D, listOf vs.toArray n) :: R) ys (p2 f ps1) := by
          rw [hvl, List.take_length] at hP2
          exact hP2.mono (fun p hp => List.mem_append_left _ hp)
        have hRR : ∀ p ∈ R, p ∈ own2 ++ (D, listOf vs.toArray n) :: R := fun p hp => by simp [hp]
        clear N8 off8 hP2 hO2
        generalize own2 ++ (D, listOf vs.toArray n) :: R = R2 at *
        tb_rel
        exact Nx.intro ⟨oE, oT, oG, _, D6', ys, ys.length, R2, _, _, _, by assumption, by assumption, ⟨dE, dT, dG, by assumption⟩, ⟨rfl, rfl, ⟨tg, rfl⟩⟩, hPn, hRR _ hHR, fun p hp => hRR _ (hNR p hp), ⟨r5, r4, r3, r2⟩, e5, e4, e3, e2⟩
    -- the turns
    rename Fr _ _ _ _ => Fx
    rename News _ _ _ _ => Nx9
    clear Fx Nx9 hR5 hR4 hR3 hR2 hHR hNR hPR hD2 hD3 hD4 hD5 dE dT dG dP
    have hps2 : (p2 f ps1).length ≤ 8 := Nat.le_trans (p2_len f ps1) hps1
    have hpc2 : ∀ p ∈ p2 f ps1, p.1 < 256 := p2_lt hpc1
    generalize p2 f ps1 = ps2 at hps2 hpc2 hret
    clear hps1 hpc1
    rintro _ _ ⟨rfl, h5, tk5, rfl, oE, oT, oG, oP, D, vs, n, R, _, _, _, F5, N5, ⟨dE, dT, dG, dP⟩, ⟨rfl, rfl, ⟨tg, rfl⟩⟩, hPR, hHR, hNR, ⟨hR5, hR4, hR3, hR2⟩, hD5, hD4, hD3, hD2⟩
    k_unfold
    dsimp only
    walk1
    k_fold
    refine wpAny_mono (Q := Nx (SSd w f (tx l) t g' L' D6 news (tD0 f) ps2) s) ?st4 ?_ (fun _ _ h => h)
    case st4 =>
      k_steps
      all_goals (
        rename (bt f 5 = _) => g5
        rename Fr _ _ _ _ => FA
        rename News _ _ _ _ => NA
        rename (L' + 1 + 1 + 1 + 1 + 1 < _ ∧ _) => lM
        refine Nx.intro ⟨oE, _, oG, oP, _, _, D, vs, n, R, tg, _, FA, NA, ⟨dE, by assumption, dG, dP⟩, ⟨by assumption, ?_, by assumption⟩, hPR, hHR, hNR, ⟨hR5, hR4, hR3, hR2⟩, ⟨hD5, hD4, hD3, hD2⟩, Ne.symm (Nat.ne_of_lt lM.1), Ne.symm (Nat.ne_of_lt lM.2.1), Ne.symm (Nat.ne_of_lt lM.2.2.1), Ne.symm (Nat.ne_of_lt lM.2.2.2.1), Nat.ne_of_lt lM.2.2.2.2.1, allLt_ne (Nat.le_refl _) lM.2.2.2.2.2⟩
        simp only [tD0, g5, if_true, Bool.false_eq_true, if_false]
        assumption)
    -- brackets
    rename Fr _ _ _ _ => Fx
    rename News _ _ _ _ => Nx9
    clear Fx Nx9 hR5 hR4 hR3 hR2 hHR hNR hPR hD2 hD3 hD4 hD5 dE dT dG dP
    rintro _ _ ⟨rfl, h5, tk5, rfl, oE, oT, oG, oP, oM, M, D, vs, n, R, tg, kvs, F5, N5, ⟨dE, dT, dG, dP⟩, ⟨hMd, hMf, hMs⟩, hPR, hHR, hNR, ⟨hR5, hR4, hR3, hR2⟩, ⟨hD5, hD4, hD3, hD2⟩, hM5, hM4, hM3, hM2, hDM, hRM⟩
    k_unfold
    have hl3 := tD0_len f
    dsimp only
    walk1
    k_fold
    refine wpAny_mono (Q := Nx (SSd w f (tx l) t g' L' D6 news (tD1 f) ps2) s) ?st5 ?_ (fun _ _ h => h)
    case st5 =>
      k_steps
      · rename (bt f 6 = true) => g6
        rename Fr _ _ _ _ => FA
        rename News _ _ _ _ => NA
        rename (PyProof.V.FlatPairs _ _ _) => fA
        refine Nx.intro ⟨oE, oT, oG, oP, _, M, D, vs, n, R, tg, _, FA, cb_drop NA (fun p hp => List.Mem.tail _ hp), ⟨dE, dT, dG, dP⟩, ⟨by assumption, ?_, hMs⟩, hPR, hHR, hNR, ⟨hR5, hR4, hR3, hR2⟩, ⟨hD5, hD4, hD3, hD2⟩, hM5, hM4, hM3, hM2, hDM, hRM⟩
        simp only [tD1, g6, if_true]
        exact fA
      · rename (bt f 6 = false) => g6
        refine Nx.intro ⟨oE, oT, oG, oP, oM, M, D, vs, n, R, tg, kvs, F5, N5, ⟨dE, dT, dG, dP⟩, ⟨hMd, ?_, hMs⟩, hPR, hHR, hNR, ⟨hR5, hR4, hR3, hR2⟩, ⟨hD5, hD4, hD3, hD2⟩, hM5, hM4, hM3, hM2, hDM, hRM⟩
        simp only [tD1, g6, Bool.false_eq_true, if_false]
        exact hMf
    -- the tab
    rename Fr _ _ _ _ => Fx
    rename News _ _ _ _ => Nx9
    clear Fx Nx9 hR5 hR4 hR3 hR2 hHR hNR hPR hD2 hD3 hD4 hD5 dE dT dG dP hMd hMf hMs hM5 hM4 hM3 hM2 hDM hRM hl3
    rintro _ _ ⟨rfl, h5, tk5, rfl, oE, oT, oG, oP, oM, M, D, vs, n, R, tg, kvs, F5, N5, ⟨dE, dT, dG, dP⟩, ⟨hMd, hMf, hMs⟩, hPR, hHR, hNR, ⟨hR5, hR4, hR3, hR2⟩, ⟨hD5, hD4, hD3, hD2⟩, hM5, hM4, hM3, hM2, hDM, hRM⟩
    k_unfold
    have hl3 := tD1_len f
    dsimp only
    walk1
    k_fold
    refine wpAny_mono (Q := Nx (SSd w f (tx l) t g' L' D6 news (tD2 f) ps2) s) ?st6 ?_ (fun _ _ h => h)
    case st6 =>
      k_steps
      · rename (bt f 4 = true) => g6
        rename Fr _ _ _ _ => FA
        rename News _ _ _ _ => NA
        rename (PyProof.V.FlatPairs _ _ _) => fA
        refine Nx.intro ⟨oE, oT, oG, oP, _, M, D, vs, n, R, tg, _, FA, NA, ⟨dE, dT, dG, dP⟩, ⟨by assumption, ?_, hMs⟩, hPR, hHR, hNR, ⟨hR5, hR4, hR3, hR2⟩, ⟨hD5, hD4, hD3, hD2⟩, hM5, hM4, hM3, hM2, hDM, hRM⟩
        simp only [tD2, g6, if_true]
        exact fA
      · rename (bt f 4 = false) => g6
        refine Nx.intro ⟨oE, oT, oG, oP, oM, M, D, vs, n, R, tg, kvs, F5, N5, ⟨dE, dT, dG, dP⟩, ⟨hMd, ?_, hMs⟩, hPR, hHR, hNR, ⟨hR5, hR4, hR3, hR2⟩, ⟨hD5, hD4, hD3, hD2⟩, hM5, hM4, hM3, hM2, hDM, hRM⟩
        simp only [tD2, g6, Bool.false_eq_true, if_false]
        exact hMf
    -- signs turn
    rename Fr _ _ _ _ => Fx
    rename News _ _ _ _ => Nx9
    clear Fx Nx9 hR5 hR4 hR3 hR2 hHR hNR hPR hD2 hD3 hD4 hD5 dE dT dG dP hMd hMf hMs hM5 hM4 hM3 hM2 hDM hRM hl3
    rintro _ _ ⟨rfl, h5, tk5, rfl, oE, oT, oG, oP, oM, M, D, vs, n, R, tg, kvs, F5, N5, ⟨dE, dT, dG, dP⟩, ⟨hMd, hMf, hMs⟩, hPR, hHR, hNR, ⟨hR5, hR4, hR3, hR2⟩, ⟨hD5, hD4, hD3, hD2⟩, hM5, hM4, hM3, hM2, hDM, hRM⟩
    k_unfold
    dsimp only
    walk1
    k_fold
    refine wpAny_mono (Q := Nx (SSt f (tx l) t g' L' D6 news cAny cAny cNo (p3 f ps2)) s) ?st7 ?_ (fun _ _ h => h)
    case st7 =>
      refine wpAny_Assign_Name ?_ (by with_unfolding_all rfl)
      refine LCp.ListComp_P (F₀ := by k_asm) (by with_unfolding_all rfl) (by decide) (by rfl) (by decide) (by rfl) (by rfl) (by decide) ?_
      tb_rel
      rename Fr _ _ _ _ => F9
      rename News _ _ _ _ => N9
      have hvl := hPR.length
      generalize hbs : (M, oM) :: (L' + 1 + 1 + 1 + 1 + 1, oE) :: _ = base9 at N9
      refine LCp.SrcLP.ledger (its := vs.toArray) (k := n) rfl F9 N9 (by rw [← hbs]; k_mem) (by rw [List.size_toArray, sizeLine_eq]; omega) ?_
      intro g6
      refine comp_indP (fun i ys nw => ∃ own2, nw = own2 ++ base9 ∧ PIn own2 ys (p3 f (ps2.take i)) ∧ (∀ p ∈ own2, ∀ q ∈ base9, @LT.lt Nat _ q.1 p.1)) ?step ?fin ?j0
      case j0 => exact ⟨[], rfl, .nil, fun _ h => nomatch h⟩
      case step =>
        rintro i ys nw hi ⟨own2, rfl, hP2, hO2⟩ v hv
        obtain ⟨T, c, tT, k, nT, rfl, hmT, hpi⟩ := hPR.get (i := i) (by simpa using hv)
        refine ⟨T, tupP c tT k nT, _, _, nT, rfl, ?_, rfl, rfl, ?_⟩
        · exact List.mem_append_right _ (by rw [← hbs]; k_mem)
        intro I oI C oC D2 m₂ h tk E' hC' hx5 hx6 F6 N6 off ne
        have hmM : (M, oM) ∈ own2 ++ base9 := List.mem_append_right _ (by rw [← hbs]; k_mem)
        have hmT2 : (L' + 1 + 1 + 1 + 1, oT) ∈ own2 ++ base9 := List.mem_append_right _ (by rw [← hbs]; k_mem)
        cases k
        · k_steps
          rename Fr _ _ _ _ => FA
          rename News _ _ _ _ => NA
          rename Addr => T9
          rename (@LT.lt Nat _ I T9 ∧ _) => l9
          exact pcomp_end FA NA l9 off hP2 hO2 (by rw [← hbs]; k_mem) (take_map_snoc _ hpi)
        · k_steps
          rename Fr _ _ _ _ => FA
          rename News _ _ _ _ => NA
          rename Addr => T9
          rename (@LT.lt Nat _ I T9 ∧ _) => l9
          exact pcomp_end FA NA l9 off hP2 hO2 (by rw [← hbs]; k_mem) (take_map_snoc _ hpi)
      case fin =>
        rintro ys nw ⟨own2, rfl, hP2, hO2⟩
        unfold LCg.FinE
        intro D6' h8 tk8 F8 N8 off8
        subst hbs
        have sub7 : ∀ p ∈ own2 ++ ((L' + 1 + 1 + 1 + 1 + 1, oE) :: (L' + 1 + 1 + 1 + 1, oT) :: (L' + 1 + 1 + 1, oG) :: (L' + 1 + 1, oP) :: (D, listOf vs.toArray n) :: R), p ∈ own2 ++ ((M, oM) :: (L' + 1 + 1 + 1 + 1 + 1, oE) :: (L' + 1 + 1 + 1 + 1, oT) :: (L' + 1 + 1 + 1, oG) :: (L' + 1 + 1, oP) :: (D, listOf vs.toArray n) :: R) := by
          intro p hp
          rcases List.mem_append.mp hp with hp | hp
          · exact List.mem_append_left _ hp
          · exact List.mem_append_right _ (List.Mem.tail _ hp)
        obtain ⟨N9, ⟨r5, r4, r3, r2⟩, e5, e4, e3, e2⟩ := rearr (cb_drop N8 (fun p hp => by
          rcases List.mem_cons.mp hp with rfl | hp
          · exact List.Mem.head _
          · exact List.Mem.tail _ (sub7 p hp))) (off1_of (fun p hp => off1_mem off8 p (sub7 p hp))) (fun p hp q hq => hO2 p hp q (List.Mem.tail _ hq)) hR5 hR4 hR3 hR2 hD5 hD4 hD3 hD2
        have hPn : PIn (own2 ++ (D, listOf vs.toArray n) :: R) ys (p3 f ps2) := by
          rw [show vs.toArray.size = ps2.length by rw [List.size_toArray, hvl], List.take_length] at hP2
          exact hP2.mono (fun p hp => List.mem_append_left _ hp)
        have hRR : ∀ p ∈ R, p ∈ own2 ++ (D, listOf vs.toArray n) :: R := fun p hp => by simp [hp]
        clear N8 off8 hP2 hO2 sub7
        generalize own2 ++ (D, listOf vs.toArray n) :: R = R9 at *
        tb_rel
        exact Nx.intro ⟨oE, oT, oG, _, D6', ys, ys.length, R9, _, _, _, by assumption, by assumption, ⟨dE, dT, dG, by assumption⟩, ⟨rfl, trivial, trivial⟩, hPn, hRR _ hHR, fun p hp => hRR _ (hNR p hp), ⟨r5, r4, r3, r2⟩, e5, e4, e3, e2⟩
    -- many blanks are one
    rename Fr _ _ _ _ => Fx
    rename News _ _ _ _ => Nx9
    clear Fx Nx9 hR5 hR4 hR3 hR2 hHR hNR hPR hD2 hD3 hD4 hD5 dE dT dG dP hMd hMf hMs hM5 hM4 hM3 hM2 hDM hRM
    have hps3 : (p3 f ps2).length ≤ 8 := by rw [p3_len]; exact hps2
    have hpc3 : ∀ p ∈ p3 f ps2, p.1 < 256 := p3_lt hpc2
    generalize p3 f ps2 = ps3 at hps3 hpc3 hret
    clear hps2 hpc2
    rintro _ _ ⟨rfl, h5, tk5, rfl, oE, oT, oG, oP, D, vs, n, R, _, vT, vG, F5, N5, ⟨dE, dT, dG, dP⟩, ⟨rfl, _, _⟩, hPR, hHR, hNR, ⟨hR5, hR4, hR3, hR2⟩, hD5, hD4, hD3, hD2⟩
    k_unfold
    dsimp only
    walk1
    k_fold
    refine wpAny_mono (Q := Nx (SSt f (tx l) t g' L' D6 news cAny cAny cAny (p4 f ps3)) s) ?st8 ?_ (fun _ _ h => h)
    case st8 =>
      walk1
      (try dsimp only)
      rcases Bool.eq_false_or_eq_true (bt f 4) with hb | hb
      · tb_rel
        rename (L' + 1 + 1 + 1 + 1 + 1 < _ ∧ _) => lZ
        rename News _ _ _ _ => N6
        rw [str_sp] at N6
        refine wpAny_Assign_Name ?_ (by with_unfolding_all rfl)
        refine ListComp_En (FU₀ := by k_asm) (by with_unfolding_all rfl) (by decide) (by rfl) (by decide) (by rfl) (by rfl) (by decide) ?_
        tb_rel
        rename Fr _ _ _ _ => F6
        rename Addr => Z
        rename (_ = Data.cell (some (Value.ref Z))) => dE'
        have hvl := hPR.length
        refine call_enumerate_list ⟨_, (N6 (D, listOf vs.toArray n) (by simp)).1, rfl, n, rfl⟩ fun h7 hE hI hsz hk => ?_
        have hDlt : D < _ := Heap.lt_size (N6 (D, listOf vs.toArray n) (by simp)).1
        have hLlt := F6.ns.lt
        have F7 := F6.keeps hk
        have N7 := N6.grown hk
        have hnw := news_lt N6
        generalize hbs : (Z, _) :: (L' + 1 + 1 + 1 + 1 + 1, _) :: _ = base9 at N7 hnw
        refine ⟨_, _, D, vs, n, base9, fun i ys nw => nw = base9 ∧ PIn R ys (coll none (ps3.take i)), rfl, rfl, F7, N7, by omega, Nat.succ_ne_self _, ktu_ne 1 hDlt, Nat.ne_of_lt hDlt, ktu_ne 1 hLlt, Nat.ne_of_lt hLlt, ktu_new F6 (Nat.le_add_right _ _), ktu_new F6 (Nat.le_refl _), fun p hp => ⟨ktu_ne 1 (hnw p hp), Nat.ne_of_lt (hnw p hp)⟩, hE, hI, ?hJl, ?step, ?j0, ?fin⟩
        case hJl =>
          rintro i ys nw ⟨rfl, _⟩
          rw [← hbs]; k_mem
        case j0 => exact ⟨rfl, .nil⟩
        case step =>
          rintro i ys nw IO oC C D2 m₂ h tk E' x y hi ⟨rfl, hP2⟩ ⟨ti, rfl, hvi⟩ hC' hx5 hx6 F8 N8 off hw hCD
          obtain ⟨T, c, tT, k, nT, rfl, hmT, hpi⟩ := hPR.get hvi
          generalize hW : IO ++ (C, oC) :: (D2, LCg.lst ys) :: _ = W at N8
          have hmC : (C, oC) ∈ W := by rw [← hW]; simp
          have hsub : ∀ p ∈ nw, p ∈ W := fun p hp => by rw [← hW]; simp [hp]
          have hmE := hsub (L' + 1 + 1 + 1 + 1 + 1, _) (by rw [← hbs]; exact List.Mem.tail _ (List.Mem.head _))
          have hmP := hsub (L' + 1 + 1, oP) (by rw [← hbs]; simp)
          have hmD := hsub (D, listOf vs.toArray n) (by rw [← hbs]; simp)
          have hmR : ∀ p ∈ R, p ∈ W := fun p hp => hsub p (by rw [← hbs]; simp [hp])
          have hmZ : (Z, tupP 32 _ false 0) ∈ W := hsub _ (by rw [← hbs]; exact List.Mem.head _)
          have hmT' := hmR _ hmT
          have hc256 := hpc3 _ (List.mem_of_getElem? hpi)
          dsimp only at hc256
          have ec := coll_take hpi
          rcases i with _ | i
          · k_steps
            all_goals exact gend_same (by assumption) (by assumption) hW off ⟨rfl, by rw [ec, if_neg (fun h => h.2.1 rfl)]; exact PIn.append hP2 (.one hmT)⟩
          · have hv2 : vs[i]? = some (vs[i]'(by omega)) := List.getElem?_eq_getElem (by omega)
            obtain ⟨T2, c2, tT2, k2, nT2, ev2, hmT2, hpi2⟩ := hPR.get hv2
            rw [ev2] at hv2
            have hmT2' := hmR _ hmT2
            have hc2 := hpc3 _ (List.mem_of_getElem? hpi2)
            dsimp only at hc2
            have e11 : i + 1 - 1 = i := rfl
            rw [e11, hpi2] at ec
            k_steps
            · rename (((i + 1 : Nat) : Int) = 0) => h0'
              exact absurd h0' (by omega)
            · rename ((c2, k2) = _) => h2'
              rename ((c, k) = _) => h1'
              exact gend_same (by assumption) (by assumption) hW off ⟨rfl, by rw [ec, if_pos ⟨h1', by omega, congrArg some h2'⟩, List.append_nil]; exact hP2⟩
            · rename (¬ ((c2, k2) = _)) => h2'
              exact gend_same (by assumption) (by assumption) hW off ⟨rfl, by rw [ec, if_neg (fun h => h2' (Option.some.inj h.2.2))]; exact PIn.append hP2 (.one hmT)⟩
            · rename (¬ ((c, k) = _)) => h1'
              exact gend_same (by assumption) (by assumption) hW off ⟨rfl, by rw [ec, if_neg (fun h => h1' h.1)]; exact PIn.append hP2 (.one hmT)⟩
        case fin =>
          rintro ys nw ⟨rfl, hP2⟩ D6' h8 tk8 F8 N8 off8
          subst hbs
          have hDE := fun p (hp : p ∈ R) => off8 p (by simp [hp])
          obtain ⟨N9, ⟨r5, r4, r3, r2⟩, e5, e4, e3, e2⟩ := rearr (own2 := []) (cb_drop N8 (fun p hp => by
            rcases List.mem_cons.mp hp with rfl | hp
            · exact List.Mem.head _
            · exact List.Mem.tail _ (List.Mem.tail _ hp))) (off1_of (fun p hp => off8 p (List.Mem.tail _ hp))) (fun _ h => nomatch h) hR5 hR4 hR3 hR2 hD5 hD4 hD3 hD2
          rw [hvl, List.take_length] at hP2
          have hPn : PIn ((D, listOf vs.toArray n) :: R) ys (p4 f ps3) := by
            rw [p4, if_pos hb]
            exact hP2.mono (fun p hp => List.Mem.tail _ hp)
          have hRR : ∀ p ∈ R, p ∈ (D, listOf vs.toArray n) :: R := fun p hp => List.Mem.tail _ hp
          rw [List.nil_append] at N9 r5 r4 r3 r2
          clear N8 off8 hP2
          generalize (D, listOf vs.toArray n) :: R = R9 at *
          tb_rel
          exact Nx.intro ⟨_, oT, oG, _, D6', ys, ys.length, R9, _, _, _, by assumption, by assumption, ⟨by assumption, dT, dG, by assumption⟩, ⟨trivial, trivial, trivial⟩, hPn, hRR _ hHR, fun p hp => hRR _ (hNR p hp), ⟨r5, r4, r3, r2⟩, e5, e4, e3, e2⟩
      · k_steps
        rw [p4, if_neg (by simp [hb])]
        exact Nx.intro ⟨oE, oT, oG, _, D, vs, n, R, _, _, _, by assumption, by assumption, ⟨dE, dT, dG, by assumption⟩, ⟨trivial, trivial, trivial⟩, hPR, hHR, hNR, ⟨hR5, hR4, hR3, hR2⟩, hD5, hD4, hD3, hD2⟩
    -- blanks at the head
    rename Fr _ _ _ _ => Fx
    rename News _ _ _ _ => Nx9
    clear Fx Nx9 hR5 hR4 hR3 hR2 hHR hNR hPR hD2 hD3 hD4 hD5 dE dT dG dP
    have hps4 : (p4 f ps3).length ≤ 8 := Nat.le_trans (p4_len f ps3) hps3
    have hpc4 : ∀ p ∈ p4 f ps3, p.1 < 256 := p4_lt hpc3
    generalize p4 f ps3 = ps4 at hps4 hpc4 hret
    clear hps3 hpc3
    rintro _ _ ⟨rfl, h5, tk5, rfl, oE, oT, oG, oP, D, vs, n, R, vE, vT, vG, F5, N5, ⟨dE, dT, dG, dP⟩, _, hPR, hHR, hNR, ⟨hR5, hR4, hR3, hR2⟩, hD5, hD4, hD3, hD2⟩
    k_unfold
    dsimp only
    walk1
    k_fold
    refine wpAny_mono (Q := Nx (SSt f (tx l) t g' L' D6 news cAny cAny cAny (p5 f ps4)) s) ?st9 ?_ (fun _ _ h => h)
    case st9 =>
      refine While_inv (WJ f (tx l) t L' D6 news (fun ps => p5 f ps = p5 f ps4)) F5 N5 ⟨oE, oT, oG, oP, D, vs, n, R, vE, vT, vG, ps4, rfl, rfl, ⟨dE, dT, dG, dP⟩, hPR, hHR, hNR, ⟨hR5, hR4, hR3, hR2⟩, ⟨hD5, hD4, hD3, hD2⟩, rfl, hps4, hpc4, rfl⟩ ?_
      clear hR5 hR4 hR3 hR2 hHR hNR hPR hD2 hD3 hD4 hD5 dE dT dG dP F5 N5
      rintro n9 m9 nw9 h6 tk6 F6 N6 ⟨oE, oT, oG, oP, D, vs, n, R, vE, vT, vG, ps, rfl, rfl, ⟨dE, dT, dG, dP⟩, hPR, hHR, hNR, ⟨hR5, hR4, hR3, hR2⟩, ⟨hD5, hD4, hD3, hD2⟩, rfl, hl8, hc8, hp5⟩
      dsimp only
      rcases Bool.eq_false_or_eq_true (bt f 3) with hb | hb
      · cases hPR with
        | nil =>
          iterate 17 (first | (k_unfold; (try dsimp only)) | walk1 | (dsimp only; walk1))
          rename Fr _ _ _ _ => FA
          rename News _ _ _ _ => NA
          refine Nx.intro ⟨oE, oT, oG, oP, D, _, n, R, vE, vT, vG, FA, (cb_drop NA (fun p hp => List.Mem.tail _ hp)), ⟨dE, dT, dG, dP⟩, ⟨trivial, trivial, trivial⟩, ?_, hHR, hNR, ⟨hR5, hR4, hR3, hR2⟩, hD5, hD4, hD3, hD2⟩
          rw [← hp5, p5_on hb]
          exact .nil
        | @cons T c tT k nT vs ps hmT hPR =>
          have hc256 : c < 256 := hc8 (c, k) (List.Mem.head _)
          iterate 22 (first | (k_unfold; (try dsimp only)) | walk1 | (dsimp only; walk1))
          dsimp only
          refine item0_news (by assumption) (by k_mem) ?_
          iterate 19 (first | (k_unfold; (try dsimp only)) | walk1 | (dsimp only; walk1))
          rename Fr _ _ _ _ => FA
          rename News _ _ _ _ => NA
          dsimp only at NA ⊢
          with_reducible refine' in_bl ?hN ?ha ?hb ?h1 ?h2 ?hc ?hu ?_
          case hN => exact NA
          case ha => exact List.Mem.tail _ (List.Mem.tail _ (List.Mem.tail _ (List.Mem.tail _ (List.Mem.tail _ (List.Mem.tail _ (List.Mem.tail _ (List.Mem.tail _ (List.Mem.tail _ hmT))))))))
          case hb => exact List.Mem.head _
          case h1 => exact List.Mem.tail _ (List.Mem.tail _ (List.Mem.head _))
          case h2 => exact List.Mem.tail _ (List.Mem.head _)
          case hc => exact hc256
          case hu => first | ke_room | ktr_units
          replace NA := cb_drop (news := (L' + 1 + 1 + 1 + 1 + 1, oE) :: (L' + 1 + 1 + 1 + 1, oT) :: (L' + 1 + 1 + 1, oG) :: (L' + 1 + 1, oP) :: (D, listOf (Value.ref T :: vs).toArray n) :: R) NA (fun p hp => List.Mem.tail _ (List.Mem.tail _ (List.Mem.tail _ (List.Mem.tail _ hp))))
          rcases Bool.eq_false_or_eq_true (blP (c, k)) with hbl | hbl
          · rw [hbl]
            iterate 14 (first | (k_unfold; (try dsimp only)) | walk1 | (dsimp only; walk1))
            dsimp only
            refine' kms_slice_lit (s := ⟨_, _, _, _, _⟩) (lo := some 1) (hi := none) (its := (Value.ref T :: vs).toArray) (zs := vs) ?hF ?hN ?hl ?hp ?hq ?he ?hK ?hs ?ht ?hz
            case hF => exact FA
            case hN => exact NA
            case hl => exact ⟨_, (NA (D, listOf (Value.ref T :: vs).toArray n) (by simp)).1, rfl, n, rfl⟩
            case hp => kmk_part
            case hq => kmk_part
            case he => exact pick_tail _ _
            case hs => with_unfolding_all rfl
            case ht => kmk_pure
            case hz => (have := hPR.length; rw [sizeLine_eq]; simp only [List.size_toArray, List.length_cons] at *; omega)
            intro D7 h7 F7 N7 hD7
            have e5 : @Ne Nat D7 (L' + 1 + 1 + 1 + 1 + 1) := Ne.symm (Nat.ne_of_lt (hD7 (L' + 1 + 1 + 1 + 1 + 1, oE) (by simp)))
            have e4 : @Ne Nat D7 (L' + 1 + 1 + 1 + 1) := Ne.symm (Nat.ne_of_lt (hD7 (L' + 1 + 1 + 1 + 1, oT) (by simp)))
            have e3 : @Ne Nat D7 (L' + 1 + 1 + 1) := Ne.symm (Nat.ne_of_lt (hD7 (L' + 1 + 1 + 1, oG) (by simp)))
            have e2 : @Ne Nat D7 (L' + 1 + 1) := Ne.symm (Nat.ne_of_lt (hD7 (L' + 1 + 1, oP) (by simp)))
            replace N7 := cb_drop (news := (L' + 1 + 1 + 1 + 1 + 1, oE) :: (L' + 1 + 1 + 1 + 1, oT) :: (L' + 1 + 1 + 1, oG) :: (L' + 1 + 1, oP) :: (D7, listOf vs.toArray 0) :: R) N7 (fun p hp => by
              simp only [List.mem_cons] at hp ⊢
              rcases hp with h | h | h | h | h | h <;> simp [h])
            clear hD7 FA NA
            iterate 3 (first | (k_unfold; (try dsimp only)) | walk1 | (dsimp only; walk1))
            rename Fr _ _ _ _ => F8
            rename News _ _ _ _ => N8
            rename (_ = Data.cell (some (Value.ref D7))) => d8
            refine WhileStep.intro (n' := ps.length) F8 N8 (Nat.lt_succ_self _) ⟨oE, oT, oG, _, D7, vs, 0, R, vE, vT, vG, ps, rfl, rfl, ⟨dE, dT, dG, d8⟩, hPR, hHR, hNR, ⟨hR5, hR4, hR3, hR2⟩, ⟨e5, e4, e3, e2⟩, rfl, Nat.le_of_succ_le hl8, fun p hp => hc8 p (List.Mem.tail _ hp), ?_⟩
            show p5 f ps = p5 f ps4
            rw [← hp5, p5_on hb, p5_on hb, List.dropWhile_cons, if_pos hbl]
          · rw [hbl]
            iterate 3 (first | (k_unfold; (try dsimp only)) | walk1 | (dsimp only; walk1))
            refine Nx.intro ⟨oE, oT, oG, oP, D, _, n, R, vE, vT, vG, FA, NA, ⟨dE, dT, dG, dP⟩, ⟨trivial, trivial, trivial⟩, ?_, hHR, hNR, ⟨hR5, hR4, hR3, hR2⟩, hD5, hD4, hD3, hD2⟩
            rw [← hp5, p5_on hb, List.dropWhile_cons, if_neg (by rw [hbl]; decide)]
            exact .cons hmT hPR
      · iterate 9 (first | (k_unfold; (try dsimp only)) | walk1 | (dsimp only; walk1))
        refine Nx.intro ⟨oE, oT, oG, oP, D, _, n, R, vE, vT, vG, F6, N6, ⟨dE, dT, dG, dP⟩, ⟨trivial, trivial, trivial⟩, ?_, hHR, hNR, ⟨hR5, hR4, hR3, hR2⟩, hD5, hD4, hD3, hD2⟩
        rw [← hp5, p5_off hb]
        exact hPR
    -- blanks at the end
    rename Fr _ _ _ _ => Fx
    rename News _ _ _ _ => Nx9
    clear Fx Nx9 hR5 hR4 hR3 hR2 hHR hNR hPR hD2 hD3 hD4 hD5 dE dT dG dP
    have hps5 : (p5 f ps4).length ≤ 8 := Nat.le_trans (p5_len f ps4) hps4
    have hpc5 : ∀ p ∈ p5 f ps4, p.1 < 256 := p5_lt hpc4
    generalize p5 f ps4 = ps5 at hps5 hpc5 hret
    clear hps4 hpc4
    rintro _ _ ⟨rfl, h5, tk5, rfl, oE, oT, oG, oP, D, vs, n, R, vE, vT, vG, F5, N5, ⟨dE, dT, dG, dP⟩, _, hPR, hHR, hNR, ⟨hR5, hR4, hR3, hR2⟩, hD5, hD4, hD3, hD2⟩
    k_unfold
    dsimp only
    walk1
    k_fold
    refine wpAny_mono (Q := Nx (SSt f (tx l) t g' L' D6 news cAny cAny cAny (p6 f ps5)) s) ?st10 ?_ (fun _ _ h => h)
    case st10 =>
      refine While_inv (WJ f (tx l) t L' D6 news (fun ps => p6 f ps = p6 f ps5)) F5 N5 ⟨oE, oT, oG, oP, D, vs, n, R, vE, vT, vG, ps5, rfl, rfl, ⟨dE, dT, dG, dP⟩, hPR, hHR, hNR, ⟨hR5, hR4, hR3, hR2⟩, ⟨hD5, hD4, hD3, hD2⟩, rfl, hps5, hpc5, rfl⟩ ?_
      clear hR5 hR4 hR3 hR2 hHR hNR hPR hD2 hD3 hD4 hD5 dE dT dG dP F5 N5
      rintro n9 m9 nw9 h6 tk6 F6 N6 ⟨oE, oT, oG, oP, D, vs, n, R, vE, vT, vG, ps, rfl, rfl, ⟨dE, dT, dG, dP⟩, hPR, hHR, hNR, ⟨hR5, hR4, hR3, hR2⟩, ⟨hD5, hD4, hD3, hD2⟩, rfl, hl8, hc8, hp6⟩
      dsimp only
      rcases Bool.eq_false_or_eq_true (bt f 7) with hb | hb
      · rcases hPR.snoc with ⟨rfl, rfl⟩ | ⟨vs, ps, T, c, tT, k, nT, rfl, rfl, hmT, hPR⟩
        ·
          iterate 17 (first | (k_unfold; (try dsimp only)) | walk1 | (dsimp only; walk1))
          rename Fr _ _ _ _ => FA
          rename News _ _ _ _ => NA
          refine Nx.intro ⟨oE, oT, oG, oP, D, _, n, R, vE, vT, vG, FA, (cb_drop NA (fun p hp => List.Mem.tail _ hp)), ⟨dE, dT, dG, dP⟩, ⟨trivial, trivial, trivial⟩, ?_, hHR, hNR, ⟨hR5, hR4, hR3, hR2⟩, hD5, hD4, hD3, hD2⟩
          rw [← hp6, p6_on hb]
          exact .nil
        · rename PIn R (_ ++ _) _ => hPR0
          clear hPR0
          have hc256 : c < 256 := hc8 (c, k) (by simp)
          iterate 24 (first | (k_unfold; (try dsimp only)) | walk1 | (dsimp only; walk1))
          dsimp only
          refine item_news_neg (by assumption) (by k_mem) (by decide) (neg1_le _ _) (by decide) (neg1_at _ _) ?_
          iterate 19 (first | (k_unfold; (try dsimp only)) | walk1 | (dsimp only; walk1))
          rename Fr _ _ _ _ => FA
          rename News _ _ _ _ => NA
          dsimp only at NA ⊢
          with_reducible refine' in_bl ?hNX ?haX ?hbX ?h1X ?h2X ?hcX ?huX ?_
          case hNX => exact NA
          case haX => exact List.Mem.tail _ (List.Mem.tail _ (List.Mem.tail _ (List.Mem.tail _ (List.Mem.tail _ (List.Mem.tail _ (List.Mem.tail _ (List.Mem.tail _ (List.Mem.tail _ hmT))))))))
          case hbX => exact List.Mem.head _
          case h1X => exact List.Mem.tail _ (List.Mem.tail _ (List.Mem.head _))
          case h2X => exact List.Mem.tail _ (List.Mem.head _)
          case hcX => exact hc256
          case huX => first | ke_room | ktr_units
          replace NA := cb_drop (news := (L' + 1 + 1 + 1 + 1 + 1, oE) :: (L' + 1 + 1 + 1 + 1, oT) :: (L' + 1 + 1 + 1, oG) :: (L' + 1 + 1, oP) :: (D, listOf (vs ++ [Value.ref T]).toArray n) :: R) NA (fun p hp => List.Mem.tail _ (List.Mem.tail _ (List.Mem.tail _ (List.Mem.tail _ hp))))
          rcases Bool.eq_false_or_eq_true (blP (c, k)) with hbl | hbl
          · rw [hbl]
            iterate 16 (first | (k_unfold; (try dsimp only)) | walk1 | (dsimp only; walk1))
            dsimp only
            refine' kms_slice_lit (s := ⟨_, _, _, _, _⟩) (lo := none) (hi := some (-1)) (its := (vs ++ [Value.ref T]).toArray) (zs := vs) ?hFX ?hNX ?hlX ?hpX ?hqX ?heX ?hKX ?hsX ?htX ?hzX
            case hFX => exact FA
            case hNX => exact NA
            case hlX => exact ⟨_, (NA (D, listOf (vs ++ [Value.ref T]).toArray n) (by simp)).1, rfl, n, rfl⟩
            case hpX => kmk_part
            case hqX => kmk_part
            case heX => exact pick_init _ _
            case hsX => with_unfolding_all rfl
            case htX => kmk_pure
            case hzX => (have := hPR.length; rw [sizeLine_eq]; simp only [List.size_toArray, List.length_append, List.length_cons, List.length_nil] at *; omega)
            intro D7 h7 F7 N7 hD7
            have e5 : @Ne Nat D7 (L' + 1 + 1 + 1 + 1 + 1) := Ne.symm (Nat.ne_of_lt (hD7 (L' + 1 + 1 + 1 + 1 + 1, oE) (by simp)))
            have e4 : @Ne Nat D7 (L' + 1 + 1 + 1 + 1) := Ne.symm (Nat.ne_of_lt (hD7 (L' + 1 + 1 + 1 + 1, oT) (by simp)))
            have e3 : @Ne Nat D7 (L' + 1 + 1 + 1) := Ne.symm (Nat.ne_of_lt (hD7 (L' + 1 + 1 + 1, oG) (by simp)))
            have e2 : @Ne Nat D7 (L' + 1 + 1) := Ne.symm (Nat.ne_of_lt (hD7 (L' + 1 + 1, oP) (by simp)))
            replace N7 := cb_drop (news := (L' + 1 + 1 + 1 + 1 + 1, oE) :: (L' + 1 + 1 + 1 + 1, oT) :: (L' + 1 + 1 + 1, oG) :: (L' + 1 + 1, oP) :: (D7, listOf vs.toArray 0) :: R) N7 (fun p hp => by
              simp only [List.mem_cons] at hp ⊢
              rcases hp with h | h | h | h | h | h <;> simp [h])
            clear hD7 FA NA
            iterate 3 (first | (k_unfold; (try dsimp only)) | walk1 | (dsimp only; walk1))
            rename Fr _ _ _ _ => F8
            rename News _ _ _ _ => N8
            rename (_ = Data.cell (some (Value.ref D7))) => d8
            refine WhileStep.intro (n' := ps.length) F8 N8 (by simp) ⟨oE, oT, oG, _, D7, vs, 0, R, vE, vT, vG, ps, rfl, rfl, ⟨dE, dT, dG, d8⟩, hPR, hHR, hNR, ⟨hR5, hR4, hR3, hR2⟩, ⟨e5, e4, e3, e2⟩, rfl, (by simp only [List.length_append, List.length_cons, List.length_nil] at hl8; omega), fun p hp => hc8 p (by simp [hp]), ?_⟩
            show p6 f ps = p6 f ps5
            rw [← hp6, p6_on hb, p6_on hb, rdw_snoc, if_pos hbl]
          · rw [hbl]
            iterate 3 (first | (k_unfold; (try dsimp only)) | walk1 | (dsimp only; walk1))
            refine Nx.intro ⟨oE, oT, oG, oP, D, _, n, R, vE, vT, vG, FA, NA, ⟨dE, dT, dG, dP⟩, ⟨trivial, trivial, trivial⟩, ?_, hHR, hNR, ⟨hR5, hR4, hR3, hR2⟩, hD5, hD4, hD3, hD2⟩
            rw [← hp6, p6_on hb, rdw_snoc, if_neg (by rw [hbl]; decide)]
            exact hPR.append (.one hmT)
      · iterate 9 (first | (k_unfold; (try dsimp only)) | walk1 | (dsimp only; walk1))
        refine Nx.intro ⟨oE, oT, oG, oP, D, _, n, R, vE, vT, vG, F6, N6, ⟨dE, dT, dG, dP⟩, ⟨trivial, trivial, trivial⟩, ?_, hHR, hNR, ⟨hR5, hR4, hR3, hR2⟩, hD5, hD4, hD3, hD2⟩
        rw [← hp6, p6_off hb]
        exact hPR
    -- the end
    rename Fr _ _ _ _ => Fx
    rename News _ _ _ _ => Nx9
    clear Fx Nx9 hR5 hR4 hR3 hR2 hHR hNR hPR hD2 hD3 hD4 hD5 dE dT dG dP
    have hps6 : (p6 f ps5).length ≤ 8 := Nat.le_trans (p6_len f ps5) hps5
    generalize p6 f ps5 = ps6 at hps6 hret
    clear hps5 hpc5
    rintro _ _ ⟨rfl, h5, tk5, rfl, oE, oT, oG, oP, D, vs, n, R, vE, vT, vG, F5, N5, ⟨dE, dT, dG, dP⟩, _, hPR, hHR, hNR, ⟨hR5, hR4, hR3, hR2⟩, hD5, hD4, hD3, hD2⟩
    k_unfold
    dsimp only
    tb_rel
    refine LCp.ListComp_P (F₀ := by k_asm) (by with_unfolding_all rfl) (by decide) (by rfl) (by decide) (by rfl) (by rfl) (by decide) ?_
    tb_rel
    rename Fr _ _ _ _ => F9
    rename News _ _ _ _ => N9
    have hvl := hPR.length
    generalize hbs : (L' + 1 + 1 + 1 + 1 + 1, oE) :: _ = base9 at N9
    refine LCp.SrcLP.ledger (its := vs.toArray) (k := n) rfl F9 N9 (by rw [← hbs]; k_mem) (by rw [List.size_toArray, sizeLine_eq]; omega) ?_
    intro g6
    refine comp_indP (fun i ys nw => nw = base9 ∧ StrsAre ys (signs1 ((ps6.take i).map (·.1)))) ?step ?fin ?j0
    case j0 => exact ⟨rfl, .nil⟩
    case step =>
      rintro i ys nw hi ⟨rfl, hS⟩ v hv
      obtain ⟨T, c, tT, k, nT, rfl, hmT, hpi⟩ := hPR.get (i := i) (by simpa using hv)
      refine ⟨T, tupP c tT k nT, _, _, nT, rfl, (by rw [← hbs]; k_mem), rfl, rfl, ?_⟩
      intro I oI C oC D2 m₂ h tk E' hC' hx5 hx6 F6 N6 off ne
      k_steps
      refine LCg.CompEnd.intro F6 N6 _ (fun _ h => h) (LCg.Off3.of off) (.inr ⟨_, (by rw [← hbs]; k_mem), rfl, n, rfl⟩) ⟨rfl, ?_⟩
      rw [take_map_snoc _ hpi]
      exact strs_add hS
    case fin =>
      rintro ys nw ⟨rfl, hS⟩
      unfold LCg.FinE
      intro D8 h8 tk8 F8 N8 off8
      rw [show vs.toArray.size = ps6.length by rw [List.size_toArray, hvl], List.take_length] at hS
      subst hbs
      k_steps
      exact RetS.go hret rfl (by assumption) (cb_drop (by assumption) (fun p hp => List.mem_cons_of_mem _ (List.mem_cons_of_mem _ (List.mem_cons_of_mem _ (List.mem_cons_of_mem _ (List.mem_cons_of_mem _ (List.mem_cons_of_mem _ (hNR p hp))))))))
end
end Mine
end
section
open PySem PySem.W PyProof.Rows
namespace Mine
set_option maxRecDepth 100000
theorem round_back {f d : Int} (h0 : 0 ≤ f) (h1 : 0 ≤ d) (h2 : d < 9) : (if 10 * f + d - 4 < 0 then - tenth (-(10 * f + d - 4)) else tenth (10 * f + d - 4)) = f := by
  unfold tenth
  split
  · split <;> omega
  · split <;> omega
def bareF (f : Int) : Int := f - (f.fdiv 8).fmod 2 * 8 - (f.fdiv 128).fmod 2 * 128
theorem bare_bits {f : Int} (h0 : 0 ≤ f) (h1 : f < 256) : 0 ≤ bareF f ∧ bareF f < 256 ∧ 0 ≤ bareF f + 136 ∧ bareF f + 136 < 256 ∧
    bt (bareF f + 136) 0 = bt (bareF f) 0 ∧ bt (bareF f + 136) 1 = bt (bareF f) 1 ∧ bt (bareF f + 136) 2 = bt (bareF f) 2 ∧ bt (bareF f + 136) 3 = true ∧ bt (bareF f) 3 = false ∧ bt (bareF f + 136) 4 = bt (bareF f) 4 ∧ bt (bareF f + 136) 5 = bt (bareF f) 5 ∧ bt (bareF f + 136) 6 = bt (bareF f) 6 ∧ bt (bareF f + 136) 7 = true ∧ bt (bareF f) 7 = false ∧ bt (bareF f + 136) 8 = false ∧ bt (bareF f) 8 = false := by
  obtain ⟨n, rfl⟩ := Int.eq_ofNat_of_zero_le h0
  have key : ∀ i : Fin 256, 0 ≤ bareF ((i.val : Nat) : Int) ∧ bareF ((i.val : Nat) : Int) < 256 ∧ 0 ≤ bareF ((i.val : Nat) : Int) + 136 ∧ bareF ((i.val : Nat) : Int) + 136 < 256 ∧
    bt (bareF ((i.val : Nat) : Int) + 136) 0 = bt (bareF ((i.val : Nat) : Int)) 0 ∧ bt (bareF ((i.val : Nat) : Int) + 136) 1 = bt (bareF ((i.val : Nat) : Int)) 1 ∧ bt (bareF ((i.val : Nat) : Int) + 136) 2 = bt (bareF ((i.val : Nat) : Int)) 2 ∧ bt (bareF ((i.val : Nat) : Int) + 136) 3 = true ∧ bt (bareF ((i.val : Nat) : Int)) 3 = false ∧ bt (bareF ((i.val : Nat) : Int) + 136) 4 = bt (bareF ((i.val : Nat) : Int)) 4 ∧ bt (bareF ((i.val : Nat) : Int) + 136) 5 = bt (bareF ((i.val : Nat) : Int)) 5 ∧ bt (bareF ((i.val : Nat) : Int) + 136) 6 = bt (bareF ((i.val : Nat) : Int)) 6 ∧ bt (bareF ((i.val : Nat) : Int) + 136) 7 = true ∧ bt (bareF ((i.val : Nat) : Int)) 7 = false ∧ bt (bareF ((i.val : Nat) : Int) + 136) 8 = false ∧ bt (bareF ((i.val : Nat) : Int)) 8 = false := by decide +kernel
  exact key ⟨n, by omega⟩
theorem law3 {f : Int} {l : List Nat} (h0 : 0 ≤ f) (h1 : f < 256) (hl : ∀ c ∈ l, c ∈ alph2) : ed (bareF f + 136) l = (rst (ed (bareF f) l)).dropWhile isBl := by
  obtain ⟨_, _, _, _, a0, a1, a2, a3, b3, a4, a5, a6, a7, b7, a8, b8⟩ := bare_bits h0 h1
  exact ed_bare hl a0 a1 a2 a3 b3 a4 a5 a6 a7 b7 a8 b8
theorem alph_2 {l : List Nat} (h : ∀ c ∈ l, c ∈ alph) : ∀ c ∈ l, c ∈ alph2 := fun c hc => (by decide : ∀ c ∈ alph, c ∈ alph2) c (h c hc)
theorem ed_len (f : Int) (l : List Nat) : (ed f l).length ≤ l.length := by
  have h := (run_len f l).1
  unfold ed
  have h2 := rst_len ((Ed.run f l).found.drop (Ed.run f l).kept)
  simp only [List.length_append, List.length_take]
  split
  · rw [List.length_drop] at h2; omega
  · rw [List.length_drop]; omega
theorem ed_small {f : Int} {l : List Nat} (hl : ∀ c ∈ l, c ∈ alph2) : ∀ c ∈ ed f l, c < 1114112 := by
  intro c hc
  rw [ed_staged hl] at hc
  exact (by decide : ∀ c ∈ alph2, c < 1114112) c (staged_alph hl c hc)
end Mine
end
section
open PySem PySem.W PyProof.Rows PyProof.V
namespace Mine
set_option maxRecDepth 100000
set_option maxHeartbeats 8000000
theorem putL_keys (name : Str) (hsh : Int) (t : Tok) (v : Value) : ∀ es : List DictEntry, es.any (·.refKey) = false → (putL name hsh (.str name t) v es).any (·.refKey) = false ∧ (putL name hsh (.str name t) v es).length ≤ es.length + 1
  | [], _ => ⟨rfl, Nat.le_refl _⟩
  | e :: r, h => by
    rw [List.any_cons, Bool.or_eq_false_iff] at h
    unfold putL
    split
    · refine ⟨?_, Nat.le_succ _⟩
      rw [List.any_cons, Bool.or_eq_false_iff]
      exact h
    · have ih := putL_keys name hsh t v r h.2
      refine ⟨?_, Nat.succ_le_succ ih.2⟩
      rw [List.any_cons, ih.1, h.1]
      rfl
theorem getL_some (name : Str) (es : List DictEntry) (h : es.any (·.refKey) = false) : (getL name es).isSome = true := by
  unfold getL
  split
  · rfl
  · rw [h]; rfl
section
variable {prog : Program} {w : World} {A : Around} {E : Value → Shared → Prop} {s : Shared} {K : Frag} {x C d L : Addr} {h₀ : Heap} {m : Str → Option Value} {news nw : List (Addr × Obj)} {es : List DictEntry} {n k : Nat} {name : Str} {v : Value}
/-- an attribute stored, what it holds forgotten -/
theorem set_any {Q : Unit → Shared → Prop} (F : Fr h₀ L s.heap m) (X₀ : K.In h₀) (N : News h₀ L s.heap nw) (hx : (x, instObj C d) ∈ nw) (hd : (d, dictOf es n) ∈ nw) (hS : es.any (·.refKey) = false) (hl : es.length ≤ k) (hk : k < 1000) (hsub : ∀ p ∈ news, p ∈ nw) (hxd : @Ne Nat x d) (hnd : ∀ p ∈ news, p.1 ≠ d)
    (hs : findIn K (.ref C) "__setattr__" = some (some (.builtin "object.__setattr__"))) (hp : plainOver K C = true) (ht : takerIn K C name = some none) (hh : hasDictIn K C = true)
    (h : ∀ h' tk' es' n', es'.any (·.refKey) = false → es'.length ≤ k + 1 → Fr h₀ L h' m → News h₀ L h' ((x, instObj C d) :: (d, dictOf es' n') :: news) → Q () { s with heap := h', toks := tk' }) :
    wpAny (model prog w) A (setAttr (.ref x) name v) Q E s := by
  have N2 : News h₀ L s.heap ((x, instObj C d) :: (d, dictOf es n) :: news) := cb_drop N fun p hp => by
    rcases List.mem_cons.mp hp with rfl | hp
    · exact hx
    · rcases List.mem_cons.mp hp with rfl | hp
      · exact hd
      · exact hsub p hp
  have kk := putL_keys name (PyData.keyHash w.params name) (s.toks + 1) v es hS
  exact set_dict F X₀ N2 (InstAt.of_news N2 (List.Mem.head _) (List.Mem.tail _ (List.Mem.head _))) rfl hs hp ht hh (getL_some name es hS) rfl (.tail hxd (.head hnd)) (Nat.le_trans kk.2 (by omega)) fun h' F' N' => h h' _ _ _ kk.1 (Nat.le_trans kk.2 (Nat.succ_le_succ hl)) F' N'
end
section
variable {w : World} {loose : List Str} {mean : ExcName → Option Value} {mg mb : Str → Option Value} {dp un : Nat} {gd : Option (List Code)} {cn : Str} {cs : Scope} {a : Addr} {ccd : Value} {cl : List (Str × Addr)} {outer : List Env} {A₀ : Around} {base h₀ : Heap} {L : Addr} {m : Str → Option Value} {news : List (Addr × Obj)} {s : Shared} {Q E : Value → Shared → Prop}
local macro_rules | `(tactic| k_mem) => `(tactic| first | assumption | exact List.Mem.head _ | (refine' List.Mem.tail _ ?_; k_mem))
local macro_rules | `(tactic| k_all) => `(tactic| first | assumption | exact List.forall_mem_nil _ | (refine' neAll_cons ?a ?b; (case a => k_ne); (case b => k_all)))
local macro_rules | `(tactic| walk_at "setAttr ref") => `(tactic| (k_here; k_dflt (refine' set_any ?F ?X ?N ?hx ?hd ?hS ?hl ?hk ?hsub ?hxd ?hnd ?hs ?hp ?ht ?hh ?_; (case F => k_asm); (case X => k_asm); (case N => k_asm); (case hx => k_mem); (case hd => k_mem); (case hS => assumption); (case hl => assumption); (case hk => decide); (case hnd => assumption); (case hsub => (intro _ _; repeat (first | assumption | apply List.Mem.tail))); (case hxd => assumption); (case hs => k_is); (case hp => k_is); (case ht => k_is); (case hh => k_is); k_whole); intro h' tk' es' n' hS' hl' F' N'; (try k_sweep)))
theorem world_call {t u : Tok} (hB : Below A₀ base outer h₀) (F : Fr h₀ L s.heap m) (hK : (hd.heap_1 w.params).In h₀) (N : News h₀ L s.heap news) (hT : Top vw loose mean mg mb h₀) (hcs : cs.kind = .function)
    (hdp : dp + 8 < recursionLimit) (hunU : un + 60 < cLine)
    (hret : ∀ (X : Addr) (h' : Heap) (tk' : Nat), Fr h₀ L h' m → News h₀ L h' news → Q (.ref X) { s with heap := h', toks := tk' }) :
    wpAny (model PySem.Challenge.rw_pf0006_01.row.prog w) (ktrTop dp un gd cn cs L a ccd cl outer) (call (.ref 139) [.int 16 t, .int 6 u]) Q E s := by
  w_on
  revert hK; k_fill; intro hK
  refine' call_cls ?k1 ?k2 ?k3 ?k4 ?k5 ?k6 ?_
  case k1 => k_asm
  case k2 => k_asm
  case k3 => k_asm
  case k4 => k_is
  case k5 => k_is
  case k6 => k_is
  intro x' d' h' F' N' l1 l2
  have n1 : ∀ p ∈ news, p.1 ≠ d' := fun p hp => Nat.ne_of_lt (l1 p hp)
  have n2 : ∀ p ∈ news, p.1 ≠ x' := fun p hp => Nat.ne_of_lt (Nat.lt_trans (l1 p hp) l2)
  (try k_lt l1)
  (try k_lt2 l2)
  clear F N
  rename Fr _ _ _ _ => Fz
  rename News _ _ _ _ => Nz
  k_dflt (refine' code_def ?a1 ?a2 ?a3 ?a4 ?a5 ?aA ?aF ?aK ?a6 ?a7 ?a8 ?a9 ?aB ?_ ?b2 ?b3 ?b4 ?b5; (case aA => exact rfl); (case aF => exact rfl); (case aK => assumption); (case a1 => k_asm); (case a2 => k_asm); (case a3 => k_asm); (case a4 => k_asm); (case a5 => k_asm); (case a6 => k_is); (case a7 => k_is); (case a8 => ktr_room); (case a9 => first | exact BindsTo.of_eq rfl | exact binds_K (by k_in) rfl (by k_is) rfl rfl rfl); (case b5 => decide); (case aB => exact locs rfl); (case b2 => exact rfl); (case b3 => exact rfl); (case b4 => exact rfl); k_whole; intro g' L' h' FG' F' N' B' X' T'; (try dsimp only); (try k_lift B'); (try k_fold))
  clear Fz Nz FG'
  have hxd : @Ne Nat x' d' := Ne.symm (Nat.ne_of_lt l2)
  have hS0 : ([] : List DictEntry).any (·.refKey) = false := rfl
  have hl0 : ([] : List DictEntry).length ≤ 0 := Nat.le_refl _
  clear l1 l2
  k_steps
  rename Fr _ _ _ _ => FZ
  rename News _ _ _ _ => NZ
  exact hret _ _ _ FZ (cb_drop NZ (fun p hp => by repeat (first | exact hp | apply List.Mem.tail)))
end
end Mine
end
section
open PySem PySem.W PyProof.Rows PyProof.V
namespace Mine
set_option maxRecDepth 100000
set_option maxHeartbeats 8000000
section
variable {w : World} {loose : List Str} {mean : ExcName → Option Value} {mg mb : Str → Option Value} {dp un : Nat} {gd : Option (List Code)} {cn : Str} {cs : Scope} {a : Addr} {ccd : Value} {cl : List (Str × Addr)} {outer : List Env} {A₀ : Around} {base h₀ : Heap} {L : Addr} {m : Str → Option Value} {news : List (Addr × Obj)} {s : Shared} {Q E : Value → Shared → Prop}
theorem text_call2 {T C : Addr} {o : Obj} {gg : Obj → List (Addr × Obj)} {vs : List Value} {ns : List Int} {nC : Nat} {k : Int} {t3 : Tok} (U : UpdF T o news gg) (hTr : Tray w o C k t3) (hC : (C, listOf vs.toArray nC) ∈ news) (hCT : C ≠ T) (hI : IntsAre vs ns) (hns : ns.length ≤ 16) (hk0 : 0 ≤ k) (hk1 : k ≤ 50) (hsm : (T == sysModules) = false)
    (hB : Below A₀ base outer h₀) (F : Fr h₀ L s.heap m) (hK : (hd.heap_1 w.params).In h₀) (N : News h₀ L s.heap news) (hT : Top vw loose mean mg mb h₀) (hcs : cs.kind = .function)
    (hdp : dp + 8 < recursionLimit) (hun : un + 60 < cLine)
    (hret : ∀ (l : List Nat) (t : Tok) (o' : Obj) (k' : Int) (h' : Heap) (tk' : Nat) (t3 : Tok), l.length ≤ 8 → (∀ c ∈ l, c ∈ alph) → k ≤ k' → k' ≤ k + 9 → Tray w o' C k' t3 → Fr h₀ L h' m → News h₀ L h' (gg o') → Q (.str (tx l) t) { s with heap := h', toks := tk' }) :
    wpAny (model PySem.Challenge.rw_pf0006_01.row.prog w) (ktrTop dp un gd cn cs L a ccd cl outer) (call (.ref 155) [.ref T]) Q E s := by
  obtain ⟨pre, post, rfl, hg, h1, h2⟩ := U.split
  have N' : News h₀ L s.heap ((T, o) :: (pre ++ post)) := cb_drop N fun p hp => by
    rcases List.mem_cons.mp hp with rfl | hp
    · exact List.mem_append_right _ (List.Mem.head _)
    · rcases List.mem_append.mp hp with hp | hp
      · exact List.mem_append_left _ hp
      · exact List.mem_append_right _ (List.Mem.tail _ hp)
  refine text_call (nC := nC) hTr (R := pre ++ post) ?_ hI hns hk0 hk1 hCT ?_ hsm hB F hK N' hT hcs hdp hun fun l t o' k' h' tk' t3 a1 a2 a3 a4 a5 F' N2 => hret l t o' k' h' tk' t3 a1 a2 a3 a4 a5 F' ?_
  · rcases List.mem_append.mp hC with hp | hp
    · exact List.mem_append_left _ hp
    · rcases List.mem_cons.mp hp with e | hp
      · exact absurd (congrArg Prod.fst e) hCT
      · exact List.mem_append_right _ hp
  · intro p hp
    rcases List.mem_append.mp hp with hp | hp
    · exact h1 p hp
    · exact h2 p hp
  · rw [hg]
    exact cb_drop N2 fun p hp => by
      rcases List.mem_append.mp hp with hp | hp
      · exact List.mem_cons_of_mem _ (List.mem_append_left _ hp)
      · rcases List.mem_cons.mp hp with rfl | hp
        · exact List.Mem.head _
        · exact List.mem_cons_of_mem _ (List.mem_append_right _ hp)
theorem staged_call2 {l : List Nat} {t : Tok} {f : Int} {tf : Tok} (hl : l.length ≤ 8) (hc : ∀ c ∈ l, c ∈ alph) (h0 : 0 ≤ f) (h1 : f < 512)
    (hB : Below A₀ base outer h₀) (F : Fr h₀ L s.heap m) (hK : (hd.heap_1 w.params).In h₀) (N : News h₀ L s.heap news) (hT : Top vw loose mean mg mb h₀) (hcs : cs.kind = .function)
    (hdp : dp + 12 < recursionLimit) (hun : un + 200 < cLine) (hret : RetS h₀ L m news s Q (tx (ed f l))) :
    wpAny (model PySem.Challenge.rw_pf0006_01.row.prog w) (ktrTop dp un gd cn cs L a ccd cl outer) (call (.ref 165) [.str (tx l) t, .int f tf]) Q E s := by
  rw [ed_staged (alph_2 hc)] at hret
  exact staged_call hl hc h0 h1 hB F hK N hT hcs hdp hun hret
theorem ed_call2 {l : List Nat} {t : Tok} {f : Int} {tf : Tok} (hl : l.length ≤ 8) (hc : ∀ c ∈ l, c ∈ alph) (h0 : 0 ≤ f) (h1 : f < 512) (hB : Below A₀ base outer h₀) (F : Fr h₀ L s.heap m) (hK : (hd.heap_1 w.params).In h₀) (N : News h₀ L s.heap news) (hT : Top vw loose mean mg mb h₀) (hcs : cs.kind = .function)
    (hdp : dp + 6 < recursionLimit) (hun : un + 60 < cLine) (hret : RetS h₀ L m news s Q (tx (ed f l))) :
    wpAny (model PySem.Challenge.rw_pf0006_01.row.prog w) (ktrTop dp un gd cn cs L a ccd cl outer) (call (.ref 100) [.str (tx (ed f l)) t, .int f tf]) Q E s := by
  refine ed_call (Nat.le_trans (ed_len f l) hl) (ed_small (alph_2 hc)) h0 h1 hB F hK N hT hcs hdp hun ?_
  have e : ed f (ed f l) = ed f l := by
    have := ed_again (f := f) (alph_2 hc)
    rw [← ed_staged (alph_2 hc)] at this
    exact this
  rw [e]
  exact hret
theorem edit_bare {W : Value} {T : Addr} {nT : Nat} {l : List Nat} {t : Tok} {f : Int} {tf : Tok} (hTu : (T, ({ cls := .type "list", data := .seq #[.str (tx l) t, .int (f - (f.fdiv 8).fmod 2 * 8 - (f.fdiv 128).fmod 2 * 128) tf] nT } : Obj)) ∈ news) (hl : l.length ≤ 8) (hc : ∀ c ∈ l, c ∈ alph) (h0 : 0 ≤ f) (h1 : f < 256) (hB : Below A₀ base outer h₀) (F : Fr h₀ L s.heap m) (hK : (hd.heap_1 w.params).In h₀) (N : News h₀ L s.heap news) (hT : Top vw loose mean mg mb h₀) (hcs : cs.kind = .function)
    (hdp : dp + 8 < recursionLimit) (hun : un + 100 < cLine) (hret : RetS h₀ L m news s Q (tx (ed (bareF f) l))) :
    wpAny (model PySem.Challenge.rw_pf0006_01.row.prog w) (ktrTop dp un gd cn cs L a ccd cl outer) (call (.ref 121) [W, .ref T]) Q E s := by
  have hb := bare_bits h0 h1
  exact edit_int (f := bareF f) hTu hl (fun c h => (by decide : ∀ c ∈ alph, c < 1114112) c (hc c h)) hb.1 (Int.lt_trans hb.2.1 (by decide)) hB F hK N hT hcs hdp hun hret
theorem edit_136 {W : Value} {T : Addr} {nT : Nat} {l : List Nat} {t : Tok} {f : Int} {tf : Tok} (hTu : (T, ({ cls := .type "list", data := .seq #[.str (tx l) t, .int (f - (f.fdiv 8).fmod 2 * 8 - (f.fdiv 128).fmod 2 * 128 + 136) tf] nT } : Obj)) ∈ news) (hl : l.length ≤ 8) (hc : ∀ c ∈ l, c ∈ alph) (h0 : 0 ≤ f) (h1 : f < 256) (hB : Below A₀ base outer h₀) (F : Fr h₀ L s.heap m) (hK : (hd.heap_1 w.params).In h₀) (N : News h₀ L s.heap news) (hT : Top vw loose mean mg mb h₀) (hcs : cs.kind = .function)
    (hdp : dp + 8 < recursionLimit) (hun : un + 100 < cLine) (hret : RetS h₀ L m news s Q (tx ((rst (ed (bareF f) l)).dropWhile isBl))) :
    wpAny (model PySem.Challenge.rw_pf0006_01.row.prog w) (ktrTop dp un gd cn cs L a ccd cl outer) (call (.ref 121) [W, .ref T]) Q E s := by
  have hb := bare_bits h0 h1
  rw [← law3 h0 h1 (alph_2 hc)] at hret
  exact edit_int (f := bareF f + 136) hTu hl (fun c h => (by decide : ∀ c ∈ alph, c < 1114112) c (hc c h)) hb.2.2.1 (Int.lt_trans hb.2.2.2.1 (by decide)) hB F hK N hT hcs hdp hun hret
theorem edit_flags {W : Value} {T : Addr} {nT : Nat} {l : List Nat} {t : Tok} {f : Int} {tf : Tok} (hTu : (T, ({ cls := .type "list", data := .seq #[.str (tx l) t, .int f tf] nT } : Obj)) ∈ news) (hl : l.length ≤ 8) (hc : ∀ c ∈ l, c ∈ alph) (h0 : 0 ≤ f) (h1 : f < 512) (hB : Below A₀ base outer h₀) (F : Fr h₀ L s.heap m) (hK : (hd.heap_1 w.params).In h₀) (N : News h₀ L s.heap news) (hT : Top vw loose mean mg mb h₀) (hcs : cs.kind = .function)
    (hdp : dp + 8 < recursionLimit) (hun : un + 100 < cLine) (hret : RetS h₀ L m news s Q (tx (ed f l))) :
    wpAny (model PySem.Challenge.rw_pf0006_01.row.prog w) (ktrTop dp un gd cn cs L a ccd cl outer) (call (.ref 121) [W, .ref T]) Q E s :=
  edit_int hTu hl (fun c h => (by decide : ∀ c ∈ alph, c < 1114112) c (hc c h)) h0 h1 hB F hK N hT hcs hdp hun hret
theorem edit_near {W : Value} {T P : Addr} {nT nP : Nat} {l : List Nat} {t : Tok} {f d : Int} {tn tm : Tok} (hTu : (T, ({ cls := .type "list", data := .seq #[.str (tx l) t, .ref P] nT } : Obj)) ∈ news) (hPu : (P, ({ cls := .type "tuple", data := .seq #[.int (10 * f + d - 4) tn, .int (-1) tm] nP } : Obj)) ∈ news) (hl : l.length ≤ 8) (hc : ∀ c ∈ l, c ∈ alph) (h0 : 0 ≤ f) (h1 : f < 512) (d0 : 0 ≤ d) (d1 : d < 9) (hB : Below A₀ base outer h₀) (F : Fr h₀ L s.heap m) (hK : (hd.heap_1 w.params).In h₀) (N : News h₀ L s.heap news) (hT : Top vw loose mean mg mb h₀) (hcs : cs.kind = .function)
    (hdp : dp + 8 < recursionLimit) (hun : un + 100 < cLine) (hret : RetS h₀ L m news s Q (tx (ed f l))) :
    wpAny (model PySem.Challenge.rw_pf0006_01.row.prog w) (ktrTop dp un gd cn cs L a ccd cl outer) (call (.ref 121) [W, .ref T]) Q E s :=
  edit_dec hTu hPu hl (fun c h => (by decide : ∀ c ∈ alph, c < 1114112) c (hc c h)) (by omega) (by omega) (round_back h0 d0 d1) h0 h1 hB F hK N hT hcs hdp hun hret
/-- the flags as they are told: a whole number, or a decimal next to it -/
inductive Told (f : Int) (tv : Value) (R : List (Addr × Obj)) : Prop
  | whole (tf : Tok) : tv = .int f tf → Told f tv R
  | near (P : Addr) (d : Int) (tn tm : Tok) (nP : Nat) : tv = .ref P → (P, ({ cls := .type "tuple", data := .seq #[.int (10 * f + d - 4) tn, .int (-1) tm] nP } : Obj)) ∈ R → 0 ≤ d → d < 9 → Told f tv R
theorem edit_told {W tv : Value} {T : Addr} {nT : Nat} {R : List (Addr × Obj)} {l : List Nat} {t : Tok} {f : Int} (hTo : Told f tv R) (hTu : (T, ({ cls := .type "list", data := .seq #[.str (tx l) t, tv] nT } : Obj)) ∈ news) (hs : ∀ p ∈ R, p ∈ news) (hl : l.length ≤ 8) (hc : ∀ c ∈ l, c ∈ alph) (h0 : 0 ≤ f) (h1 : f < 512) (hB : Below A₀ base outer h₀) (F : Fr h₀ L s.heap m) (hK : (hd.heap_1 w.params).In h₀) (N : News h₀ L s.heap news) (hT : Top vw loose mean mg mb h₀) (hcs : cs.kind = .function)
    (hdp : dp + 8 < recursionLimit) (hun : un + 100 < cLine) (hret : RetS h₀ L m news s Q (tx (ed f l))) :
    wpAny (model PySem.Challenge.rw_pf0006_01.row.prog w) (ktrTop dp un gd cn cs L a ccd cl outer) (call (.ref 121) [W, .ref T]) Q E s := by
  cases hTo with
  | whole tf e => subst e; exact edit_flags hTu hl hc h0 h1 hB F hK N hT hcs hdp hun hret
  | near P d tn tm nP e hm d0 d1 => subst e; exact edit_near hTu (hs _ hm) hl hc h0 h1 d0 d1 hB F hK N hT hcs hdp hun hret
theorem rtrim2 {W : Value} {T : Addr} {nT : Nat} {l : List Nat} {f : Int} {t : Tok} (hTu : (T, ({ cls := .type "list", data := .seq #[.str (tx (ed f l)) t] nT } : Obj)) ∈ news) (hl : l.length ≤ 8) (hB : Below A₀ base outer h₀) (F : Fr h₀ L s.heap m) (hK : (hd.heap_1 w.params).In h₀) (N : News h₀ L s.heap news) (hT : Top vw loose mean mg mb h₀) (hcs : cs.kind = .function)
    (hdp : dp + 6 < recursionLimit) (hun : un + 60 < cLine) (hret : RetS h₀ L m news s Q (tx (rst (ed f l)))) :
    wpAny (model PySem.Challenge.rw_pf0006_01.row.prog w) (ktrTop dp un gd cn cs L a ccd cl outer) (call (.ref 114) [W, .ref T]) Q E s :=
  rtrim_call hTu (Nat.le_trans (ed_len f l) hl) hB F hK N hT hcs hdp hun hret
theorem ltrim2 {W : Value} {T : Addr} {nT : Nat} {l : List Nat} {f : Int} {t : Tok} (hTu : (T, ({ cls := .type "list", data := .seq #[.str (tx (rst (ed f l))) t] nT } : Obj)) ∈ news) (hl : l.length ≤ 8) (hB : Below A₀ base outer h₀) (F : Fr h₀ L s.heap m) (hK : (hd.heap_1 w.params).In h₀) (N : News h₀ L s.heap news) (hT : Top vw loose mean mg mb h₀) (hcs : cs.kind = .function)
    (hdp : dp + 6 < recursionLimit) (hun : un + 60 < cLine) (hret : RetS h₀ L m news s Q (tx ((rst (ed f l)).dropWhile isBl))) :
    wpAny (model PySem.Challenge.rw_pf0006_01.row.prog w) (ktrTop dp un gd cn cs L a ccd cl outer) (call (.ref 107) [W, .ref T]) Q E s :=
  ltrim_call hTu (Nat.le_trans (rst_len _) (Nat.le_trans (ed_len f l) hl)) hB F hK N hT hcs hdp hun hret
end
end Mine
end
section
open PySem PySem.W PyProof.Rows PyProof.V
namespace Mine
set_option maxRecDepth 100000
set_option maxHeartbeats 8000000
local macro_rules | `(tactic| k_qdec) => `(tactic| decide +kernel)
local macro_rules | `(tactic| k_mem) => `(tactic| first | assumption | exact List.Mem.head _ | (refine' List.Mem.tail _ ?_; k_mem))
local macro_rules | `(tactic| k_all) => `(tactic| first | assumption | exact List.forall_mem_nil _ | (refine' neAll_cons ?a ?b; (case a => k_ne); (case b => k_all)))
local macro_rules | `(tactic| tb_start) => `(tactic| repeat ((fail_if_success (with_reducible show wpAny _ _ (call (Value.ref 139) _) _ _ _)); (first | (k_unfold; (try dsimp only)) | walk1 | (dsimp only; walk1))))
local macro_rules | `(tactic| walk_at "call ref") => `(tactic| (k_here; (with_reducible show wpAny _ _ (call (Value.ref 139) [Value.int _ _, Value.int _ _]) _ _ _); k_dflt (refine' world_call  ?k1 ?k2 ?k3 ?k4 ?k5 ?k6 ?k7 ?k8 ?_; (case k2 => k_asm); (case k4 => k_asm);  (case k1 => k_asm); (case k3 => k_asm); (case k5 => k_asm); (case k6 => first | exact rfl | assumption); (case k7 => ktr_room); (case k8 => ktr_units); k_whole; intro x9 h9 tk9 F9 N9; (try dsimp only); (try k_fold))))
local macro_rules | `(tactic| walk_at "call ref") => `(tactic| (k_here; (with_reducible show wpAny _ _ (call (Value.ref 155) [Value.ref _]) _ _ _); k_dflt (refine' text_call2 ?u1 ?z1 ?z2 ?z3 ?z4 ?z5 ?z6 ?z7 ?z8 ?k1 ?k2 ?k3 ?k4 ?k5 ?k6 ?k7 ?k8 ?_; (case k2 => k_asm); (case k4 => k_asm); (case u1 => k_updF); (case z1 => assumption); (case z2 => k_mem); (case z3 => assumption); (case z4 => assumption); (case z5 => assumption); (case z6 => omega); (case z7 => omega); (case z8 => assumption); (case k1 => k_asm); (case k3 => k_asm); (case k5 => k_asm); (case k6 => first | exact rfl | assumption); (case k7 => ktr_room); (case k8 => ktr_units); k_whole; intro l9 t9 o9 kk9 h9 tk9 t39 hl9 hc9 hk9 hk8 hTr9 F9 N9; (try dsimp only); (try k_fold))))
local macro_rules | `(tactic| walk_at "call ref") => `(tactic| (k_here; (with_reducible show wpAny _ _ (call (Value.ref 150) [Value.ref _, Value.int _ _]) _ _ _); k_dflt (refine' draw_call2 ?u1 ?z1 ?z2 ?z3 ?z4 ?z5 ?z6 ?z7 ?z8 ?z9 ?za ?k1 ?k2 ?k3 ?k4 ?k5 ?k6 ?k7 ?k8 ?_; (case k2 => k_asm); (case k4 => k_asm); (case u1 => k_updF); (case z1 => assumption); (case z2 => k_mem); (case z3 => assumption); (case z4 => assumption); (case z5 => assumption); (case z6 => omega); (case z7 => omega); (case z8 => decide); (case z9 => decide); (case za => assumption); (case k1 => k_asm); (case k3 => k_asm); (case k5 => k_asm); (case k6 => first | exact rfl | assumption); (case k7 => ktr_room); (case k8 => ktr_units); k_whole; intro v9 t9 o9 h9 tk9 t39 hv0 hv1 hTr9 F9 N9; (try dsimp only); (try k_fold))))
local macro_rules | `(tactic| walk_at "call ref") => `(tactic| (k_here; (with_reducible show wpAny _ _ (call (Value.ref 165) [Value.str _ _, Value.int _ _]) _ _ _); k_dflt (refine' staged_call2 ?z2 ?z3 ?z4 ?z5 ?k1 ?k2 ?k3 ?k4 ?k5 ?k6 ?k7 ?k8 ?_; (case k2 => k_asm); (case k4 => k_asm); (case z2 => assumption); (case z3 => assumption); (case z4 => assumption); (case z5 => first | assumption | omega); (case k1 => k_asm); (case k3 => k_asm); (case k5 => k_asm); (case k6 => first | exact rfl | assumption); (case k7 => ktr_room); (case k8 => ktr_units); k_whole; intro t9 h9 tk9 F9 N9; (try dsimp only); (try k_fold))))
local macro_rules | `(tactic| walk_at "call ref") => `(tactic| (k_here; (with_reducible show wpAny _ _ (call (Value.ref 100) [Value.str _ _, Value.int _ _]) _ _ _); k_dflt (refine' ed_call2 ?z2 ?z3 ?z4 ?z5 ?k1 ?k2 ?k3 ?k4 ?k5 ?k6 ?k7 ?k8 ?_; (case k2 => k_asm); (case k4 => k_asm); (case z2 => assumption); (case z3 => assumption); (case z4 => assumption); (case z5 => first | assumption | omega); (case k1 => k_asm); (case k3 => k_asm); (case k5 => k_asm); (case k6 => first | exact rfl | assumption); (case k7 => ktr_room); (case k8 => ktr_units); k_whole; intro t9 h9 tk9 F9 N9; (try dsimp only); (try k_fold))))
local macro_rules | `(tactic| walk_at "call ref") => `(tactic| (k_here; (with_reducible show wpAny _ _ (call (Value.ref 121) [Value.ref _, Value.ref _]) _ _ _); k_dflt (refine' edit_flags ?z1 ?z2 ?z3 ?z4 ?z5 ?k1 ?k2 ?k3 ?k4 ?k5 ?k6 ?k7 ?k8 ?_; (case k2 => k_asm); (case k4 => k_asm); (case z1 => k_mem); (case z2 => assumption); (case z3 => assumption); (case z4 => assumption); (case z5 => first | assumption | omega); (case k1 => k_asm); (case k3 => k_asm); (case k5 => k_asm); (case k6 => first | exact rfl | assumption); (case k7 => ktr_room); (case k8 => ktr_units); k_whole; intro t9 h9 tk9 F9 N9; (try dsimp only); (try k_fold))))
local macro_rules | `(tactic| walk_at "call ref") => `(tactic| (k_here; (with_reducible show wpAny _ _ (call (Value.ref 121) [Value.ref _, Value.ref _]) _ _ _); k_dflt (refine' edit_near ?z1 ?z0 ?z2 ?z3 ?z4 ?z5 ?z6 ?z7 ?k1 ?k2 ?k3 ?k4 ?k5 ?k6 ?k7 ?k8 ?_; (case k2 => k_asm); (case k4 => k_asm); (case z1 => k_mem); (case z0 => k_mem); (case z2 => assumption); (case z3 => assumption); (case z4 => assumption); (case z5 => first | assumption | omega); (case z6 => assumption); (case z7 => assumption); (case k1 => k_asm); (case k3 => k_asm); (case k5 => k_asm); (case k6 => first | exact rfl | assumption); (case k7 => ktr_room); (case k8 => ktr_units); k_whole; intro t9 h9 tk9 F9 N9; (try dsimp only); (try k_fold))))
local macro_rules | `(tactic| walk_at "call ref") => `(tactic| (k_here; (with_reducible show wpAny _ _ (call (Value.ref 121) [Value.ref _, Value.ref _]) _ _ _); k_dflt (refine' edit_bare ?z1 ?z2 ?z3 ?z4 ?z5 ?k1 ?k2 ?k3 ?k4 ?k5 ?k6 ?k7 ?k8 ?_; (case k2 => k_asm); (case k4 => k_asm); (case z1 => k_mem); (case z2 => assumption); (case z3 => assumption); (case z4 => assumption); (case z5 => first | assumption | omega); (case k1 => k_asm); (case k3 => k_asm); (case k5 => k_asm); (case k6 => first | exact rfl | assumption); (case k7 => ktr_room); (case k8 => ktr_units); k_whole; intro t9 h9 tk9 F9 N9; (try dsimp only); (try k_fold))))
local macro_rules | `(tactic| walk_at "call ref") => `(tactic| (k_here; (with_reducible show wpAny _ _ (call (Value.ref 121) [Value.ref _, Value.ref _]) _ _ _); k_dflt (refine' edit_136 ?z1 ?z2 ?z3 ?z4 ?z5 ?k1 ?k2 ?k3 ?k4 ?k5 ?k6 ?k7 ?k8 ?_; (case k2 => k_asm); (case k4 => k_asm); (case z1 => k_mem); (case z2 => assumption); (case z3 => assumption); (case z4 => assumption); (case z5 => first | assumption | omega); (case k1 => k_asm); (case k3 => k_asm); (case k5 => k_asm); (case k6 => first | exact rfl | assumption); (case k7 => ktr_room); (case k8 => ktr_units); k_whole; intro t9 h9 tk9 F9 N9; (try dsimp only); (try k_fold))))
local macro_rules | `(tactic| walk_at "call ref") => `(tactic| (k_here; (with_reducible show wpAny _ _ (call (Value.ref 114) [Value.ref _, Value.ref _]) _ _ _); k_dflt (refine' rtrim2 ?z1 ?z2 ?k1 ?k2 ?k3 ?k4 ?k5 ?k6 ?k7 ?k8 ?_; (case k2 => k_asm); (case k4 => k_asm); (case z1 => k_mem); (case z2 => assumption); (case k1 => k_asm); (case k3 => k_asm); (case k5 => k_asm); (case k6 => first | exact rfl | assumption); (case k7 => ktr_room); (case k8 => ktr_units); k_whole; intro t9 h9 tk9 F9 N9; (try dsimp only); (try k_fold))))
local macro_rules | `(tactic| walk_at "call ref") => `(tactic| (k_here; (with_reducible show wpAny _ _ (call (Value.ref 107) [Value.ref _, Value.ref _]) _ _ _); k_dflt (refine' ltrim2 ?z1 ?z2 ?k1 ?k2 ?k3 ?k4 ?k5 ?k6 ?k7 ?k8 ?_; (case k2 => k_asm); (case k4 => k_asm); (case z1 => k_mem); (case z2 => assumption); (case k1 => k_asm); (case k3 => k_asm); (case k5 => k_asm); (case k6 => first | exact rfl | assumption); (case k7 => ktr_room); (case k8 => ktr_units); k_whole; intro t9 h9 tk9 F9 N9; (try dsimp only); (try k_fold))))
theorem tray_of {w : World} {o : Obj} {C : Addr} {t3 ta tb : Tok} (h : Obj.IsDictOf (PySem.strKind PySem.Challenge.rw_pf0006_01.row.prog w) o (strPairs [(.str (Str.ofString "cells") ta, .ref C), (.str (Str.ofString "count") tb, .int 0 t3)])) : Tray w o C 0 t3 := h
theorem two_ne {h₀ h : Heap} {L C T : Addr} {a b : Obj} (_ : News h₀ L h [(C, a), (T, b)]) (h1 : @LT.lt Nat _ T C) : C ≠ T := Nat.ne_of_gt h1
theorem ne_same {prog : Program} {w : World} {A : Around} {E : Value → Shared → Prop} {s : Shared} {x : Str} {t u : Tok} {Q : Value → Shared → Prop} (h : Q (.bool false) s) : wpAny (model prog w) A (compareOp .NotEq (.str x t) (.str x u)) Q E s :=
  PyProof.Rows.ne_str (by rw [show (x != x) = false from by simp]; exact h)
theorem eq_same {prog : Program} {w : World} {A : Around} {E : Value → Shared → Prop} {s : Shared} {x : Str} {t u : Tok} {Q : Value → Shared → Prop} (h : Q (.bool true) s) : wpAny (model prog w) A (compareOp .Eq (.str x t) (.str x u)) Q E s :=
  PyProof.Rows.eq_str (by rw [show (x == x) = true from by simp]; exact h)
local macro_rules | `(tactic| walk_at "compareOp NotEq str str") => `(tactic| (with_reducible refine ne_same ?_))
local macro_rules | `(tactic| walk_at "compareOp Eq str str") => `(tactic| (with_reducible refine eq_same ?_))
theorem post_true (ns : List Int) : PySem.Challenge.rw_pf0006_01.row.claim.post [ofPy (PyData.list (List.map PyData.int ns))] (.bool true) [ofPy (PyData.list (List.map PyData.int ns))] = true := by
  wrow_post
theorem no_raise (ns : List Int) : ∀ cls, PySem.Challenge.rw_pf0006_01.row.claim.raises [ofPy (PyData.list (List.map PyData.int ns))] cls = false := raisesW_false (by wrow_none_raised)
/-- what holds when the flags are told -/
inductive TS (g : Heap) (L X : Addr) (l : List Nat) (t : Tok) (f : Int) (tf : Tok) (mm : Str → Option Value) (h : Heap) : Prop
  | mk (tv : Value) (R : List (Addr × Obj)) : Fr g L h (fun y => if y = Str.ofString "told" then some tv else if y = Str.ofString "world" then some (.ref X) else if y = Str.ofString "text" then some (.str (tx l) t) else if y = Str.ofString "flags" then some (.int f tf) else mm y) → News g L h R → Told f tv R → TS g L X l t f tf mm h
theorem cut_told {prog : Program} {w : World} {A : Around} {code : Sem Flow} {E : Value → Shared → Prop} {s : Shared} {g : Heap} {L X : Addr} {l : List Nat} {t : Tok} {f : Int} {tf : Tok} {mm : Str → Option Value} {nw : List (Addr × Obj)} {Q : Flow → Shared → Prop}
    (_ : Fr g L s.heap (fun y => if y = Str.ofString "world" then some (.ref X) else if y = Str.ofString "text" then some (.str (tx l) t) else if y = Str.ofString "flags" then some (.int f tf) else mm y)) (_ : News g L s.heap nw)
    (h1 : wpAny (model prog w) A code (Nx (TS g L X l t f tf mm) s) E s) (h2 : ∀ h tk, TS g L X l t f tf mm h → Q .next { s with heap := h, toks := tk }) : wpAny (model prog w) A code Q E s := by
  refine wpAny_mono h1 ?_ (fun _ _ h => h)
  rintro _ _ ⟨rfl, h, tk, rfl, p⟩
  exact h2 h tk p
local macro_rules | `(tactic| walk_at "call ref") => `(tactic| (k_here; (with_reducible show wpAny _ _ (call (Value.ref 121) [Value.ref _, Value.ref _]) _ _ _); k_dflt (refine' edit_told ?z0 ?z1 ?zs ?z2 ?z3 ?z4 ?z5 ?k1 ?k2 ?k3 ?k4 ?k5 ?k6 ?k7 ?k8 ?_; (case z0 => assumption); (case k2 => k_asm); (case k4 => k_asm); (case z1 => k_mem); (case zs => (intro _ _; repeat (first | assumption | apply List.Mem.tail))); (case z2 => assumption); (case z3 => assumption); (case z4 => assumption); (case z5 => assumption); (case k1 => k_asm); (case k3 => k_asm); (case k5 => k_asm); (case k6 => first | exact rfl | assumption); (case k7 => ktr_room); (case k8 => ktr_units); k_whole; intro t9 h9 tk9 F9 N9; (try dsimp only); (try k_fold))))
theorem law_test : PySem.Challenge.rw_pf0006_01.Holds := by
  w_on
  refine hd ?_
  w_strict (k_go0; (all_goals try k_fold))
  tb_start
  rename (_ == sysModules) = false => hsm
  rename IntsAre _ (List.take 16 _) => hI
  rename News _ _ _ _ => NN
  rename Fr _ _ _ _ => FF
  rename Obj.IsDictOf _ _ (strPairs _) => hd1
  have hns : (List.take 16 ‹List Int›).length ≤ 16 := by rw [List.length_take]; exact Nat.min_le_left _ _
  have hTr := tray_of hd1
  have hCT := two_ne NN (by assumption)
  clear hd1
  (try dsimp only)
  (try dsimp only at hTr)
  repeat ((fail_if_success (with_reducible show wpAny _ _ (exec (Stmt.Assign [Expr.Name (Str.ofString "told") _] _ _) _) _ _ _)); (first | (k_unfold; (try dsimp only)) | walk1 | (dsimp only; walk1)))
  rename Fr _ _ _ _ => FA
  rename News _ _ _ _ => NA
  refine cut_told FA NA ?_ ?_
  · repeat (first | (k_unfold; (try dsimp only)) | walk1 | (dsimp only; walk1))
    · (try dsimp only)
      rename Fr _ _ _ _ => FX
      rename News _ _ _ _ => NX
      exact Nx.intro ⟨_, _, FX, NX, .whole _ rfl⟩
    · repeat (first | (k_unfold; (try dsimp only)) | walk1 | (dsimp only; walk1))
      (try dsimp only)
      rename Fr _ _ _ _ => FX
      rename News _ _ _ _ => NX
      exact Nx.intro ⟨_, _, FX, NX, .near _ _ _ _ _ rfl (List.Mem.head _) (by assumption) (by assumption)⟩
  · clear FA NA
    rintro h5 tk5 ⟨tv, R, F5, N5, hTo⟩
    (try dsimp only)
    repeat (first | (k_unfold; (try dsimp only)) | walk1 | (dsimp only; walk1))
    (try dsimp only)
    rename Fr _ _ _ _ => FX
    exact goodW_bool FX (by assumption) (no_raise _) (post_true _)
    repeat (first | (k_unfold; (try dsimp only)) | walk1 | (dsimp only; walk1))
    (try dsimp only)
    rename Fr _ _ _ _ => FX
    exact goodW_bool FX (by assumption) (no_raise _) (post_true _)
end Mine
end
set_option maxRecDepth 100000 in
theorem PySem.Challenge.cw_pf0006_01_holds : PySem.Challenge.rw_pf0006_01.Holds := by
  exact Mine.law_test
