import PyProof.Rows.All
import Wide.All
import OpenK.AllK
import Wide.FinOn
import PySem.Challenge.RW_nn0295_01
open PySem PySem.W PyProof.Rows PySem.Calls
set_option Elab.async false
set_option rowWalk.seconds 0
namespace Mine
set_option maxRecDepth 100000 in
set_option maxHeartbeats 8000000 in
open_top hd for PySem.Challenge.rw_nn0295_01

theorem fresh_Plain : True := by
  w_top off
  trivial
/-- a turn's end, kept whole for the walk -/
def TurnEnd (P : Flow → Shared → Prop) (f : Flow) (s : Shared) : Prop := P f s
theorem te {M : Model} {A : Around} {t : Sem Flow} {P : Flow → Shared → Prop} {E : Value → Shared → Prop} {s : Shared} (h : wpAny M A t (TurnEnd P) E s) : wpAny M A t P E s := h
/-! plain texts: no program in sight -/
def lst (x : Str) : List Nat := x.cps.toList
theorem lst_append (x y : Str) : lst (x ++ y) = lst x ++ lst y := by
  unfold lst; rw [PySem.Str.cps_append, Array.toList_append]
theorem lst_length (x : Str) : (lst x).length = x.length := rfl
def digs : Bool → List Nat
  | false => [48, 49, 120, 122, 63, 88, 90]
  | true => [48, 49, 120, 122, 63, 88, 90, 57, 97, 70, 99, 68]
def menu : Bool → Str
  | false => "01xz?XZ"
  | true => "01xz?XZ9aFcD"
theorem lst_menu (b : Bool) : lst (menu b) = digs b := by cases b <;> decide +kernel
theorem lst_low : lst ("_" : Str) = [95] := by decide +kernel
theorem menu_length (b : Bool) : (menu b).length = (digs b).length := by rw [← lst_length, lst_menu]
theorem item_lst {x : Str} {k : Int} (h : 0 ≤ k ∧ k < x.length) : ∃ c, c ∈ lst x ∧ lst (Txt.item x k) = [c] := by
  rw [item_meets h]
  have hk : k.toNat < x.cps.size := by have := h.2; show k.toNat < x.length; omega
  refine ⟨x.cps.getD k.toNat 0, ?_, rfl⟩
  unfold lst
  simp only [Array.getD, hk, dif_pos]
  exact Array.mem_toList_iff.mpr (Array.getElem_mem _)
def WordOk (b : Bool) (x : Str) : Prop := ∃ c r, lst x = c :: r ∧ c ∈ digs b ∧ ∀ d ∈ r, d ∈ 95 :: digs b
theorem wordOk_one {b : Bool} {k : Int} (h0 : 0 ≤ k) (h1 : k < (digs b).length) : WordOk b (Txt.item (menu b) k) := by
  obtain ⟨c, hc, e⟩ := item_lst (x := menu b) (k := k) ⟨h0, by rw [menu_length]; exact h1⟩
  rw [lst_menu] at hc
  exact ⟨c, [], e, hc, fun _ h => nomatch h⟩
theorem wordOk_more {b : Bool} {x : Str} {k : Int} (h0 : 0 ≤ k) (h1 : k < (digs b).length + 1) (h : WordOk b x) : WordOk b (x ++ Txt.item (menu b ++ ("_" : Str)) k) := by
  obtain ⟨c, r, e, hc, hr⟩ := h
  obtain ⟨d, hd, e2⟩ := item_lst (x := menu b ++ ("_" : Str)) (k := k) ⟨h0, by rw [← lst_length, lst_append, lst_menu, lst_low, List.length_append]; exact_mod_cast h1⟩
  rw [lst_append, lst_menu, lst_low] at hd
  refine ⟨c, r ++ [d], by rw [lst_append, e, e2]; rfl, hc, fun z hz => ?_⟩
  rcases List.mem_append.mp hz with hz | hz
  · exact hr z hz
  · rw [List.mem_singleton.mp hz]
    rcases List.mem_append.mp hd with hd | hd
    · exact .tail _ hd
    · rw [List.mem_singleton.mp hd]; exact .head _
theorem word_len {b : Bool} {x : Str} {k : Int} (h0 : 0 ≤ k) (h1 : k < (digs b).length + 1) : (x ++ Txt.item (menu b ++ ("_" : Str)) k).length ≤ x.length + 1 := by
  obtain ⟨d, _, e2⟩ := item_lst (x := menu b ++ ("_" : Str)) (k := k) ⟨h0, by rw [← lst_length, lst_append, lst_menu, lst_low, List.length_append]; exact_mod_cast h1⟩
  rw [← lst_length, lst_append, List.length_append, e2, ← lst_length]
  exact Nat.le_refl _
def baseOf : Bool → Str
  | false => "b"
  | true => "h"
def allowed : Bool → List Nat
  | false => [48, 49, 120, 122, 63]
  | true => [48, 49, 50, 51, 52, 53, 54, 55, 56, 57, 97, 98, 99, 100, 101, 102, 120, 122, 63]
def fitsL (hx : Bool) (l : List Nat) : Bool := !l.isEmpty && l.all fun c => (allowed hx).contains c
theorem one_in (x : Str) (c : Nat) : (Builtin.Str.occurrences x ⟨#[c]⟩ 0 x.length 1).isEmpty = !(decide (c ∈ lst x)) := by
  have h := PySem.StrLaws.found_one x c
  rw [show lst x = x.cps.toList from rfl, ← h, Bool.not_not]
theorem fits_false {hx : Bool} {x : Str} {pre post : List Int} {n : Nat} (e : KStt.codes x = pre ++ (n : Int) :: post) (h : n ∉ allowed hx) : fitsL hx (lst x) = false := by
  have hn : n ∈ lst x := by
    have h1 : (n : Int) ∈ KStt.codes x := by rw [e]; exact List.mem_append.mpr (.inr (.head _))
    obtain ⟨k, hk, hkn⟩ := List.mem_map.mp h1
    have : k = n := by omega
    exact this ▸ hk
  unfold fitsL
  have : (lst x).all (fun c => (allowed hx).contains c) = false := by
    rw [List.all_eq_false]
    exact ⟨n, hn, by simpa using h⟩
  rw [this, Bool.and_false]
theorem fits_true {hx : Bool} {x : Str} (h : ∀ v ∈ KStt.codes x, ∃ k ∈ allowed hx, v = (k : Int)) (hne : (x == ("" : Str)) = false) : fitsL hx (lst x) = true := by
  unfold fitsL
  rw [Bool.and_eq_true]
  refine ⟨?_, List.all_eq_true.mpr fun c hc => ?_⟩
  · cases hl : lst x with
    | nil =>
      exfalso
      have : x = ("" : Str) := PySem.Str.ext' (Array.toList_inj.mp (by rw [show x.cps.toList = [] from hl]; decide +kernel))
      rw [this] at hne
      simp at hne
    | cons a r => rfl
  · obtain ⟨k, hk, e⟩ := h (c : Int) (List.mem_map.mpr ⟨c, hc, rfl⟩)
    have : c = k := by omega
    simpa [this] using hk
theorem fits_nil (hx : Bool) : fitsL hx (lst ("" : Str)) = false := by cases hx <;> decide +kernel
theorem lst_allowed_b : lst ("01xz?" : Str) = allowed false := by decide +kernel
theorem lst_allowed_h : lst ("0123456789abcdefxz?" : Str) = allowed true := by decide +kernel
/-! the reader, over lists of codes -/
def blank (c : Nat) : Bool := [32, 9, 13, 10, 12, 11].contains c
def lineL : List Nat → Nat
  | [] => 0
  | c :: r => if c = 10 then 0 else lineL r + 1
def closeL : List Nat → Option Nat
  | [] => none
  | c :: r => if c = 42 ∧ r.head? = some 47 then some 0 else (closeL r).map (· + 1)
def gapL : List Nat → Option Nat
  | [] => some 0
  | c :: r => if blank c then some 1 else if c = 47 ∧ r.head? = some 47 then some (lineL (c :: r)) else if c = 47 ∧ r.head? = some 42 then (closeL (r.drop 1)).map (· + 4) else some 0
theorem beq_lst (x y : Str) : (x == y) = (lst x == lst y) := by
  rw [Bool.eq_iff_iff, beq_iff_eq, beq_iff_eq]
  constructor
  · intro h; rw [h]
  · intro h; exact PySem.Str.ext' (Array.toList_inj.mp h)
theorem slice_lst (x : Str) {a b : Nat} (hab : a ≤ b) (ha : a ≤ x.length) : lst (Txt.slice x (some (a : Int)) (some (b : Int))) = ((lst x).drop a).take (b - a) := by
  by_cases hb : b ≤ x.length
  · have h := eq_of_beq (slice_closes (x := x) (i := (a : Int)) (j := (b : Int)) ⟨by omega, by omega, by have : x.cps.toList.length = x.length := rfl; omega⟩)
    rw [h]
    show ((lst x).drop ((a : Int)).toNat).take ((b : Int) - (a : Int)).toNat = _
    have e1 : ((a : Int)).toNat = a := by omega
    have e2 : ((b : Int) - (a : Int)).toNat = b - a := by omega
    rw [e1, e2]
  · have hn : ¬ ((b : Int) < 0) := by omega
    have hn2 : ¬ (((x.length : Nat) : Int) < 0) := by omega
    have e : Builtin.Str.strSliceIndices (some (a : Int)) (some (b : Int)) 1 x.length = Builtin.Str.strSliceIndices (some (a : Int)) (some ((x.length : Nat) : Int)) 1 x.length := by
      have e3 : max (0 : Int) (min (b : Int) (x.length : Int)) = max (0 : Int) (min (x.length : Int) (x.length : Int)) := by omega
      simp only [Builtin.Str.strSliceIndices, hn, hn2, if_false, e3, show ((1 : Int) > 0) = True from by simp, if_true]
    have h := eq_of_beq (slice_closes (x := x) (i := (a : Int)) (j := ((x.length : Nat) : Int)) ⟨by omega, by omega, by have : x.cps.toList.length = x.length := rfl; omega⟩)
    unfold Txt.slice at h ⊢
    rw [e, h]
    show ((lst x).drop ((a : Int)).toNat).take (((x.length : Nat) : Int) - (a : Int)).toNat = _
    have e1 : ((a : Int)).toNat = a := by omega
    have e2 : (((x.length : Nat) : Int) - (a : Int)).toNat = x.length - a := by omega
    rw [e1, e2, List.take_of_length_le (by rw [List.length_drop, lst_length]; exact Nat.le_refl _), List.take_of_length_le (by rw [List.length_drop, lst_length]; omega)]
theorem item_at {x : Str} {i : Nat} (h : i < x.length) : ∃ c r, (lst x).drop i = c :: r ∧ Txt.item x (i : Int) = ⟨#[c]⟩ := by
  have hl : i < (lst x).length := h
  refine ⟨(lst x)[i], (lst x).drop (i + 1), List.drop_eq_getElem_cons hl, ?_⟩
  rw [item_meets ⟨by omega, by omega⟩]
  have e : ((i : Int)).toNat = i := by omega
  have hs : i < x.cps.size := h
  rw [e]
  simp [Array.getD, hs, lst]

section
variable {prog : Program} {w : World} {A : Around} {E : Value → Shared → Prop} {Q : Flow → Shared → Prop} {s : Shared} {env : Env} {h₀ : Heap} {L : Addr}
theorem while_T {σ : Type} {test : PySem.Expr} {body : List Stmt} {pos : Pos} {m₀ : Str → Option Value} (Led : σ → List (Addr × Obj)) (ps : σ → List (Str × Value)) (Facts : σ → Prop) (stored : List Str) (P : σ → Prop) (μ : σ → Nat) (c₀ : σ)
    (F : Fr h₀ L s.heap m₀) (N : News h₀ L s.heap (Led c₀)) (hf : Facts c₀) (hk : ∀ p ∈ ps c₀, m₀ p.1 = some p.2) (hp : P c₀)
    (turn : ∀ (c : σ) (u : Str → Option Value) h tk, Facts c → P c → Fr h₀ L h (kstB (fun z => if stored.contains z then u z else m₀ z) (ps c)) → News h₀ L h (Led c) →
      wpAny (model prog w) A (isTrue test env (eval test env)) (fun b s₂ =>
        if b = true then wpAny (model prog w) A (execs body env) (TurnEnd (KswPost h₀ L s Led ps Facts stored m₀ P μ Q c)) E s₂ else Q .next s₂) E { s with heap := h, toks := tk })
    (hE : PassesOwn (model prog w) A env E := by passes_own) :
    wpAny (model prog w) A (exec (.While test body [] pos) env) Q E s := ksw_while Led ps Facts stored P μ c₀ F N hf hk hp turn hE
end
theorem mark_is {x y : Str} {i a b : Nat} (h : (Txt.slice x (some (i : Int)) (some ((i : Int) + 2)) == y) = true) (hy : lst y = [a, b]) (hi : i ≤ x.length) : ∃ r, (lst x).drop i = a :: b :: r := by
  rw [beq_lst, hy, show ((i : Int) + 2) = ((i + 2 : Nat) : Int) from by omega, slice_lst x (by omega) hi, show i + 2 - i = 2 from by omega, beq_iff_eq] at h
  cases hd : (lst x).drop i with
  | nil => rw [hd] at h; simp at h
  | cons c r =>
    cases r with
    | nil => rw [hd] at h; simp at h
    | cons d r => rw [hd] at h; simp at h; exact ⟨r, by rw [h.1, h.2]⟩
theorem mark_not {x y : Str} {i a b : Nat} (h : (Txt.slice x (some (i : Int)) (some ((i : Int) + 2)) == y) = false) (hy : lst y = [a, b]) (hi : i ≤ x.length) : ∀ r, (lst x).drop i ≠ a :: b :: r := by
  intro r e
  rw [beq_lst, hy, show ((i : Int) + 2) = ((i + 2 : Nat) : Int) from by omega, slice_lst x (by omega) hi, show i + 2 - i = 2 from by omega, e] at h
  simp at h
theorem lst_line : lst ("//" : Str) = [47, 47] := by decide +kernel
theorem lst_open : lst ("/*" : Str) = [47, 42] := by decide +kernel
theorem lst_close : lst ("*/" : Str) = [42, 47] := by decide +kernel
theorem lst_nl : lst ("\n" : Str) = [10] := by decide +kernel
theorem lst_blank : lst (" \t\r\n\x0c\x0b" : Str) = [32, 9, 13, 10, 12, 11] := by decide +kernel
theorem gapL_line {l r : List Nat} (h : l = 47 :: 47 :: r) : gapL l = some (lineL l) := by
  rw [h]; simp [gapL, blank]
theorem gapL_open {l r : List Nat} (h : l = 47 :: 42 :: r) : gapL l = (closeL r).map (· + 4) := by
  rw [h]; simp [gapL, blank]
theorem gapL_blank {l r : List Nat} {c : Nat} (h : l = c :: r) (hc : blank c = true) : gapL l = some 1 := by
  rw [h]; simp [gapL, hc]
theorem gapL_none {l : List Nat} (h0 : ∀ c r, l = c :: r → blank c = false) (h1 : ∀ r, l ≠ 47 :: 47 :: r) (h2 : ∀ r, l ≠ 47 :: 42 :: r) : gapL l = some 0 := by
  cases l with
  | nil => rfl
  | cons c r =>
    have hb := h0 c r rfl
    cases r with
    | nil => simp [gapL, hb]
    | cons d r =>
      have e1 : ¬ (c = 47 ∧ d = 47) := fun e => h1 r (by rw [e.1, e.2])
      have e2 : ¬ (c = 47 ∧ d = 42) := fun e => h2 r (by rw [e.1, e.2])
      simp [gapL, hb, e1, e2]
theorem lineL_stop {l r : List Nat} (h : l = 10 :: r) : lineL l = 0 := by rw [h]; simp [lineL]
theorem lineL_go {l r : List Nat} {c : Nat} (h : l = c :: r) (hc : c ≠ 10) : lineL l = lineL r + 1 := by rw [h]; simp [lineL, hc]
theorem drop_tail {l : List Nat} {i c : Nat} {r : List Nat} (h : l.drop i = c :: r) : l.drop (i + 1) = r := by
  rw [← List.drop_drop, h]; rfl
theorem closeL_stop {l r : List Nat} (h : l = 42 :: 47 :: r) : closeL l = some 0 := by rw [h]; simp [closeL]
theorem closeL_go {l r : List Nat} {c : Nat} (h : l = c :: r) (hn : ∀ r, l ≠ 42 :: 47 :: r) : closeL l = (closeL r).map (· + 1) := by
  have : ¬ (c = 42 ∧ r.head? = some 47) := by
    rintro ⟨rfl, e⟩
    cases r with
    | nil => cases e
    | cons d r => exact hn r (by rw [h]; simp at e; rw [e])
  rw [h]; simp only [closeL, this, if_false]
/-- one code of a text, equal to a text of one code -/
theorem item_is {x y : Str} {i c : Nat} {r : List Nat} (h : (lst x).drop i = c :: r) (hy : lst y = [d]) : (Txt.item x (i : Int) == y) = decide (c = d) := by
  have hi : i < x.length := by
    have : i < (lst x).length := by
      by_cases q : i < (lst x).length
      · exact q
      · rw [List.drop_eq_nil_iff.mpr (by omega)] at h; cases h
    exact this
  obtain ⟨c', r', e1, e2⟩ := item_at hi
  rw [h] at e1
  obtain ⟨rfl, rfl⟩ := List.cons.inj e1
  rw [e2, beq_lst, hy]
  show ([c] == [d]) = _
  by_cases q : c = d
  · simp [q]
  · simp [q]

local macro_rules | `(tactic| k_all) => `(tactic| assumption)
local macro_rules | `(tactic| open_k0) => `(tactic| repeat' (first | ((fail_if_success (with_reducible show wpAny _ _ (exec (Stmt.For _ _ _ _ _) _) _ _ _)); (fail_if_success (with_reducible show wpAny _ _ (exec (Stmt.While _ _ _ _) _) _ _ _)); (fail_if_success (with_reducible show wpAny _ _ (pyIter _) _ _ _)); first | (k_unfold; (try dsimp only)) | (k_end; wrow_close) | walk1 | (dsimp only; walk1) | (leave1; walk_say "STEP leave1"; try dsimp only)) | fail "no step"))
local macro_rules | `(tactic| open_x) => `(tactic| ((try dsimp only); (try unfold TurnEnd); (try dsimp only [InvPostN, InvPostG, KswPost])))
theorem fresh_Pick : True := by
  w_top off
  trivial
abbrev PR : Program := PySem.Challenge.rw_nn0295_01.row.toRowW.prog
theorem fmod_nn {a b : Int} (hb : 0 < b) : 0 ≤ a.fmod b := by
  rw [Int.fmod_eq_emod_of_nonneg _ (Int.le_of_lt hb)]; exact Int.emod_nonneg _ (by omega)
theorem fmod_lt {a b : Int} (hb : 0 < b) : a.fmod b < b := by
  rw [Int.fmod_eq_emod_of_nonneg _ (Int.le_of_lt hb)]; exact Int.emod_lt_of_pos _ hb
abbrev poolO (fl : Addr) (i : Int) (ti : Tok) (mx : Int) (tm : Tok) (n : Nat) : Obj := PySem.W.listOf #[.ref fl, .int i ti, .int mx tm] n
set_option maxRecDepth 100000 in
set_option maxHeartbeats 8000000 in
theorem pick_spec {w : World} {p : Program} {loose : List Str} {mean : ExcName → Option Value} {mg mb : Str → Option Value}
  {dp un : Nat} {gd : Option (List Code)} {cn : Str} {cs : Scope} {a : Addr} {ccd : Value} {cl : List (Str × Addr)} {outer : List Env} {A₀ : Around} {base h₀ : Heap} {L : Addr} {m : Str → Option Value} {s : Shared}
  {Q E : Value → Shared → Prop}
  {l fl : Addr} {vs : List Value} {figs : List Int} {i mx b : Int} {ti tm tb : Tok} {n nf : Nat} {rest : List (Addr × Obj)}
  (B : Below A₀ base outer h₀) (F : Fr h₀ L s.heap m) (X : (Mine.hd.heap_39 w.params).In h₀)
  (N : News h₀ L s.heap ((l, poolO fl i ti mx tm n) :: (fl, listOf vs.toArray nf) :: rest)) (T : Top p loose mean mg mb h₀)
  (hk : cs.kind = .function) (hd : dp + 1 < recursionLimit) (hu : un + 8 < cLine)
  (hi : IntsAre vs figs) (hlen : figs.length ≤ 1000) (hi0 : 0 ≤ i) (hm0 : 0 ≤ mx) (hm1 : mx < 1009) (hb : 0 < b) (hb2 : b < 1000) (hne : fl ≠ l) (hr : ∀ p ∈ rest, p.1 ≠ l)
  (ret : ∀ k t i' ti' mx' tm' h' tk', Fr h₀ L h' m → News h₀ L h' ((l, poolO fl i' ti' mx' tm' n) :: (fl, listOf vs.toArray nf) :: rest) → 0 ≤ k → k < b → 0 ≤ i' → 0 ≤ mx' → mx' < 1009 → Q (.int k t) { s with heap := h', toks := tk' }) :
  wpAny (model PR w) (ktrTop dp un gd cn cs L a ccd cl outer) (call (.ref 96) [.ref l, .int b tb]) Q E s := by
  unfold PR; revert X; k_fill; intro X
  refine wpAny_call ?_
  k_dflt ktr_enter
  k_steps
  · refine' ret _ _ _ _ _ _ _ _ ?F1 ?N1 (fmod_nn hb) (fmod_lt hb) ?G1 hm0 hm1
    case F1 => assumption
    case N1 => assumption
    omega
  · refine' ret _ _ _ _ _ _ _ _ ?F2 ?N2 (fmod_nn hb) (fmod_lt hb) hi0 hm0 hm1
    case F2 => assumption
    case N2 => assumption
  · refine' ret _ _ _ _ _ _ _ _ ?F3 ?N3 (fmod_nn hb) (fmod_lt hb) hi0 ?_ ?_
    case F3 => assumption
    case N3 => assumption
    · exact fmod_nn (by decide)
    · exact fmod_lt (by decide)

theorem upd_news {h₀ h : Heap} {L l : Addr} {o o' : Obj} {pre post news news' : List (Addr × Obj)} {q : Addr × Obj} (e : news = pre ++ (l, o) :: post) (U : Upd l o o' news news') (h1 : ∀ p ∈ pre, p.1 ≠ l) (h2 : ∀ p ∈ post, p.1 ≠ l)
    (N : News h₀ L h ((l, o') :: q :: (pre ++ post))) : News h₀ L h news' := by
  obtain ⟨pre', post', e1, e2, u1, u2⟩ := U.split
  have key : ∀ p ∈ news, p.1 ≠ l → p ∈ pre ++ post := by
    intro p hp hne
    rw [e] at hp
    rcases List.mem_append.mp hp with hp | hp
    · exact List.mem_append.mpr (.inl hp)
    · rcases List.mem_cons.mp hp with hp | hp
      · exact absurd (by rw [hp]) hne
      · exact List.mem_append.mpr (.inr hp)
  intro p hp
  rw [e2] at hp
  rcases List.mem_append.mp hp with hp | hp
  · exact N p (.tail _ (.tail _ (key p (by rw [e1]; exact List.mem_append.mpr (.inl hp)) (u1 p hp))))
  · rcases List.mem_cons.mp hp with hp | hp
    · rw [hp]; exact N _ (.head _)
    · exact N p (.tail _ (.tail _ (key p (by rw [e1]; exact List.mem_append.mpr (.inr (.tail _ hp))) (u2 p hp))))

theorem pick_use {w : World} {p : Program} {loose : List Str} {mean : ExcName → Option Value} {mg mb : Str → Option Value}
  {dp un : Nat} {gd : Option (List Code)} {cn : Str} {cs : Scope} {a : Addr} {ccd : Value} {cl : List (Str × Addr)} {outer : List Env} {A₀ : Around} {base h₀ : Heap} {L : Addr} {m : Str → Option Value} {s : Shared}
  {Q E : Value → Shared → Prop}
  {l fl : Addr} {vs : List Value} {figs : List Int} {i mx b : Int} {ti tm tb : Tok} {n nf : Nat} {news : List (Addr × Obj)} (ups : Obj → List (Addr × Obj))
  (B : Below A₀ base outer h₀) (F : Fr h₀ L s.heap m) (X : (Mine.hd.heap_39 w.params).In h₀)
  (N : News h₀ L s.heap news) (T : Top p loose mean mg mb h₀)
  (hk : cs.kind = .function) (hd : dp + 1 < recursionLimit) (hu : un + 8 < cLine)
  (hU : ∀ o', Upd l (poolO fl i ti mx tm n) o' news (ups o')) (hfl : (fl, listOf vs.toArray nf) ∈ news) (hne : fl ≠ l)
  (hi : IntsAre vs figs) (hlen : figs.length ≤ 1000) (hi0 : 0 ≤ i) (hm0 : 0 ≤ mx) (hm1 : mx < 1009) (hb : 0 < b) (hb2 : b < 1000)
  (ret : ∀ k t i' ti' mx' tm' h' tk', Fr h₀ L h' m → News h₀ L h' (ups (poolO fl i' ti' mx' tm' n)) → 0 ≤ k → k < b → 0 ≤ i' → 0 ≤ mx' → mx' < 1009 → Q (.int k t) { s with heap := h', toks := tk' }) :
  wpAny (model PR w) (ktrTop dp un gd cn cs L a ccd cl outer) (call (.ref 96) [.ref l, .int b tb]) Q E s := by
  obtain ⟨pre, post, e1, e2, u1, u2⟩ := (hU (poolO fl i ti mx tm n)).split
  refine pick_spec (rest := pre ++ post) (nf := nf) (i := i) (mx := mx) (ti := ti) (tm := tm) (n := n) B F X ?_ T hk hd hu hi hlen hi0 hm0 hm1 hb hb2 hne ?_ ?_
  · intro q hq
    rcases List.mem_cons.mp hq with hq | hq
    · rw [hq]; exact N _ (by rw [e1]; exact List.mem_append.mpr (.inr (.head _)))
    · rcases List.mem_cons.mp hq with hq | hq
      · rw [hq]; exact N _ hfl
      · exact N q (by rw [e1]; rcases List.mem_append.mp hq with hq | hq; exact List.mem_append.mpr (.inl hq); exact List.mem_append.mpr (.inr (.tail _ hq)))
  · intro q hq
    rcases List.mem_append.mp hq with hq | hq
    · exact u1 q hq
    · exact u2 q hq
  · intro k t i' ti' mx' tm' h' tk' F' N' a1 a2 a3 a4 a5
    exact ret k t i' ti' mx' tm' h' tk' F' (upd_news e1 (hU _) u1 u2 N') a1 a2 a3 a4 a5

local macro_rules | `(tactic| walk_at "call ref") => `(tactic| (k_here; (with_reducible show wpAny _ _ (call (Value.ref 96) _) _ _ _);  k_dflt (refine' pick_use _ ?k1 ?k2 ?k3 ?k4 ?k5 ?kK ?kd ?ku ?kU ?kfl ?kne ?ki ?kl ?k0 ?km ?kM ?kb ?kb2 ?_;    (case k1 => k_asm); (case k2 => k_asm); (case k3 => k_asm); (case k4 => k_asm); (case k5 => k_asm); (case kU => (intro o9; k_upd)); (case kK => first | exact rfl | assumption);    (case kd => ktr_room); (case ku => ktr_units); (case kfl => k_mem); (case kne => first | assumption | omega); (case ki => assumption); (case kl => first | assumption | omega); (case k0 => first | assumption | omega);    (case km => first | assumption | omega); (case kM => first | assumption | omega); (case kb => first | decide | assumption | omega); (case kb2 => first | decide | assumption | omega));  intro k9 t9 i9 ti9 m9 tm9 h9 tk9 F9 N9 c91 c92 c93 c94 c95; (try dsimp only at N9 ⊢); (try k_sweep); (try k_fold)))
theorem fresh_Gap : True := by
  w_top off
  trivial
/-- the six gaps -/
def gaps : List Str := [" ", "\n", "\t\r\n", " // @3 x\n", "/* 1 */", "\n/* @ ** /\n*/ "]

set_option maxRecDepth 100000 in
set_option maxHeartbeats 8000000 in
theorem gap_spec {w : World} {p : Program} {loose : List Str} {mean : ExcName → Option Value} {mg mb : Str → Option Value}
  {dp un : Nat} {gd : Option (List Code)} {cn : Str} {cs : Scope} {a : Addr} {ccd : Value} {cl : List (Str × Addr)} {outer : List Env} {A₀ : Around} {base h₀ : Heap} {L : Addr} {m : Str → Option Value} {s : Shared}
  {Q E : Value → Shared → Prop}
  {l fl : Addr} {vs : List Value} {figs : List Int} {i mx : Int} {ti tm : Tok} {n nf : Nat} {rest : List (Addr × Obj)}
  (B : Below A₀ base outer h₀) (F : Fr h₀ L s.heap m) (X : (Mine.hd.heap_39 w.params).In h₀)
  (N : News h₀ L s.heap ((l, poolO fl i ti mx tm n) :: (fl, PySem.W.listOf vs.toArray nf) :: rest)) (T : Top p loose mean mg mb h₀)
  (hk : cs.kind = .function) (hd : dp + 2 < recursionLimit) (hu : un + 16 < cLine)
  (hi : IntsAre vs figs) (hlen : figs.length ≤ 1000) (hi0 : 0 ≤ i) (hm0 : 0 ≤ mx) (hm1 : mx < 1009) (hne : fl ≠ l) (hr : ∀ p ∈ rest, p.1 ≠ l)
  (ret : ∀ x t i' ti' mx' tm' h' tk', Fr h₀ L h' m → News h₀ L h' ((l, poolO fl i' ti' mx' tm' n) :: (fl, PySem.W.listOf vs.toArray nf) :: rest) → x ∈ gaps → 0 ≤ i' → 0 ≤ mx' → mx' < 1009 → Q (.str x t) { s with heap := h', toks := tk' }) :
  wpAny (model PR w) (ktrTop dp un gd cn cs L a ccd cl outer) (call (.ref 110) [.ref l]) Q E s := by
  unfold PR; revert X; k_fill; intro X
  refine wpAny_call ?_
  k_dflt ktr_enter
  k_steps
  rename_i k9 t9 i9 ti9 m9 tm9 h9 tk9 F9 N9 c91 c92 c93 c94 c95
  have hc : k9 = 0 ∨ k9 = 1 ∨ k9 = 2 ∨ k9 = 3 ∨ k9 = 4 ∨ k9 = 5 := by omega
  rcases hc with rfl | rfl | rfl | rfl | rfl | rfl
  all_goals k_steps
  all_goals (
    rename News _ _ _ _ => kN9
    refine' ret _ _ _ _ _ _ _ _ ?F1 (fun p hp => kN9 p (.tail _ hp)) ?G1 ?g1 ?g2 ?g3
    case F1 => assumption
    case G1 => simp [gaps]
    case g1 => assumption
    case g2 => assumption
    case g3 => assumption)

theorem fresh_Word : True := by
  w_top off
  trivial
set_option maxRecDepth 100000 in
set_option maxHeartbeats 8000000 in
theorem gap_use {w : World} {p : Program} {loose : List Str} {mean : ExcName → Option Value} {mg mb : Str → Option Value}
  {dp un : Nat} {gd : Option (List Code)} {cn : Str} {cs : Scope} {a : Addr} {ccd : Value} {cl : List (Str × Addr)} {outer : List Env} {A₀ : Around} {base h₀ : Heap} {L : Addr} {m : Str → Option Value} {s : Shared}
  {Q E : Value → Shared → Prop}
  {l fl : Addr} {vs : List Value} {figs : List Int} {i mx : Int} {ti tm : Tok} {n nf : Nat} {news : List (Addr × Obj)} (ups : Obj → List (Addr × Obj))
  (B : Below A₀ base outer h₀) (F : Fr h₀ L s.heap m) (X : (Mine.hd.heap_39 w.params).In h₀)
  (N : News h₀ L s.heap news) (T : Top p loose mean mg mb h₀)
  (hk : cs.kind = .function) (hd : dp + 2 < recursionLimit) (hu : un + 16 < cLine)
  (hU : ∀ o', Upd l (poolO fl i ti mx tm n) o' news (ups o')) (hfl : (fl, PySem.W.listOf vs.toArray nf) ∈ news) (hne : fl ≠ l)
  (hi : IntsAre vs figs) (hlen : figs.length ≤ 1000) (hi0 : 0 ≤ i) (hm0 : 0 ≤ mx) (hm1 : mx < 1009)
  (ret : ∀ x t i' ti' mx' tm' h' tk', Fr h₀ L h' m → News h₀ L h' (ups (poolO fl i' ti' mx' tm' n)) → x ∈ gaps → 0 ≤ i' → 0 ≤ mx' → mx' < 1009 → Q (.str x t) { s with heap := h', toks := tk' }) :
  wpAny (model PR w) (ktrTop dp un gd cn cs L a ccd cl outer) (call (.ref 110) [.ref l]) Q E s := by
  obtain ⟨pre, post, e1, e2, u1, u2⟩ := (hU (poolO fl i ti mx tm n)).split
  refine gap_spec (rest := pre ++ post) (nf := nf) (i := i) (mx := mx) (ti := ti) (tm := tm) (n := n) B F X ?_ T hk hd hu hi hlen hi0 hm0 hm1 hne ?_ ?_
  · intro q hq
    rcases List.mem_cons.mp hq with hq | hq
    · rw [hq]; exact N _ (by rw [e1]; exact List.mem_append.mpr (.inr (.head _)))
    · rcases List.mem_cons.mp hq with hq | hq
      · rw [hq]; exact N _ hfl
      · exact N q (by rw [e1]; rcases List.mem_append.mp hq with hq | hq; exact List.mem_append.mpr (.inl hq); exact List.mem_append.mpr (.inr (.tail _ hq)))
  · intro q hq
    rcases List.mem_append.mp hq with hq | hq
    · exact u1 q hq
    · exact u2 q hq
  · intro k t i' ti' mx' tm' h' tk' F' N' a1 a3 a4 a5
    exact ret k t i' ti' mx' tm' h' tk' F' (upd_news e1 (hU _) u1 u2 N') a1 a3 a4 a5


/-- the loop of `_law_word`: a word and the pool turn -/
theorem kw_word {prog : Program} {w : World} {A : Around} {E : Value → Shared → Prop} {s : Shared} {env : Env} {h₀ : Heap} {body : List Stmt} {Q : Flow → Shared → Prop}
    {r : Addr} {k : Int} {t₀ u₀ v₀ tx : Tok} {m₀ : Str → Option Value} {l fl : Addr} {n nf : Nat} {vs : List Value} {rest : List (Addr × Obj)} {b : Bool} {x : Str} {i mx : Int} {ti tm : Tok}
    (hh : A.handled = none) (hr : IsRange s.heap r 0 k 1 t₀ u₀ v₀) (F : Fr h₀ env.locals s.heap m₀) (N : News h₀ env.locals s.heap ((l, poolO fl i ti mx tm n) :: (fl, PySem.W.listOf vs.toArray nf) :: rest))
    (hk0 : 0 ≤ k) (hk1 : k < 4) (hx : WordOk b x) (hl : x.length = 1) (hm : m₀ ("text" : Str) = some (.str x tx)) (hf : 0 ≤ i ∧ 0 ≤ mx ∧ mx < 1009)
    (turn : ∀ (x : Str) (tx : Tok) (i : Int) (ti : Tok) (mx : Int) (tm : Tok) (k : Int) (tk : Tok) h tk' own, WordOk b x → x.length ≤ 4 → 0 ≤ i → 0 ≤ mx → mx < 1009 → OwnOff own (l :: fl :: rest.map (·.1)) →
      Fr h₀ env.locals h (fun y => if y = ("step" : Str) then some (.int k tk) else if y = ("text" : Str) then some (.str x tx) else m₀ y) → News h₀ env.locals h ((l, poolO fl i ti mx tm n) :: (fl, PySem.W.listOf vs.toArray nf) :: (rest ++ own)) →
      wpAny (model prog w) A (execs body env) (TurnEnd fun f s₂ => f = .next ∧ ∃ x' tx' i' ti' mx' tm' h' tk' m', s₂ = { s with heap := h', toks := tk' } ∧ WordOk b x' ∧ x'.length ≤ x.length + 1 ∧ 0 ≤ i' ∧ 0 ≤ mx' ∧ mx' < 1009 ∧ Fr h₀ env.locals h' m' ∧
        News h₀ env.locals h' ((l, poolO fl i' ti' mx' tm' n) :: (fl, PySem.W.listOf vs.toArray nf) :: (rest ++ own)) ∧ m' ("text" : Str) = some (.str x' tx') ∧ ∀ z, z ≠ ("step" : Str) → z ≠ ("text" : Str) → m' z = m₀ z) E { s with heap := h, toks := tk' })
    (done : ∀ (x : Str) (tx : Tok) (i : Int) (ti : Tok) (mx : Int) (tm : Tok) (u : Str → Option Value) h tk', WordOk b x → x.length ≤ 4 → 0 ≤ i → 0 ≤ mx → mx < 1009 →
      Fr h₀ env.locals h (fun y => if y = ("step" : Str) then u y else if y = ("text" : Str) then some (.str x tx) else m₀ y) → News h₀ env.locals h ((l, poolO fl i ti mx tm n) :: (fl, PySem.W.listOf vs.toArray nf) :: rest) → Q .next { s with heap := h, toks := tk' }) :
    wpAny (model prog w) A (pyIter (.ref r)) (fun it s₂ => LoopAtV prog w A h₀ env "step" body Q E it s₂) E s := by
  have hsz : Builtin.Range.rangeSize 0 k 1 = (k.toNat : Int) := by
    rw [rangeSize_nat]; simp
  have hsm : Builtin.Range.small 0 k 1 = true := small_one (by decide) (by decide) (by omega) (by omega)
  refine kst_range (σ := Str × Tok × Int × Tok × Int × Tok) (n := k.toNat) (fun c => (l, poolO fl c.2.2.1 c.2.2.2.1 c.2.2.2.2.1 c.2.2.2.2.2 n) :: (fl, PySem.W.listOf vs.toArray nf) :: rest) (fun c => [("text", .str c.1 c.2.1)])
    (fun c => 0 ≤ c.2.2.1 ∧ 0 ≤ c.2.2.2.2.1 ∧ c.2.2.2.2.1 < 1009) [] (fun pre c => WordOk b c.1 ∧ c.1.length ≤ 1 + pre.length) (x, tx, i, ti, mx, tm) hh hr hsm hsz F N hf ?_ ⟨hx, ?_⟩ ?_ ?_
  · intro p hp; rw [List.mem_singleton.mp hp]; exact hm
  · simp [hl]
  · rintro ⟨x, tx, i, ti, mx, tm⟩ pre k' t u h tk own hk' hlt hoff ⟨f1, f2, f3⟩ ⟨p1, p2⟩ F N
    refine wpAny_mono (turn x tx i ti mx tm k' t h tk own p1 ?_ f1 f2 f3 hoff F N) (fun f s₂ q => ?_) fun _ _ e => e
    · simp only at p2; omega
    · obtain ⟨rfl, x', tx', i', ti', mx', tm', h', tk', m', rfl, q1, q2, q3, q4, q5, F', N', q6, q7⟩ := q
      refine kst_end (x := "step") (x', tx', i', ti', mx', tm') F' N' (fun p hp => ?_) (fun p hp => ?_) rfl ⟨q3, q4, q5⟩ ?_ ?_ ⟨q1, ?_⟩
      · rcases List.mem_cons.mp hp with rfl | hp
        · exact .head _
        · rcases List.mem_cons.mp hp with rfl | hp
          · exact .tail _ (.head _)
          · exact .tail _ (.tail _ (List.mem_append.mpr (.inl hp)))
      · exact .tail _ (.tail _ (List.mem_append.mpr (.inr hp)))
      · intro p hp; rw [List.mem_singleton.mp hp]; exact q6
      · intro z h1 h2 _; exact q7 z h1 (h2 _ (.head _))
      · rw [List.length_append]; simp only [List.length_cons, List.length_nil]; simp only at p2 q2 ⊢; omega
  · rintro ⟨x, tx, i, ti, mx, tm⟩ u h tk ⟨f1, f2, f3⟩ ⟨p1, p2⟩ F N
    refine done x tx i ti mx tm u h tk p1 ?_ f1 f2 f3 F N
    rw [rangeKs_length] at p2; simp only at p2; omega

set_option maxRecDepth 100000 in
set_option maxHeartbeats 8000000 in
theorem word_spec {w : World} {p : Program} {loose : List Str} {mean : ExcName → Option Value} {mg mb : Str → Option Value}
  {dp un : Nat} {gd : Option (List Code)} {cn : Str} {cs : Scope} {a : Addr} {ccd : Value} {cl : List (Str × Addr)} {outer : List Env} {A₀ : Around} {base h₀ : Heap} {L : Addr} {m : Str → Option Value} {s : Shared}
  {Q E : Value → Shared → Prop}
  {l fl : Addr} {vs : List Value} {figs : List Int} {i mx : Int} {ti tm : Tok} {n nf : Nat} {rest : List (Addr × Obj)} (b : Bool)
  (B : Below A₀ base outer h₀) (F : Fr h₀ L s.heap m) (X : (Mine.hd.heap_39 w.params).In h₀)
  (N : News h₀ L s.heap ((l, poolO fl i ti mx tm n) :: (fl, PySem.W.listOf vs.toArray nf) :: rest)) (T : Top p loose mean mg mb h₀)
  (hk : cs.kind = .function) (hd : dp + 2 < recursionLimit) (hu : un + 16 < cLine)
  (hi : IntsAre vs figs) (hlen : figs.length ≤ 1000) (hi0 : 0 ≤ i) (hm0 : 0 ≤ mx) (hm1 : mx < 1009) (hne : fl ≠ l) (hr : ∀ p ∈ rest, p.1 ≠ l)
  (ret : ∀ x t i' ti' mx' tm' h' tk', Fr h₀ L h' m → News h₀ L h' ((l, poolO fl i' ti' mx' tm' n) :: (fl, PySem.W.listOf vs.toArray nf) :: rest) → WordOk b x → x.length ≤ 4 → 0 ≤ i' → 0 ≤ mx' → mx' < 1009 → Q (.str x t) { s with heap := h', toks := tk' }) :
  wpAny (model PR w) (ktrTop dp un gd cn cs L a ccd cl outer) (call (.ref 103) [.ref l, .bool b]) Q E s := by
  cases b
  all_goals (
    unfold PR; revert X; k_fill; intro X
    refine wpAny_call ?_
    k_dflt ktr_enter
    open_k0
    rename Fr _ _ _ _ => F9
    with_unfolding_all refine' For_invVF F9 ?k1 ?k2 ?_
    case k1 => exact rfl
    case k2 => exact rfl
    open_k0)
  · rename_i k9 t9 i9 ti9 m9 tm9 h9 tk9 F9 N9 c91 c92 c93 c94 c95 h2 tk2 t1 u1 v1 hrg F2 N2 hkp
    refine kw_word (k := k9) (b := false) rfl hrg F2 N2 c91 c92 (wordOk_one (b := false) (by assumption) (by assumption)) (by assumption) rfl ⟨c93, c94, c95⟩ ?_ ?_
    · intro x tx i ti mx tm k tk h tk' own q1 q2 q3 q4 q5 hoff F N
      have hr2 : ∀ p ∈ rest ++ own, p.1 ≠ l := by
        intro p hp
        rcases List.mem_append.mp hp with hp | hp
        · exact hr p hp
        · exact hoff p hp l (.head _)
      open_k0
      rename Fr _ _ _ _ => F8
      rename News _ _ _ _ => N8
      unfold TurnEnd
      refine ⟨rfl, _, _, _, _, _, _, _, _, _, rfl, wordOk_more (b := false) (by assumption) (by assumption) q1, ?_, by assumption, by assumption, by assumption, F8, N8, rfl, fun z h1 h2 => ?_⟩
      · exact word_len (by assumption) (by assumption)
      · simp [h1, h2]
    · intro x tx i ti mx tm u h tk' q1 q2 q3 q4 q5 F N
      open_k0
      refine' ret _ _ _ _ _ _ _ _ ?F1 ?N1 q1 q2 q3 q4 q5
      case F1 => assumption
      case N1 => assumption
  · rename_i k9 t9 i9 ti9 m9 tm9 h9 tk9 F9 N9 c91 c92 c93 c94 c95 h2 tk2 t1 u1 v1 hrg F2 N2 hkp
    refine kw_word (k := k9) (b := true) rfl hrg F2 N2 c91 c92 (wordOk_one (b := true) (by assumption) (by assumption)) (by assumption) rfl ⟨c93, c94, c95⟩ ?_ ?_
    · intro x tx i ti mx tm k tk h tk' own q1 q2 q3 q4 q5 hoff F N
      have hr2 : ∀ p ∈ rest ++ own, p.1 ≠ l := by
        intro p hp
        rcases List.mem_append.mp hp with hp | hp
        · exact hr p hp
        · exact hoff p hp l (.head _)
      open_k0
      rename Fr _ _ _ _ => F8
      rename News _ _ _ _ => N8
      unfold TurnEnd
      refine ⟨rfl, _, _, _, _, _, _, _, _, _, rfl, wordOk_more (b := true) (by assumption) (by assumption) q1, ?_, by assumption, by assumption, by assumption, F8, N8, rfl, fun z h1 h2 => ?_⟩
      · exact word_len (by assumption) (by assumption)
      · simp [h1, h2]
    · intro x tx i ti mx tm u h tk' q1 q2 q3 q4 q5 F N
      open_k0
      refine' ret _ _ _ _ _ _ _ _ ?F1 ?N1 q1 q2 q3 q4 q5
      case F1 => assumption
      case N1 => assumption

theorem fresh_Pool : True := by
  w_top off
  trivial
set_option maxRecDepth 100000 in
set_option maxHeartbeats 8000000 in
theorem pool_spec {w : World} {p : Program} {loose : List Str} {mean : ExcName → Option Value} {mg mb : Str → Option Value}
  {dp un : Nat} {gd : Option (List Code)} {cn : Str} {cs : Scope} {a : Addr} {ccd : Value} {cl : List (Str × Addr)} {outer : List Env} {A₀ : Around} {base h₀ : Heap} {L : Addr} {m : Str → Option Value} {s : Shared}
  {Q E : Value → Shared → Prop}
  {sc : Addr} {ws : List Value} {ns : List Int}
  (B : Below A₀ base outer h₀) (F : Fr h₀ L s.heap m) (X : (Mine.hd.heap_39 w.params).In h₀)
  (N : News h₀ L s.heap []) (T : Top p loose mean mg mb h₀)
  (hk : cs.kind = .function) (hd : dp + 1 < recursionLimit) (hu : un + 8 < cLine)
  (hsc : h₀.IsList sc ws.toArray) (hws : IntsAre ws ns) (hlen : ns.length ≤ 63)
  (ret : ∀ l fl (figs : List Int) (vs : List Value) mx tm t0 h' tk' n nf, Fr h₀ L h' m → News h₀ L h' [(l, poolO fl 0 t0 mx tm n), (fl, PySem.W.listOf vs.toArray nf)] → IntsAre vs figs → figs.length ≤ 1000 → 0 ≤ mx → mx < 1009 → Q (.ref l) { s with heap := h', toks := tk' }) :
  wpAny (model PR w) (ktrTop dp un gd cn cs L a ccd cl outer) (call (.ref 89) [.ref sc]) Q E s := by
  unfold PR; revert X; k_fill; intro X
  refine wpAny_call ?_
  k_dflt ktr_enter
  (rename Fr h₀ L _ m => FGx)
  have hsc2 := stays_list FGx.keep hsc
  open_k0
  rename Fr _ _ _ _ => F9
  with_unfolding_all refine' For_invVF F9 ?k1 ?k2 ?_
  case k1 => exact rfl
  case k2 => exact rfl
  open_k0
  rename_i fl9 h1 l1 h2 h3 D9 ws9 h4 F9 N9 hI9 hC9 hL9 l19
  refine kst_listL (σ := List Value × List Int × Nat × Int × Tok) (fun c => [(D9, PySem.W.listOf ws9.toArray 0), (fl9, PySem.W.listOf c.1.toArray c.2.2.1)]) (fun c => [(("mix" : Str), .int c.2.2.2.1 c.2.2.2.2)])
    (fun c => IntsAre c.1 c.2.1) ["big", "rest", "step"] (fun _ c => c.2.1.length ≤ 400 ∧ 0 ≤ c.2.2.2.1 ∧ c.2.2.2.1 < 1009) ([], [], 0, 5, tk) rfl (fun c => .head _) hI9 F9 N9 .nil ?_ ⟨Nat.zero_le _, (by show (0 : Int) ≤ 5; decide), (by show (5 : Int) < 1009; decide)⟩ ?_ ?_
  · intro p hp; rw [List.mem_singleton.mp hp]; rfl
  · rintro ⟨vs, figs, nf, mx, tm⟩ pre post n t u h tk own e hn hoff hfs ⟨q1, q2, q3⟩ F N
    dsimp only at hfs q1 q2 q3 F N hoff
    refine te ?_
    open_k0
    rename Fr _ _ _ _ => F5
    with_unfolding_all refine' For_invVF F5 ?k3 ?k4 ?_
    case k3 => exact rfl
    case k4 => exact rfl
    open_k0
    rename_i h5 h6 u5 tk5 h7 F7 N7 h8 tk8 t8 u8 v8 hrg F8 N8 hkp
    have hoD : ∀ p ∈ own, p.1 ≠ D9 := fun p hp => hoff p hp D9 (.head _)
    have hoF : ∀ p ∈ own, p.1 ≠ fl9 := fun p hp => hoff p hp fl9 (.tail _ (.head _))
    have hr0 : (0 : Int) ≤ (if n < 0 then -n else n) := by split <;> omega
    refine kst_range (σ := List Value × List Int × Nat × Int × Tok) (n := 60) (fun c => (D9, PySem.W.listOf ws9.toArray 0) :: (fl9, PySem.W.listOf c.1.toArray c.2.2.1) :: own) (fun c => [(("rest" : Str), .int c.2.2.2.1 c.2.2.2.2)])
      (fun c => IntsAre c.1 c.2.1) [] (fun pre c => c.2.1.length ≤ 400 + pre.length ∧ 0 ≤ c.2.2.2.1) (vs, figs, nf, (if n < 0 then -n else n), u5) rfl hrg (by decide) (by decide) F8 N8 hfs ?_ ⟨q1, hr0⟩ ?_ ?_
    · intro p hp; rw [List.mem_singleton.mp hp]; rfl
    · rintro ⟨vs, figs, nf, re, tr⟩ pre2 k t2 u2 h tk0 own2 hk2 hlt hoff2 hfs2 ⟨q4, q5⟩ F N
      dsimp only at hfs2 q4 q5 F N hoff2
      have ho2D : ∀ p ∈ own2, p.1 ≠ D9 := fun p hp => hoff2 p hp D9 (.head _)
      have ho2F : ∀ p ∈ own2, p.1 ≠ fl9 := fun p hp => hoff2 p hp fl9 (.tail _ (.head _))
      have hoo : ∀ p ∈ own ++ own2, p.1 ≠ fl9 := fun p hp => (List.mem_append.mp hp).elim (hoF p) (ho2F p)
      simp only [List.cons_append] at N
      refine te ?_
      open_k0
      · open_x
        have hI7 : IntsAre (vs ++ [Value.int (re.fmod 840) (tk0 + 1)]) (figs ++ [re.fmod 840]) := hfs2.append (.cons _ _ .nil)
        have hl7 : (figs ++ [re.fmod 840]).length = figs.length + 1 := by simp
        rename News _ _ _ _ => N7
        rename Fr _ _ _ _ => F7
        simp only [List.push_toArray] at N7
        open_k0
        · open_x
          open_k0
          rename News _ _ _ _ => kN9
          refine' ret _ _ (figs ++ [re.fmod 840]) (vs ++ [Value.int (re.fmod 840) (tk0 + 1)]) _ _ _ _ _ _ (nf + 1) ?F1 (fun p hp => kN9 p ?G1) hI7 ?g1 (fmod_nn (by decide)) (fmod_lt (by decide))
          case F1 => assumption
          case G1 =>
            rcases List.mem_cons.mp hp with hp | hp
            · rw [hp]; exact .head _
            · rw [List.mem_singleton.mp hp]; exact .tail _ (.tail _ (.head _))
          case g1 => omega
        · open_x
          rename News _ _ _ _ => N8
          rename Fr _ _ _ _ => F8
          refine kst_end (x := ("cell" : Str)) (vs ++ [Value.int (re.fmod 840) (tk0 + 1)], figs ++ [re.fmod 840], nf + 1, (mx * 31 + n).fmod 1009, h5 + 1 + 1 + 1 + 1) F8 N8 (fun p hp => ?_) (fun p hp => ?_) rfl hI7 ?_ ?_ ⟨?_, fmod_nn (by decide), fmod_lt (by decide)⟩
          · rcases List.mem_cons.mp hp with hp | hp
            · rw [hp]; exact .head _
            · rw [List.mem_singleton.mp hp]; exact .tail _ (.head _)
          · exact .tail _ (.tail _ (List.mem_append.mpr (.inl hp)))
          · intro p hp; rw [List.mem_singleton.mp hp]; rfl
          · intro z h1 h2 h3
            have h4 : z ≠ ("mix" : Str) := h2 _ (.head _)
            simp only [List.contains_cons, List.contains_nil, Bool.or_false, Bool.or_eq_false_iff, beq_eq_false_iff_ne, ne_eq] at h3
            simp [h1, h3, h4, kstB]
          · dsimp only; omega
      · open_x
        rename News _ _ _ _ => N7
        rename Fr _ _ _ _ => F7
        simp only [List.push_toArray] at N7
        refine' kst_end (x := ("step" : Str)) (vs ++ [Value.int (re.fmod 840) (tk0 + 1)], figs ++ [re.fmod 840], nf + 1, re.fdiv 840, _) F7 N7 ?d1 ?d2 rfl (hfs2.append (.cons _ _ .nil)) ?d3 ?d4 ⟨?d5, ?d6⟩
        case d3 => intro p hp; rw [List.mem_singleton.mp hp]; rfl
        case d1 =>
          intro p hp
          rcases List.mem_cons.mp hp with hp | hp
          · rw [hp]; exact .head _
          · rcases List.mem_cons.mp hp with hp | hp
            · rw [hp]; exact .tail _ (.head _)
            · exact .tail _ (.tail _ (List.mem_append.mpr (.inl hp)))
        case d2 => exact fun p hp => .tail _ (.tail _ (List.mem_append.mpr (.inr hp)))
        case d4 =>
          intro z h1 h2 _
          have h4 : z ≠ ("rest" : Str) := h2 _ (.head _)
          simp [h1, h4, kstB]
        case d5 => simp only [List.length_append, List.length_cons, List.length_nil]; omega
        case d6 => exact Int.fdiv_nonneg q5 (by decide)
    · rintro ⟨vs, figs, nf, re, tr⟩ u2 h tk hfs2 ⟨q4, q5⟩ F N
      dsimp only at hfs2 q4 q5 F N
      rw [rangeKs_length] at q4
      open_k0
      · open_x
        open_k0
        rename News _ _ _ _ => kN9
        refine' ret _ _ figs vs _ _ _ _ _ _ nf ?F1 (fun p hp => kN9 p ?G1) hfs2 ?g1 (fmod_nn (by decide)) (fmod_lt (by decide))
        case F1 => assumption
        case G1 =>
          rcases List.mem_cons.mp hp with hp | hp
          · rw [hp]; exact .head _
          · rw [List.mem_singleton.mp hp]; exact .tail _ (.tail _ (.head _))
        case g1 => omega
      · open_x
        rename News _ _ _ _ => N8
        rename Fr _ _ _ _ => F8
        refine kst_end (x := ("cell" : Str)) (vs, figs, nf, (mx * 31 + n).fmod 1009, h5 + 1 + 1 + 1 + 1) F8 N8 (fun p hp => ?_) (fun p hp => ?_) rfl hfs2 ?_ ?_ ⟨?_, fmod_nn (by decide), fmod_lt (by decide)⟩
        · rcases List.mem_cons.mp hp with hp | hp
          · rw [hp]; exact .head _
          · rw [List.mem_singleton.mp hp]; exact .tail _ (.head _)
        · exact .tail _ (.tail _ hp)
        · intro p hp; rw [List.mem_singleton.mp hp]; rfl
        · intro z h1 h2 h3
          have h4 : z ≠ ("mix" : Str) := h2 _ (.head _)
          simp only [List.contains_cons, List.contains_nil, Bool.or_false, Bool.or_eq_false_iff, beq_eq_false_iff_ne, ne_eq] at h3
          simp [h1, h3, h4, kstB]
        · dsimp only; omega
  · rintro ⟨vs, figs, nf, mx, tm⟩ u h tk hfs ⟨q1, q2, q3⟩ F N
    dsimp only at hfs q1 q2 q3 F N
    open_k0
    rename News _ _ _ _ => kN9
    refine' ret _ _ figs vs _ _ _ _ _ _ nf ?F1 (fun p hp => kN9 p ?G1) hfs ?g1 q2 q3
    case F1 => assumption
    case G1 => 
      rcases List.mem_cons.mp hp with hp | hp
      · rw [hp]; exact .head _
      · rw [List.mem_singleton.mp hp]; exact .tail _ (.tail _ (.head _))
    case g1 => omega

theorem fresh_Fits : True := by
  w_top off
  trivial
set_option maxRecDepth 100000 in
set_option maxHeartbeats 8000000 in
theorem fits_spec {w : World} {p : Program} {loose : List Str} {mean : ExcName → Option Value} {mg mb : Str → Option Value}
  {dp un : Nat} {gd : Option (List Code)} {cn : Str} {cs : Scope} {a : Addr} {ccd : Value} {cl : List (Str × Addr)} {outer : List Env} {A₀ : Around} {base h₀ : Heap} {L : Addr} {m : Str → Option Value} {s : Shared}
  {Q E : Value → Shared → Prop}
  {hx : Bool} {tb td : Tok} {x : Str} {news : List (Addr × Obj)}
  (B : Below A₀ base outer h₀) (F : Fr h₀ L s.heap m) (X : (Mine.hd.heap_39 w.params).In h₀)
  (N : News h₀ L s.heap news) (T : Top p loose mean mg mb h₀)
  (hk : cs.kind = .function) (hd : dp + 1 < recursionLimit) (hu : un + 8 < cLine) (hl : x.length ≤ 1000)
  (ret : ∀ h' tk', Fr h₀ L h' m → News h₀ L h' news → Q (.bool (fitsL hx (lst x))) { s with heap := h', toks := tk' }) :
  wpAny (model PR w) (ktrTop dp un gd cn cs L a ccd cl outer) (call (.ref 54) [.str (baseOf hx) tb, .str x td]) Q E s := by
  cases hx
  all_goals (
    unfold PR; revert X; k_fill; intro X
    refine wpAny_call ?_
    (try unfold baseOf)
    k_dflt ktr_enter
    open_k0)
  · rename_i e9 kF9 kN9 _ _
    have e0 := eq_of_beq e9
    subst e0
    have q := fun tk9 => ret _ tk9 kF9 kN9
    rw [fits_nil] at q
    exact q _
  · rename_i e9 h8 h9 F9 N9
    with_unfolding_all refine' For_invVF F9 ?k1 ?k2 ?_
    case k1 => exact rfl
    case k2 => exact rfl
    open_k0
    refine KStt.kst_text (σ := Unit) (fun _ => news) (fun _ => []) (fun _ => True) [] (fun pre _ => ∀ v ∈ pre, ∃ k ∈ allowed false, v = (k : Int)) () rfl F9 N9 trivial (fun _ h => nomatch h) (fun _ h => nomatch h) ?_ ?_
    · rintro ⟨⟩ pre post n t u h tk own e hoff _ hP F N
      refine te ?_
      open_k0
      all_goals open_x
      · rename_i e8
        rw [one_in, lst_allowed_b] at e8
        open_k0
        rename News _ _ _ _ => kN7
        rename Fr _ _ _ _ => kF7
        have q := fun tk9 => ret _ tk9 kF7 (fun p hp => kN7 p (List.mem_append.mpr (.inl hp)))
        rw [fits_false e (by simpa using e8)] at q
        exact q _
      · rename_i e8
        rw [one_in, lst_allowed_b] at e8
        refine kst_end () F N (fun p hp => List.mem_append.mpr (.inl hp)) (fun p hp => List.mem_append.mpr (.inr hp)) rfl trivial (fun _ h => nomatch h) (fun z h1 _ _ => by simp [h1, kstB]) fun v hv => ?_
        rcases List.mem_append.mp hv with hv | hv
        · exact hP v hv
        · exact ⟨n, by simpa using e8, List.mem_singleton.mp hv⟩
    · rintro ⟨⟩ u h tk _ hP F N
      open_k0
      rename News _ _ _ _ => kN7
      rename Fr _ _ _ _ => kF7
      have q := fun tk9 => ret _ tk9 kF7 kN7
      rw [fits_true hP (by assumption)] at q
      exact q _
  · rename_i e9 kF9 kN9 _ _
    have e0 := eq_of_beq e9
    subst e0
    have q := fun tk9 => ret _ tk9 kF9 kN9
    rw [fits_nil] at q
    exact q _
  · rename_i e9 h8 h9 F9 N9
    with_unfolding_all refine' For_invVF F9 ?k1 ?k2 ?_
    case k1 => exact rfl
    case k2 => exact rfl
    open_k0
    refine KStt.kst_text (σ := Unit) (fun _ => news) (fun _ => []) (fun _ => True) [] (fun pre _ => ∀ v ∈ pre, ∃ k ∈ allowed true, v = (k : Int)) () rfl F9 N9 trivial (fun _ h => nomatch h) (fun _ h => nomatch h) ?_ ?_
    · rintro ⟨⟩ pre post n t u h tk own e hoff _ hP F N
      refine te ?_
      open_k0
      all_goals open_x
      · rename_i e8
        rw [one_in, lst_allowed_h] at e8
        open_k0
        rename News _ _ _ _ => kN7
        rename Fr _ _ _ _ => kF7
        have q := fun tk9 => ret _ tk9 kF7 (fun p hp => kN7 p (List.mem_append.mpr (.inl hp)))
        rw [fits_false e (by simpa using e8)] at q
        exact q _
      · rename_i e8
        rw [one_in, lst_allowed_h] at e8
        refine kst_end () F N (fun p hp => List.mem_append.mpr (.inl hp)) (fun p hp => List.mem_append.mpr (.inr hp)) rfl trivial (fun _ h => nomatch h) (fun z h1 _ _ => by simp [h1, kstB]) fun v hv => ?_
        rcases List.mem_append.mp hv with hv | hv
        · exact hP v hv
        · exact ⟨n, by simpa using e8, List.mem_singleton.mp hv⟩
    · rintro ⟨⟩ u h tk _ hP F N
      open_k0
      rename News _ _ _ _ => kN7
      rename Fr _ _ _ _ => kF7
      have q := fun tk9 => ret _ tk9 kF7 kN7
      rw [fits_true hP (by assumption)] at q
      exact q _

theorem fresh_Exc1 : True := by
  w_top off
  trivial
/-! An exception's own dict stays while it flies: a tree that makes no call and whose writes keep every object's dict. -/
def dk {α : Type} : Sem α → Prop
  | .pure _ => True
  | .raise _ => True
  | .unsupported _ => True
  | .finish _ => True
  | .rule _ k => dk (k ())
  | .at _ k => dk (k ())
  | .load _ _ k => ∀ o, dk (k o)
  | .update _ _ f k => (∀ o, (f o).dict = o.dict ∧ (f o).isFreed = o.isFreed) ∧ dk (k ())
  | .alloc _ k => ∀ a, dk (k a)
  | .loadIfAlive _ k => ∀ o, dk (k o)
  | .point _ k => dk (k ())
  | .register _ _ => False
  | .fresh k => ∀ t, dk (k t)
  | .ask k => ∀ g, dk (k g)
  | .choose _ _ k => ∀ n, dk (k n)
  | .os _ _ k => ∀ r, dk (k r)
  | .call _ _ _ _ _ => False
  | .handled _ k => ∀ v, dk (k v)
  | .newGen _ _ => False
  | .genState _ k => ∀ x, dk (k x)
  | .resume _ _ _ _ => False
  | .yield _ _ _ _ => False
  | .stack k => ∀ st, dk (k st)
  | .fork _ _ => False
  | .thread k => dk (k 0)
  | .await _ _ _ _ _ => False

def DictKept (h h' : Heap) : Prop := ∀ b o, h.get? b = some o → ∃ o', h'.get? b = some o' ∧ o'.dict = o.dict
theorem DictKept.refl (h : Heap) : DictKept h h := fun _ o e => ⟨o, e, rfl⟩
theorem DictKept.trans {a b c : Heap} (x : DictKept a b) (y : DictKept b c) : DictKept a c := fun k o e =>
  let ⟨o1, e1, d1⟩ := x k o e; let ⟨o2, e2, d2⟩ := y k o1 e1; ⟨o2, e2, d2.trans d1⟩
theorem DictKept.push (h : Heap) (o : Obj) : DictKept h (h.push o) := fun _ o' e => ⟨o', Heap.get?_push_of_some _ e, rfl⟩
theorem DictKept.of_keeps {h h' : Heap} (k : ∀ b o, h.get? b = some o → h'.get? b = some o) : DictKept h h' := fun b o e => ⟨o, k b o e, rfl⟩
theorem heap_get_not_freed {h : Heap} {b : Addr} {o : Obj} (e : h.get? b = some o) : o.isFreed = false := by
  cases hf : o.isFreed with
  | false => rfl
  | true =>
    exfalso
    obtain ⟨c, d, dt, sl⟩ := o
    cases dt <;> simp [Obj.isFreed] at hf
    unfold Heap.get? at e
    split at e <;> simp_all
theorem DictKept.update {h : Heap} {a : Addr} {f : Obj → Obj} (hf : ∀ o, (f o).dict = o.dict ∧ (f o).isFreed = o.isFreed) : DictKept h (h.update a f) := fun b o e => by
  by_cases hb : b = a
  · subst hb
    exact ⟨f o, Heap.get?_update_self f e (by rw [(hf o).2]; exact heap_get_not_freed e), (hf o).1⟩
  · exact ⟨o, (Heap.get?_update_other _ _ (Ne.symm hb)).trans e, rfl⟩
theorem dk_bind {α β : Type} (m : Sem α) (f : α → Sem β) (h1 : dk m) (h2 : ∀ a, dk (f a)) : dk (m >>= f) := by
  show dk (m.bind f)
  induction m with
  | pure a => exact h2 a
  | raise e => trivial
  | unsupported w => trivial
  | finish e => trivial
  | rule t k ih => exact ih () h1
  | «at» p k ih => exact ih () h1
  | load a p k ih => exact fun o => ih o (h1 o)
  | update a p g k ih => exact ⟨h1.1, ih () h1.2⟩
  | alloc o k ih => exact fun a => ih a (h1 a)
  | loadIfAlive a k ih => exact fun o => ih o (h1 o)
  | point l k ih => exact ih () h1
  | register a k ih => exact h1.elim
  | fresh k ih => exact fun o => ih o (h1 o)
  | ask k ih => exact fun o => ih o (h1 o)
  | choose s n k ih => exact fun o => ih o (h1 o)
  | os q l k ih => exact fun o => ih o (h1 o)
  | call c h g l k ih => exact h1.elim
  | handled o k ih => exact fun o => ih o (h1 o)
  | newGen c k ih => exact h1.elim
  | genState g k ih => exact fun o => ih o (h1 o)
  | resume g r l k ih => exact h1.elim
  | yield v g l k ih => exact h1.elim
  | stack k ih => exact fun o => ih o (h1 o)
  | fork c k ih => exact h1.elim
  | thread k ih => exact ih 0 h1
  | await a t d l k ih => exact h1.elim
theorem dk_wp {α : Type} (M : Model) (Γ : Ctx) (t : Sem α) : ∀ (Q : α → Pos → Shared → Prop) (E : Value → Pos → Shared → Prop) (p : Pos) (s : Shared), dk t → Sem.wp M Γ t Q E p s →
    Sem.wp M Γ t (fun a p' s' => Q a p' s' ∧ DictKept s.heap s'.heap) (fun e p' s' => E e p' s' ∧ DictKept s.heap s'.heap) p s := by
  induction t with
  | pure a => intro Q E p s _ h; simp only [Sem.wp] at h ⊢; exact ⟨h, .refl _⟩
  | raise e => intro Q E p s _ h; simp only [Sem.wp] at h ⊢; exact ⟨h, .refl _⟩
  | unsupported w => intro Q E p s _ h; simp only [Sem.wp] at h
  | finish e => intro Q E p s _ h; simp only [Sem.wp] at h
  | rule t k ih => intro Q E p s d h; simp only [Sem.wp] at h ⊢; exact ih () Q E p s d h
  | «at» q k ih => intro Q E p s d h; simp only [Sem.wp] at h ⊢; exact ih () Q E q s d h
  | load a q k ih => intro Q E p s d h; simp only [Sem.wp] at h ⊢; obtain ⟨o, e, h⟩ := h; exact ⟨o, e, ih o Q E p s (d o) h⟩
  | update a q g k ih =>
    intro Q E p s d h; simp only [Sem.wp] at h ⊢; obtain ⟨e, h⟩ := h
    refine ⟨e, Sem.wp_mono M Γ _ (fun _ _ _ x => ⟨x.1, (DictKept.update d.1).trans x.2⟩) (fun _ _ _ x => ⟨x.1, (DictKept.update d.1).trans x.2⟩) p _ (ih () Q E p _ d.2 h)⟩
  | alloc o k ih =>
    intro Q E p s d h; simp only [Sem.wp] at h ⊢
    exact Sem.wp_mono M Γ _ (fun _ _ _ x => ⟨x.1, (DictKept.push _ _).trans x.2⟩) (fun _ _ _ x => ⟨x.1, (DictKept.push _ _).trans x.2⟩) p _ (ih _ Q E p _ (d _) h)
  | loadIfAlive a k ih => intro Q E p s d h; simp only [Sem.wp] at h ⊢; exact ih _ Q E p s (d _) h
  | point l k ih => intro Q E p s d h; simp only [Sem.wp] at h ⊢; exact ih _ Q E p s d h
  | register a k ih => intro Q E p s d h; exact d.elim
  | fresh k ih => intro Q E p s d h; simp only [Sem.wp] at h ⊢; exact ih _ Q E p _ (d _) h
  | ask k ih => intro Q E p s d h; simp only [Sem.wp] at h ⊢; exact ih _ Q E p s (d _) h
  | choose q n k ih => intro Q E p s d h; simp only [Sem.wp] at h ⊢; exact ⟨h.1, ih _ Q E p _ (d _) h.2⟩
  | os q l k ih => intro Q E p s d h; simp only [Sem.wp] at h ⊢; exact ih _ Q E p _ (d _) h
  | call c h g l k ih => intro Q E p s d h; exact d.elim
  | handled o k ih => intro Q E p s d h; simp only [Sem.wp] at h ⊢; exact ih _ Q E p s (d _) h
  | newGen c k ih => intro Q E p s d h; exact d.elim
  | genState g k ih => intro Q E p s d h; simp only [Sem.wp] at h ⊢; obtain ⟨st, e, h⟩ := h; exact ⟨st, e, ih _ Q E p s (d _) h⟩
  | resume g r l k ih => intro Q E p s d h; exact d.elim
  | yield v g l k ih => intro Q E p s d h; exact d.elim
  | stack k ih => intro Q E p s d h; simp only [Sem.wp] at h ⊢; exact ih _ Q E p s (d _) h
  | fork c k ih => intro Q E p s d h; exact d.elim
  | thread k ih => intro Q E p s d h; simp only [Sem.wp] at h ⊢; exact ih _ Q E p s d h
  | await a t d l k ih => intro Q E p s d h; exact d.elim
theorem wpAny_dk {α : Type} {M : Model} {A : Around} {t : Sem α} {Q : α → Shared → Prop} {E : Value → Shared → Prop} {s : Shared} (d : dk t) (h : wpAny M A t Q E s) :
    wpAny M A t (fun a s' => Q a s' ∧ DictKept s.heap s'.heap) (fun e s' => E e s' ∧ DictKept s.heap s'.heap) s := fun Γ p hΓ => dk_wp M Γ t _ _ p s d (h Γ p hΓ)

theorem dk_field (v : Value) (i : Nat) : dk (field v i) := by
  unfold field fieldsOf
  refine dk_bind _ _ ?_ fun vs => ?_
  · cases v <;> first | trivial | (refine dk_bind _ _ (fun o => trivial) fun o => ?_; split <;> trivial)
  · split <;> trivial
theorem isFreed_mapFields (f : Array Value → Array Value) (o : Obj) : (Obj.mapFields f o).isFreed = o.isFreed := by
  obtain ⟨c, d, dt, sl⟩ := o
  cases dt <;> rfl
theorem dict_mapFields (f : Array Value → Array Value) (o : Obj) : (Obj.mapFields f o).dict = o.dict := by
  obtain ⟨c, d, dt, sl⟩ := o
  cases dt <;> rfl
theorem dk_setField (v : Value) (i : Nat) (x : Value) : dk (setField v i x) := by
  unfold setField
  cases v <;> first | trivial | skip
  unfold updateField
  refine dk_bind _ _ (fun o => trivial) fun o => ?_
  split
  · split
    · exact ⟨fun o => ⟨dict_mapFields _ o, isFreed_mapFields _ o⟩, trivial⟩
    · trivial
  · trivial
theorem dk_setFlight (e : Value) (f : Option Addr) : dk (setFlight e f) := by
  unfold setFlight
  refine dk_bind _ _ (dk_field _ _) fun tb => ?_
  split
  · exact dk_setField _ _ _
  · trivial
theorem dk_readyFrames : ∀ l : List Env, dk (readyFrames l)
  | [] => trivial
  | env :: outer => by
    unfold readyFrames
    split
    · refine dk_bind _ _ (fun o => trivial) fun o => ?_
      split
      · trivial
      · refine dk_bind _ _ ?_ fun b => dk_bind _ _ ?_ fun c => ?_
        · unfold behindIsImport
          split
          · trivial
          · split
            · trivial
            · exact dk_bind _ _ (dk_field _ _) fun _ => trivial
        · unfold keptBack
          split
          · split
            · trivial
            · refine dk_bind _ _ ?_ fun _ => trivial
              unfold underTheClaimsCaller
              exact dk_bind _ _ (fun _ => trivial) fun _ => trivial
          · trivial
        · exact ⟨fun o => ⟨rfl, by first | rfl | (obtain ⟨c, d, dt, sl⟩ := o; cases dt <;> rfl)⟩, dk_readyFrames outer⟩
    · trivial
theorem dk_frameOf (env : Env) : dk (PySem.frameOf env) := by
  unfold PySem.frameOf frameEnvs frameObject
  refine dk_bind _ _ (dk_bind _ _ (fun st => trivial) fun _ => trivial) fun l => ?_
  refine dk_bind _ _ ?_ fun r => ?_
  · split
    · trivial
    · exact dk_bind _ _ (dk_readyFrames _) fun _ => trivial
  · split <;> trivial
theorem dk_entryPlaceOf (f : Addr) (b : Bool) : dk (entryPlaceOf f b) := by
  unfold entryPlaceOf
  refine dk_bind _ _ (fun st => trivial) fun acts => ?_
  split <;> trivial
theorem dk_newEntry (a b c d e : Value) (l : List Value) : dk (EntryCells.newEntry a b c d e l) := by
  unfold EntryCells.newEntry newFields newObj newObjAsIs
  dsimp only
  repeat' split
  all_goals first
    | exact dk_bind _ _ trivial fun _ => dk_bind _ _ (fun _ => trivial) fun _ => trivial
    | exact dk_bind _ _ (fun _ => trivial) fun _ => trivial
theorem dk_noteFrame (e : Value) (env : Env) : dk (noteFrame e env) := by
  unfold noteFrame
  split
  · refine dk_bind _ _ (dk_field _ _) fun head => ?_
    split
    · refine dk_bind _ _ (dk_field _ _) fun x => ?_
      split
      · trivial
      · refine dk_bind _ _ (dk_setField _ _ _) fun _ => ?_
        refine dk_bind _ _ (dk_frameOf _) fun _ => dk_bind _ _ (dk_entryPlaceOf _ _) fun _ => dk_bind _ _ (dk_newEntry _ _ _ _ _ _) fun _ => dk_setField _ _ _
    · refine dk_bind _ _ (dk_frameOf _) fun _ => dk_bind _ _ (dk_entryPlaceOf _ _) fun _ => dk_bind _ _ (dk_newEntry _ _ _ _ _ _) fun _ => dk_setField _ _ _
  · trivial
theorem dk_leaving (env : Env) (e : Value) : dk (leaving env e) := by
  unfold leaving
  exact dk_bind _ _ (dk_noteFrame _ _) fun _ => dk_setFlight _ _

theorem fresh_Exc2 : True := by
  w_top off
  trivial
/-! An own exception class whose `__init__` is a def of the text's. -/
section
variable {M : Model} {prog : Program} {w : World} {A : Around} {E : Value → Shared → Prop} {R : Result → Shared → Prop} {h : Heap} {g : Array GenState} {d : Drawn} {t : Nat} {os : OsState}
variable {nm q : Str} {C N : Addr} {bs bm bmB : List Value} {hdct : Bool} {sn : List Str} {sub : List Value} {ab : Bool} {col : Option Bool} {dd : Option Addr} {k0 k1 k2 k3 k5 : Option Value} {B newId initId : String}

theorem fe_check_new (F : ExcBaseFacts B newId initId bmB) (hcont : (Value.ref C :: bm).contains (.type B) = true) {rest : List Value} {Q : Unit → Shared → Prop}
    (hC : h.get? C = some (excClassObj nm q C N bs bm hdct sn sub ab col dd k0 k1 k2 k3 k5 newId)) (hq : Q () ⟨h, g, d, t, os⟩) : wpAny M A (checkBuiltinCall newId ⟨.ref C :: rest, []⟩) Q E ⟨h, g, d, t, os⟩ := by
  have hstar := F.noStar
  simp only [checkBuiltinCall, F.newKind, F.newSplit, F.newRow]
  repeat (first | refine wpAny_loadPart_at hC ?_ | (refine wpAny_isSubtype_exc hC ?_; rw [hcont]) | refine wpAny_staticBase_exc hC ?_ | refine wpAny_madeBy_exc hC ?_ | simp only [bne_self_eq_false, Bool.false_eq_true, if_false] | wp_step)
  exact hq

theorem fe_new (F : ExcBaseFacts B newId initId bmB) (hcB : (Value.ref C :: bm).contains (.type B) = true) (hcA : (Value.ref C :: bm).contains (.type "AttributeError") = false) (hcN : (Value.ref C :: bm).contains (.type "NameError") = false) {rest : List Value}
    (hC : h.get? C = some (excClassObj nm q C N bs bm hdct sn sub ab col dd k0 k1 k2 k3 k5 newId))
    (hq : R (.ok (.ret (.ref (h.objs.size + 1)))) ⟨(h.push { cls := .type "tuple", data := .seq rest.toArray }).push
      { cls := .ref C, data := .fields #[.ref h.objs.size, .none, .none, .none, .bool false, .none] }, g, d, t, os⟩) (hrest : rest.length ≤ sizeLine) :
    codeAny (model prog w) A (.builtin newId ⟨.ref C :: rest, []⟩) R ⟨h, g, d, t, os⟩ := by
  have hends := F.ends
  refine codeAny_builtinAt F.entry ?_
  unfold Builtin.«BaseException.__new__»
  refine PySem.wpAt_bind ?_
  show PySem.wpAt _ _ _ (stack >>= _) _ _ _
  refine PySem.wpAt_bind (PySem.wpAt_stack fun p below => PySem.wpAt_of_wpAny ?_)
  wp_walk
  refine PySem.wpAt_of_wpAny ?_
  rw [F.owner]
  repeat (first | with_reducible refine wpAny_madeHere_exc F.canon hC ?_ | with_reducible refine wpAny_loadPart_at hC ?_ | (with_reducible refine wpAny_isSubtype_exc hC ?_; first | rw [hcB] | rw [hcA] | rw [hcN]) | wp_step)
  show R _ _
  rw [Heap.size_push]
  exact hq

theorem fe_type_call (F : ExcBaseFacts B newId initId bmB) (hcB : (Value.ref C :: bm).contains (.type B) = true) (hcA : (Value.ref C :: bm).contains (.type "AttributeError") = false) (hcN : (Value.ref C :: bm).contains (.type "NameError") = false) {K : Frag} {fI : Addr} {rest : List Value} {Q : Fin → Shared → Prop}
    (hC : h.get? C = some (excClassObj nm q C N bs bm hdct sn sub ab col dd k0 k1 k2 k3 k5 newId)) (X : K.In h) (hi : findIn K (.ref C) "__init__" = some (some (.ref fI))) (hf : typeIn K (.ref fI) = some (.type "function"))
    (hq : codeAny (model prog w) A (.call (.ref fI) ⟨.ref (h.objs.size + 1) :: rest, []⟩) (fun r s' => match r with | .ok (.ret v) => v = .none ∧ Q (.done (.ret (.ref (h.objs.size + 1)))) s' | .ok _ => False | .error e => E e s')
      ⟨(h.push { cls := .type "tuple", data := .seq rest.toArray }).push { cls := .ref C, data := .fields #[.ref h.objs.size, .none, .none, .none, .bool false, .none] }, g, d, t, os⟩) (hrest : rest.length ≤ sizeLine) :
    wpAny (model prog w) A (Builtin.«type.__call__» ⟨.ref C :: rest, []⟩) Q E ⟨h, g, d, t, os⟩ := by
  repeat (first | with_reducible refine wpAny_loadPart_at hC ?_ | with_reducible refine wpAny_madeBy_exc hC ?_ | wp_step)
  refine codeAny_call_builtin_code (Code.quiet_builtin _ F.quiet) (fe_check_new F hcB hC ?_)
  refine fe_new F hcB hcA hcN hC ?_ hrest
  show wpAny _ _ _ _ _ _
  have k : ∀ b o, h.get? b = some o → ((h.push { cls := .type "tuple", data := .seq rest.toArray }).push { cls := .ref C, data := .fields #[.ref h.objs.size, .none, .none, .none, .bool false, .none] }).get? b = some o :=
    fun b o e => Heap.get?_push_of_some _ (Heap.get?_push_of_some _ e)
  have hC₁ := k _ _ hC
  have X₁ : K.In ((h.push { cls := .type "tuple", data := .seq rest.toArray }).push { cls := .ref C, data := .fields #[.ref h.objs.size, .none, .none, .none, .bool false, .none] }) := X.keeps k
  have hget : ((h.push { cls := .type "tuple", data := .seq rest.toArray }).push
      { cls := .ref C, data := .fields #[.ref h.objs.size, .none, .none, .none, .bool false, .none] }).get? (h.objs.size + 1) = some
      { cls := .ref C, data := .fields #[.ref h.objs.size, .none, .none, .none, .bool false, .none] } := by heap_get
  have hcC : (Value.ref C :: bm).contains (.ref C) = true := by simp
  unfold isInstance
  repeat (first | with_reducible refine wpAny_loadPart_at hget ?_ | (with_reducible refine wpAny_isSubtype_exc hC₁ ?_; rw [hcC]) | wp_step)
  show wpAny _ _ (typeLookup (.ref C) _) _ _ _
  refine (looks_findIn X₁ hi).here ?_
  dsimp only
  refine wpAny_holding (wpAny_bind ((bind_fn X₁ _ hf).here ?_))
  refine wpAny_bind (wpAny_call (codeAny_mono hq fun r s' z => ?_))
  rcases r with e | (v | _ | _ | _) <;> first | exact z | exact z.elim | skip
  obtain ⟨rfl, z⟩ := z
  exact wpAny_pure (wpAny_pure z)

theorem fe_call (F : ExcBaseFacts B newId initId bmB) (hcB : (Value.ref C :: bm).contains (.type B) = true) (hcA : (Value.ref C :: bm).contains (.type "AttributeError") = false) (hcN : (Value.ref C :: bm).contains (.type "NameError") = false) {K : Frag} {fI : Addr} {rest : List Value} {R : Result → Shared → Prop}
    (hC : h.get? C = some (excClassObj nm q C N bs bm hdct sn sub ab col dd k0 k1 k2 k3 k5 newId)) (X : K.In h) (hi : findIn K (.ref C) "__init__" = some (some (.ref fI))) (hf : typeIn K (.ref fI) = some (.type "function"))
    (hq : codeAny (model prog w) (A.under (.builtin "type.__call__" ⟨.ref C :: rest, []⟩)) (.call (.ref fI) ⟨.ref (h.objs.size + 1) :: rest, []⟩) (InitBack (h.objs.size + 1) R)
      ⟨(h.push { cls := .type "tuple", data := .seq rest.toArray }).push { cls := .ref C, data := .fields #[.ref h.objs.size, .none, .none, .none, .bool false, .none] }, g, d, t, os⟩) (hrest : rest.length ≤ sizeLine) :
    codeAny (model prog w) A (.call (.ref C) ⟨rest, []⟩) R ⟨h, g, d, t, os⟩ := by
  have f1 := tc_lookup
  have f2 := tc_bind (.ref C)
  have hT : (⟨h, g, d, t, os⟩ : Shared).TypeIs (.ref C) "type" := ⟨_, hC, rfl⟩
  refine codeAny_of_tree ?_
  show wpAny _ _ (callAny (.ref C) _) _ _ _
  repeat (any_goals (first | assumption | with_reducible refine wpAny_loadPart_at hC ?_ | wp_step))
  refine ⟨rfl, ?_⟩
  refine codeAny_call_builtin_at (Code.quiet_builtin _ (by decide +kernel)) entry_typeCall (wpAny_check_type_call_sub hC (fe_type_call (hrest := hrest) F hcB hcA hcN hC X hi hf (codeAny_mono hq fun r s' z => ?_)))
  rcases r with e | (v | _ | _ | _) <;> exact z
end

/-- the class object, as the written part has it -/
theorem fe_cls {w : World} {h : Heap} (X : (Mine.hd.heap_39 w.params).In h) : ∃ nm q N bs sn sub ab col dd k0 k1 k2 k3 k5,
    h.get? 45 = some (excClassObj nm q 45 N bs [.ref 32, .type "Exception", .type "BaseException", .type "object"] true sn sub ab col dd k0 k1 k2 k3 k5 "Exception.__new__") :=
  ⟨_, _, _, _, _, _, _, _, _, _, _, _, _, _, X 45 _ rfl⟩

abbrev fvs (t : Addr) : Array Value := #[.ref t, .none, .none, .none, .bool false, .none]
abbrev excO (od : Option Addr) (t : Addr) : Obj := { cls := .ref 45, dict := od, data := .fields (fvs t) }

theorem fe_sa (w : World) : findIn (Mine.hd.heap_39 w.params) (.ref 45) "__setattr__" = some (some (.builtin "object.__setattr__")) := rfl
section
variable {w : World} {A : Around} {E : Value → Shared → Prop} {s : Shared} {h₀ : Heap} {L x t : Addr} {m : Str → Option Value} {news : List (Addr × Obj)}

/-- `object.__setattr__` on an exception of the text's, up to its own dict -/
theorem fe_osa {R : Result → Shared → Prop} {od : Option Addr} {name : Str} {tk : Tok} {v : Value} (X : (Mine.hd.heap_39 w.params).In s.heap) (hx : s.heap.get? x = some (excO od t))
    (hf : findIn (Mine.hd.heap_39 w.params) (.ref 45) name = some none)
    (h : wpAny (model PR w) A.in1 (Builtin.ObjectAttr.storeInOwnDict (.ref x) (.ref 45) (.str name tk) name v false)
      (fun fin s' => match fin with | .done f => R (.ok f) s' | .again c' => c'.quiet = true ∧ codeAny (model PR w) A c' R s') (fun e s' => R (.error e) s') s) :
    codeAny (model PR w) A (.call (.builtin "object.__setattr__") ⟨[.ref x, .str name tk, v], []⟩) R s := by
  unfold PR at h ⊢; revert X; k_fill; intro X
  have SF := PySem.F.store_object
  have SE := PySem.F.store_Exception
  obtain ⟨nm, q, N5, bs, sn, sub, ab, col, dd, k0, k1, k2, k3, k5, hC⟩ := fe_cls X
  obtain ⟨hh, g, d, tt, os⟩ := s
  dsimp only at X hx hC
  have ty : Looks (model Challenge.rw_nn0295_01.row.prog w) hh (typeOf (.ref x)) (.ref 45) := (Looks.ld hx).andThen .now
  have sub : Looks (model Challenge.rw_nn0295_01.row.prog w) hh (isInstance (.ref x) (.type "object")) true := ty.andThen (looks_subIn X (by k_is))
  refine codeAny_call_builtin SF.slot.plain SF.entry (@check_slot _ _ _ ⟨hh, g, d, tt, os⟩ "object.__setattr__" "object" "__setattr__" (.ref x) [.str name tk, v] [] _ SF.kind SF.split sub (SF.args (.ref x) (.str name tk) v) ?_)
  rw [osa_eq, refuse_eq]
  refine wpAny_bind (wpAny_bind (ty.here (wpAny_bind (wpAny_mroOf_exc hC ?_))))
  rw [refuseLoop_ref, refuseLoop_ref, SE.passes]
  refine wpAny_pure (wpAny_bind (ty.here (wpAny_bind ((looks_findIn X hf).here (wpAny_bind ?_)))))
  exact wpAny_pure h

end

theorem fresh_Exc3 : True := by
  w_top off
  trivial
theorem putL_new {name : Str} {hsh : Int} {key v : Value} : ∀ {es : List DictEntry}, es.any (·.key.isStr name) = false → putL name hsh key v es = es ++ [⟨hsh, key, v⟩]
  | [], _ => rfl
  | e :: r, h => by
    simp only [List.any_cons, Bool.or_eq_false_iff] at h
    unfold putL
    rw [h.1, if_neg Bool.false_ne_true, putL_new h.2]
    rfl
theorem putN_new {name : Str} {es : List DictEntry} {n : Nat} (h : es.any (·.key.isStr name) = false) : putN name es n = n + 1 := by
  unfold putN; rw [h]; rfl
section
variable {w : World} {A : Around} {E : Value → Shared → Prop} {s : Shared} {h₀ : Heap} {L x t : Addr} {m : Str → Option Value} {news : List (Addr × Obj)}
theorem fe_storeIn {Q : Fin → Shared → Prop} {d : Addr} {name : Str} {tk : Tok} {v : Value} {es : List DictEntry} {n : Nat} (D : s.heap.get? d = some (dictOf es n))
    (c : (!es.any (·.key.isStr name) && es.any (·.refKey)) = false) (hz : (putL name (PyData.keyHash w.params name) (.str name s.toks) v es).length ≤ 1000)
    (h : Q (.done (.ret .none)) { s with heap := s.heap.update d (Obj.putName name (PyData.keyHash w.params name) (.str name s.toks) v), toks := s.toks + 1 }) :
    wpAny (model PR w) A (Builtin.ObjectAttr.storeInDict d (.str name tk) name v) Q E s := by
  unfold Builtin.ObjectAttr.storeInDict
  refine wpAny_bind (wpAny_pure (wpAny_bind ?_))
  unfold nsSet
  have D' : ({ s with heap := s.heap.update d (Obj.putName name (PyData.keyHash w.params name) (.str name s.toks) v), toks := s.toks + 1 } : Shared).heap.get? d = some (dictOf (putL name (PyData.keyHash w.params name) (.str name s.toks) v es) (putN name es n)) := by
    show (s.heap.update d _).get? d = _
    rw [Heap.get?_update_self _ D (by rw [putName_dict]; rfl), putName_dict]
  refine wpAny_bind (wpAny_bind (wpAny_askSetting (wpAny_pure (wpAny_bind (wpAny_mkText (wpAny_bind (wpAny_loadPart D ?_)))))))
  dsimp only
  have c' : (!es.toArray.any (·.key.isStr name) && es.toArray.any (·.refKey)) = false := by
    rw [← Array.any_toList, ← Array.any_toList]; exact c
  rw [aRefKeyMayBeTheName_at, c']
  refine wpAny_updatePart D ?_
  exact wpAny_bind (wpAny_lookBehind D' (pastItsLine_dict (by rw [List.size_toArray, sizeLine_eq]; omega)) (wpAny_pure h))

theorem fe_set0 {Q : Unit → Shared → Prop} {name : Str} {v : Value} (X₀ : (Mine.hd.heap_39 w.params).In h₀) (F : Fr h₀ L s.heap m) (N : News h₀ L s.heap ((x, excO none t) :: news)) (hne : ∀ p ∈ news, p.1 ≠ x)
    (hf : findIn (Mine.hd.heap_39 w.params) (.ref 45) name = some none)
    (h : ∀ dx hsh tk h' tk', Fr h₀ L h' m → News h₀ L h' ((x, excO (some dx) t) :: (dx, dictOf [⟨hsh, .str name tk, v⟩] 1) :: news) → (∀ p ∈ news, p.1 < dx) → x < dx → Q () { s with heap := h', toks := tk' }) :
    wpAny (model PR w) A (setAttr (.ref x) name v) Q E s := by
  have X := X₀.keeps F.keep
  have hx : s.heap.get? x = some (excO none t) := (N _ (.head _)).1
  have I : InstAt s.heap x (excO none t) 45 none := ⟨hx, rfl, rfl, trivial⟩
  refine set_plain X I (fe_sa w) ?_
  refine fe_osa (s := { s with toks := s.toks + 1 }) X hx hf ?_
  obtain ⟨nm, q, N5, bs, sn, sub, ab, col, dd, k0, k1, k2, k3, k5, hC⟩ := fe_cls X
  obtain ⟨hh, g, d, tt, os⟩ := s
  dsimp only at X hx hC F N h ⊢
  unfold Builtin.ObjectAttr.storeInOwnDict
  refine wpAny_bind (wpAny_pure (wpAny_bind ?_))
  unfold Builtin.ObjectAttr.ownDictForStores instanceDict classData
  have lx : x < hh.objs.size := Heap.lt_size hx
  have N1 := N.push F ({ cls := .type "dict", data := .dict #[] } : Obj)
  have F1 := F.push ({ cls := .type "dict", data := .dict #[] } : Obj)
  refine wpAny_bind (wpAny_loadPart hx (wpAny_bind (wpAny_bind (wpAny_load hC (wpAny_pure ?_)))))
  show wpAny _ _ (alloc ({ cls := .type "dict", data := .dict #[] } : Obj) >>= fun d => (update x fun o => { o with dict := some d }) >>= fun _ => dictMade (.ref 45) x d) _ _ _
  have hx1 : (hh.push ({ cls := .type "dict", data := .dict #[] } : Obj)).get? x = some (excO none t) := Heap.get?_push_of_some _ hx
  refine wpAny_bind (wpAny_alloc (wpAny_bind (wpAny_updatePart hx1 (wpAny_pure ?_))))
  obtain ⟨F2, N2⟩ := news_upd (f := fun o : Obj => { o with dict := some hh.objs.size }) (pre := [(hh.objs.size, ({ cls := .type "dict", data := .dict #[] } : Obj))]) (d := x) (o := excO none t) (o' := excO (some hh.objs.size) t) F1 N1
    (fun p hp => by rw [List.mem_singleton.mp hp]; exact Nat.ne_of_gt lx) hne rfl rfl
  have D2 := (N2 _ (.head _)).1
  refine fe_storeIn (es := []) (n := 0) (name := name) D2 rfl (by show 1 ≤ 1000; decide) ?_
  obtain ⟨F3, N3⟩ := news_upd (f := Obj.putName name (PyData.keyHash w.params name) (.str name (tt + 1)) v) (pre := []) (d := hh.objs.size) (o := dictOf [] 0) (o' := dictOf [⟨PyData.keyHash w.params name, .str name (tt + 1), v⟩] 1) F2 N2
    (fun _ hp => nomatch hp) (fun p hp => by
      rcases List.mem_cons.mp hp with rfl | hp
      · exact Nat.ne_of_lt lx
      · exact Nat.ne_of_lt (Heap.lt_size (N _ (.tail _ hp)).1)) (by rw [putName_dict]; rfl) rfl
  refine h hh.objs.size (PyData.keyHash w.params name) (tt + 1) _ _ F3 (fun p hp => ?_) (fun p hp => Heap.lt_size (N _ (.tail _ hp)).1) lx
  rcases List.mem_cons.mp hp with rfl | hp
  · exact N3 _ (.tail _ (.head _))
  · rcases List.mem_cons.mp hp with rfl | hp
    · exact N3 _ (.head _)
    · exact N3 _ (.tail _ (.tail _ hp))

theorem fe_set1 {Q : Unit → Shared → Prop} {name : Str} {v : Value} {dx : Addr} {es : List DictEntry} {n : Nat} (X₀ : (Mine.hd.heap_39 w.params).In h₀) (F : Fr h₀ L s.heap m) (N : News h₀ L s.heap ((x, excO (some dx) t) :: (dx, dictOf es n) :: news)) (hxd : x ≠ dx) (hnd : ∀ p ∈ news, p.1 ≠ dx)
    (hf : findIn (Mine.hd.heap_39 w.params) (.ref 45) name = some none) (h1 : es.any (·.key.isStr name) = false) (h2 : es.any (·.refKey) = false) (hz : es.length ≤ 100)
    (h : ∀ hsh tk h' tk', Fr h₀ L h' m → News h₀ L h' ((x, excO (some dx) t) :: (dx, dictOf (es ++ [⟨hsh, .str name tk, v⟩]) (n + 1)) :: news) → Q () { s with heap := h', toks := tk' }) :
    wpAny (model PR w) A (setAttr (.ref x) name v) Q E s := by
  have X := X₀.keeps F.keep
  have hx : s.heap.get? x = some (excO (some dx) t) := (N _ (.head _)).1
  have hdx : s.heap.get? dx = some (dictOf es n) := (N _ (.tail _ (.head _))).1
  have I : InstAt s.heap x (excO (some dx) t) 45 (some (dictOf es n)) := ⟨hx, rfl, rfl, hdx⟩
  refine set_plain X I (fe_sa w) ?_
  refine fe_osa (s := { s with toks := s.toks + 1 }) X hx hf ?_
  obtain ⟨nm, q, N5, bs, sn, sub, ab, col, dd, k0, k1, k2, k3, k5, hC⟩ := fe_cls X
  obtain ⟨hh, g, d, tt, os⟩ := s
  dsimp only at X hx hC F N h hdx ⊢
  unfold Builtin.ObjectAttr.storeInOwnDict
  refine wpAny_bind (wpAny_pure (wpAny_bind ?_))
  unfold Builtin.ObjectAttr.ownDictForStores instanceDict classData
  refine wpAny_bind (wpAny_loadPart hx (wpAny_bind (wpAny_bind (wpAny_load hC (wpAny_pure ?_)))))
  show wpAny _ _ (pure (some dx)) _ _ _
  refine wpAny_pure ?_
  refine fe_storeIn (es := es) (n := n) (name := name) hdx (by rw [h1, h2]; rfl) (by rw [putL_new h1, List.length_append]; simp only [List.length_cons, List.length_nil]; omega) ?_
  obtain ⟨F3, N3⟩ := news_upd (f := Obj.putName name (PyData.keyHash w.params name) (.str name (tt + 1)) v) (pre := [(x, excO (some dx) t)]) (d := dx) (o := dictOf es n) (o' := dictOf (es ++ [⟨PyData.keyHash w.params name, .str name (tt + 1), v⟩]) (n + 1)) F N
    (fun p hp => by rw [List.mem_singleton.mp hp]; exact hxd) hnd (by rw [putName_dict, putL_new h1, putN_new h1]) rfl
  exact h (PyData.keyHash w.params name) (tt + 1) _ _ F3 N3
end

theorem fresh_Exc4 : True := by
  w_top off
  trivial
/-- an exception of the text's, with its kind and place -/
def ExcD (base : Heap) (fs : List Addr) (h : Heap) (e : Addr) (k : Str) (i : Int) : Prop :=
  ∃ oe dx es n sl tk ti, h.get? e = some oe ∧ oe.cls = .ref 45 ∧ oe.dict = some dx ∧ h.get? dx = some { dictOf es n with slots := sl } ∧ getL "kind" es = some (some (.str k tk)) ∧ getL "at" es = some (some (.int i ti)) ∧ base.get? dx = none ∧ dx ∉ fs

set_option maxRecDepth 100000 in
set_option maxHeartbeats 8000000 in
theorem fe_made {w : World} {p : Program} {loose : List Str} {mean : ExcName → Option Value} {mg mb : Str → Option Value}
  {dp un : Nat} {gd : Option (List Code)} {cn : Str} {cs : Scope} {a : Addr} {ccd : Value} {cl : List (Str × Addr)} {outer : List Env} {A₀ : Around} {base h₀ : Heap} {L : Addr} {m : Str → Option Value} {s : Shared}
  {Q E : Value → Shared → Prop} {news : List (Addr × Obj)} {k d : Str} {i : Int} {tkk tii td : Tok}
  (B : Below A₀ base outer h₀) (F : Fr h₀ L s.heap m) (X : (Mine.hd.heap_39 w.params).In h₀)
  (N : News h₀ L s.heap news) (T : Top p loose mean mg mb h₀) (hk : cs.kind = .function) (hd : dp + 3 < recursionLimit) (hu : un + 24 < cLine)
  (ret : ∀ x dx t o4 es h' tk', Fr h₀ L h' m → News h₀ L h' ((x, excO (some dx) t) :: (dx, dictOf es 3) :: (t, o4) :: news) → (∀ p ∈ (t, o4) :: news, p.1 < x) → x ≠ dx → getL "kind" es = some (some (.str k tkk)) → getL "at" es = some (some (.int i tii)) → Q (.ref x) { s with heap := h', toks := tk' }) :
  wpAny (model PR w) (ktrTop dp un gd cn cs L a ccd cl outer) (call (.ref 45) [.str k tkk, .int i tii, .str d td]) Q E s := by
  unfold PR; revert X; k_fill; intro X
  have XX := X.keeps F.keep
  obtain ⟨nm, q, N5, bs, sn, sub, ab, col, dd, k0, k1, k2, k3, k5, hC⟩ := fe_cls XX
  obtain ⟨h, g, dr, tt, os⟩ := s
  refine wpAny_call (fe_call PySem.F.excBase_Exception rfl rfl rfl hC XX (fI := 29) (by k_is) (by k_is) ?_ (by rw [sizeLine_eq]; simp))
  have N1 := N.push F ({ cls := .type "tuple", data := .seq [Value.str k tkk, .int i tii, .str d td].toArray } : Obj)
  have F1 := F.push ({ cls := .type "tuple", data := .seq [Value.str k tkk, .int i tii, .str d td].toArray } : Obj)
  have N2 := N1.push F1 ({ cls := .ref 45, data := .fields #[.ref h.objs.size, .none, .none, .none, .bool false, .none] } : Obj)
  have F2 := F1.push ({ cls := .ref 45, data := .fields #[.ref h.objs.size, .none, .none, .none, .bool false, .none] } : Obj)
  have hl : ∀ p ∈ news, p.1 < h.objs.size := fun p hp => Heap.lt_size (N p hp).1
  rw [Heap.size_push] at N2
  dsimp only at F2 N2
  clear N1 F1 N F XX hC
  generalize hx : h.objs.size + 1 = x at N2 ⊢
  generalize ht : h.objs.size = t at N2 F2 hl hx ⊢
  have ltx : t < x := by omega
  generalize hh : (h.push ({ cls := .type "tuple", data := .seq [Value.str k tkk, .int i tii, .str d td].toArray } : Obj)).push ({ cls := .ref 45, data := .fields #[.ref t, .none, .none, .none, .bool false, .none] } : Obj) = h2 at N2 F2 ⊢
  k_dflt (refine' code_def ?k1 ?k2 ?k3 ?k4 ?k5 ?kA ?kF ?kK ?k6 ?k7 ?k8 ?k9 ?kB ?_ ?c2 ?c3 ?c4 ?c5; (case kA => exact rfl); (case kF => exact rfl); (case kK => assumption); (case k1 => k_asm); (case k2 => k_asm); (case k3 => k_asm); (case k4 => k_asm); (case k5 => k_asm); (case k6 => k_is); (case k7 => k_is); (case k8 => ktr_room); (case k9 => first | exact BindsTo.of_eq rfl | exact binds_K (by k_in) rfl (by k_is) rfl rfl rfl); (case c5 => decide); (case kB => exact locs rfl); (case c2 => exact rfl); (case c3 => exact rfl); (case c4 => exact rfl); k_whole; intro g' L' h' FG' F' N' B' X' T'; (try dsimp only); (try k_fold))
  open_k0
  refine fe_set0 X' F' N' ?_ rfl ?_
  · intro p hp
    rcases List.mem_cons.mp hp with rfl | hp
    · show t ≠ x; omega
    · exact Nat.ne_of_lt (Nat.lt_trans (hl p hp) (by omega))
  intro dx hsh tk1 h3 tk3 F3 N3 l3 l3x
  clear F' N'
  have ltd : t < dx := l3 _ (.head _)
  have hnd : ∀ p ∈ ((t, ({ cls := .type "tuple", data := .seq [Value.str k tkk, .int i tii, .str d td].toArray } : Obj)) :: news), p.1 ≠ dx := fun p hp => Nat.ne_of_lt (l3 p hp)
  open_k0
  refine fe_set1 X' F3 N3 (Nat.ne_of_lt l3x) hnd rfl rfl rfl (by simp) ?_
  intro hsh2 tk4 h4 tk5 F4 N4
  clear F3 N3
  open_k0
  refine fe_set1 X' F4 N4 (Nat.ne_of_lt l3x) hnd rfl rfl rfl (by simp) ?_
  intro hsh3 tk6 h5 tk7 F5 N5
  clear F4 N4
  open_k0
  rename News h₀ L _ _ => kN9
  rename Fr h₀ L _ _ => kF9
  exact ret x dx t _ _ _ _ kF9 kN9 (fun p hp => by
    rcases List.mem_cons.mp hp with rfl | hp
    · exact ltx
    · exact Nat.lt_trans (hl p hp) ltx) (Nat.ne_of_lt l3x) rfl rfl

set_option maxRecDepth 100000 in
set_option maxHeartbeats 8000000 in
theorem fe_made2 {w : World} {p : Program} {loose : List Str} {mean : ExcName → Option Value} {mg mb : Str → Option Value}
  {dp un : Nat} {gd : Option (List Code)} {cn : Str} {cs : Scope} {a : Addr} {ccd : Value} {cl : List (Str × Addr)} {outer : List Env} {A₀ : Around} {base h₀ : Heap} {L : Addr} {m : Str → Option Value} {s : Shared}
  {Q E : Value → Shared → Prop} {news : List (Addr × Obj)} {k : Str} {i : Int} {tkk tii : Tok}
  (B : Below A₀ base outer h₀) (F : Fr h₀ L s.heap m) (X : (Mine.hd.heap_39 w.params).In h₀)
  (N : News h₀ L s.heap news) (T : Top p loose mean mg mb h₀) (hk : cs.kind = .function) (hd : dp + 3 < recursionLimit) (hu : un + 24 < cLine)
  (ret : ∀ x dx t o4 es h' tk', Fr h₀ L h' m → News h₀ L h' ((x, excO (some dx) t) :: (dx, dictOf es 3) :: (t, o4) :: news) → (∀ p ∈ (t, o4) :: news, p.1 < x) → x ≠ dx → getL "kind" es = some (some (.str k tkk)) → getL "at" es = some (some (.int i tii)) → Q (.ref x) { s with heap := h', toks := tk' }) :
  wpAny (model PR w) (ktrTop dp un gd cn cs L a ccd cl outer) (call (.ref 45) [.str k tkk, .int i tii]) Q E s := by
  unfold PR; revert X; k_fill; intro X
  have XX := X.keeps F.keep
  obtain ⟨nm, q, N5, bs, sn, sub, ab, col, dd, k0, k1, k2, k3, k5, hC⟩ := fe_cls XX
  obtain ⟨h, g, dr, tt, os⟩ := s
  refine wpAny_call (fe_call PySem.F.excBase_Exception rfl rfl rfl hC XX (fI := 29) (by k_is) (by k_is) ?_ (by rw [sizeLine_eq]; simp))
  have N1 := N.push F ({ cls := .type "tuple", data := .seq [Value.str k tkk, .int i tii].toArray } : Obj)
  have F1 := F.push ({ cls := .type "tuple", data := .seq [Value.str k tkk, .int i tii].toArray } : Obj)
  have N2 := N1.push F1 ({ cls := .ref 45, data := .fields #[.ref h.objs.size, .none, .none, .none, .bool false, .none] } : Obj)
  have F2 := F1.push ({ cls := .ref 45, data := .fields #[.ref h.objs.size, .none, .none, .none, .bool false, .none] } : Obj)
  have hl : ∀ p ∈ news, p.1 < h.objs.size := fun p hp => Heap.lt_size (N p hp).1
  rw [Heap.size_push] at N2
  dsimp only at F2 N2
  clear N1 F1 N F XX hC
  generalize hx : h.objs.size + 1 = x at N2 ⊢
  generalize ht : h.objs.size = t at N2 F2 hl hx ⊢
  have ltx : t < x := by omega
  generalize hh : (h.push ({ cls := .type "tuple", data := .seq [Value.str k tkk, .int i tii].toArray } : Obj)).push ({ cls := .ref 45, data := .fields #[.ref t, .none, .none, .none, .bool false, .none] } : Obj) = h2 at N2 F2 ⊢
  k_dflt (refine' code_def ?k1 ?k2 ?k3 ?k4 ?k5 ?kA ?kF ?kK ?k6 ?k7 ?k8 ?k9 ?kB ?_ ?c2 ?c3 ?c4 ?c5; (case kA => exact rfl); (case kF => exact rfl); (case kK => assumption); (case k1 => k_asm); (case k2 => k_asm); (case k3 => k_asm); (case k4 => k_asm); (case k5 => k_asm); (case k6 => k_is); (case k7 => k_is); (case k8 => ktr_room); (case k9 => first | exact BindsTo.of_eq rfl | exact binds_K (by k_in) rfl (by k_is) rfl rfl rfl); (case c5 => decide); (case kB => exact locs rfl); (case c2 => exact rfl); (case c3 => exact rfl); (case c4 => exact rfl); k_whole; intro g' L' h' FG' F' N' B' X' T'; (try dsimp only); (try k_fold))
  open_k0
  refine fe_set0 X' F' N' ?_ rfl ?_
  · intro p hp
    rcases List.mem_cons.mp hp with rfl | hp
    · show t ≠ x; omega
    · exact Nat.ne_of_lt (Nat.lt_trans (hl p hp) (by omega))
  intro dx hsh tk1 h3 tk3 F3 N3 l3 l3x
  clear F' N'
  have ltd : t < dx := l3 _ (.head _)
  have hnd : ∀ p ∈ ((t, ({ cls := .type "tuple", data := .seq [Value.str k tkk, .int i tii].toArray } : Obj)) :: news), p.1 ≠ dx := fun p hp => Nat.ne_of_lt (l3 p hp)
  open_k0
  refine fe_set1 X' F3 N3 (Nat.ne_of_lt l3x) hnd rfl rfl rfl (by simp) ?_
  intro hsh2 tk4 h4 tk5 F4 N4
  clear F3 N3
  open_k0
  refine fe_set1 X' F4 N4 (Nat.ne_of_lt l3x) hnd rfl rfl rfl (by simp) ?_
  intro hsh3 tk6 h5 tk7 F5 N5
  clear F4 N4
  open_k0
  rename News h₀ L _ _ => kN9
  rename Fr h₀ L _ _ => kF9
  exact ret x dx t _ _ _ _ kF9 kN9 (fun p hp => by
    rcases List.mem_cons.mp hp with rfl | hp
    · exact ltx
    · exact Nat.lt_trans (hl p hp) ltx) (Nat.ne_of_lt l3x) rfl rfl

theorem fresh_Exc5 : True := by
  w_top off
  trivial
/-- the end of a raised call, kept whole for the walk -/
def RaiseEnd (w : World) (E : Value → Shared → Prop) (v : Value) (s₁ : Shared) : Prop :=
  ∃ e od t, v = .ref e ∧ s₁.heap.get? e = some (excO od t) ∧ (Mine.hd.heap_39 w.params).In s₁.heap ∧ E (.ref e) s₁
theorem fe_raise {w : World} {A : Around} {E : Value → Shared → Prop} {s : Shared} {env : Env} {c : PySem.Expr} {pos : Pos} {Q : Flow → Shared → Prop} (hh : A.handled = none)
    (h : wpAny (model PR w) A (eval c env) (RaiseEnd w E) E s) : wpAny (model PR w) A (exec (.Raise (some c) none pos) env) Q E s := by
  rw [arm_exec_Raise]
  refine wpAny_bind (wpAny_standAt ?_)
  show wpAny _ _ (raiseStmt env (some (eval c env >>= fun v => standAt pos >>= fun _ => pure v)) none) _ _ _
  unfold raiseStmt
  refine wpAny_bind (wpAny_bind (wpAny_mono h (fun v s₁ h₁ => wpAny_bind (wpAny_standAt (wpAny_pure ?_))) fun _ _ x => x))
  obtain ⟨e, od, t, rfl, he, X, hE⟩ := h₁
  obtain ⟨nm, q, N5, bs, sn, sub, ab, col, dd, k0, k1, k2, k3, k5, hC⟩ := fe_cls X
  have hcB : ([Value.ref 45, .ref 32, .type "Exception", .type "BaseException", .type "object"] : List Value).contains (.type "BaseException") = true := rfl
  obtain ⟨hp, g, d, tk, os⟩ := s₁
  dsimp only at he hC hE
  repeat (first | with_reducible refine wpAny_loadPart_at he ?_ | with_reducible refine wpAny_loadPart_at hC ?_ | (with_reducible refine wpAny_isSubtype_exc hC ?_; rw [hcB]) | wp_step)
  exact wpAny_raiseNew_none hh hE

section
variable {w : World}
/-- an exception of the text's on its way: over the frames `l`, the ledger kept -/
def RaisedD (w : World) (base : Heap) (l : List Env) (e : Addr) (k : Str) (i : Int) (news : List (Addr × Obj)) (h : Heap) : Prop :=
  RaisedN base l e (.ref 45) news h ∧ ExcD base (l.filterMap (·.frame)) h e k i

theorem ExcD.flies {base h h' : Heap} {fs fs' : List Addr} {e : Addr} {k : Str} {i : Int} (x : ExcD base fs h e k i) (U : h.UpToSlots h') (D : DictKept h h') (hc : ∃ ob, h'.get? e = some ob ∧ ob.cls = .ref 45) (hf : ∀ a ∈ fs', a ∈ fs) : ExcD base fs' h' e k i := by
  obtain ⟨oe, dx, es, n, sl, tk, ti, h1, h2, h3, h4, h6, h7, h8, h9⟩ := x
  obtain ⟨ob, b1, b2⟩ := hc
  obtain ⟨oe', e1, e2⟩ := D e oe h1
  obtain ⟨sl', hs⟩ := U dx _ h4 (fun vs q => by cases q)
  have : oe' = ob := Option.some.inj (e1.symm.trans b1)
  subst this
  exact ⟨oe', dx, es, n, sl', tk, ti, b1, b2, e2.trans h3, hs, h6, h7, h8, fun m => h9 (hf _ m)⟩
end

section
variable {M : Model} {w : World} {A : Around} {E : Value → Shared → Prop} {s' : Shared} {base g g₂ h : Heap} {outer : List Env} {L a e t dx : Addr} {m : Str → Option Value} {name : Str} {scope : Scope} {cd : Value} {Q : Unit → Shared → Prop} {news : List (Addr × Obj)} {k : Str} {i : Int} {tk ti : Tok} {es : List DictEntry} {n : Nat}

theorem leave_newD (K : Below A base outer g) (F : Fr g L s'.heap m) (N : News g L s'.heap ((e, excO (some dx) t) :: (dx, dictOf es n) :: news)) (hne : ∀ p ∈ news, p.1 ≠ e)
    (h1 : getL "kind" es = some (some (.str k tk))) (h2 : getL "at" es = some (some (.int i ti)))
    (hQ : ∀ h', RaisedD w base outer e k i news h' → g.UpToSlots h' → Q () { s' with heap := h' }) (hk : scope.kind = .function := by rfl) :
    wpAny M (A.deeper (envOf name scope L a cd)) (leaving (envOf name scope L a cd) (.ref e)) Q E s' := by
  have K' := K.push (name := name) (a := a) (cd := cd) F hk
  have he : s'.heap.get? e = some (excO (some dx) t) := (N _ (.head _)).1
  have heL : e ≠ L := (N _ (.head _)).2.1
  have heg : g.get? e = none := (N _ (.head _)).2.2
  have hdx : s'.heap.get? dx = some (dictOf es n) := (N _ (.tail _ (.head _))).1
  have st : base.StaysIn (hideAll s'.heap (e :: (envOf name scope L a cd :: outer).filterMap (·.frame))) := fun b o q => hideAll_get _ (K'.stays b o q) fun hm => by
    rcases List.mem_cons.mp hm with rfl | hm
    · have := K.stays b o q; rw [heg] at this; cases this
    · rw [(K'.frames.mem hm).1] at q; cases q
  have hl : ∀ q ∈ news, (hideAll s'.heap (e :: (envOf name scope L a cd :: outer).filterMap (·.frame))).get? q.1 = some q.2 ∧ base.get? q.1 = none := fun q hq => by
    have Nq := N q (.tail _ (.tail _ hq))
    refine ⟨hideAll_get _ Nq.1 fun hm => ?_, fresh_of_stays K.stays Nq.2.2⟩
    rcases List.mem_cons.mp hm with hm | hm
    · exact hne q hq hm
    · obtain ⟨env, he, hf⟩ := List.mem_filterMap.mp hm
      rcases List.mem_cons.mp he with rfl | he
      · exact Nq.2.1 (Option.some.inj hf).symm
      · obtain ⟨o, ho, _⟩ := (K.frames.mem (List.mem_filterMap.mpr ⟨env, he, hf⟩)).2
        rw [Nq.2.2] at ho; cases ho
  have hen : (hideAll s'.heap (e :: (envOf name scope L a cd :: outer).filterMap (·.frame))).get? e = none := hideAll_none _ (.head _)
  have hff : (s'.heap).FunFrames (hideAll s'.heap (e :: (envOf name scope L a cd :: outer).filterMap (·.frame))) (envOf name scope L a cd :: outer) :=
    funFrames_hide K'.frames fun env he b hb => .tail _ (List.mem_filterMap.mpr ⟨env, he, hb⟩)
  have hdg : g.get? dx = none := (N _ (.tail _ (.head _))).2.2
  have X0 : ExcD base (outer.filterMap (·.frame)) s'.heap e k i := ⟨_, dx, es, n, #[], tk, ti, he, rfl, rfl, hdx, h1, h2, fresh_of_stays K.stays hdg, fun hm => by
    obtain ⟨o, ho, _⟩ := (K.frames.mem hm).2
    rw [hdg] at ho; cases ho⟩
  have core : wpAny M (A.deeper (envOf name scope L a cd)) (leaving (envOf name scope L a cd) (.ref e))
      (fun _ s'' => ∃ h', s'' = { s' with heap := h' } ∧ RaisedN base outer e (.ref 45) news h' ∧ s'.heap.UpToSlots h') E s' := by
    refine wpAny_leaving_firstW (a0 := .ref t) K'.stack hff rfl he (fun b o hb => of_hideAll _ hb) hen rfl rfl rfl fun h' hL => ?_
    obtain ⟨k1, ⟨_, _, k2⟩, k3, k4⟩ := hL
    exact ⟨h', rfl, ⟨_, .ref t, st, hl, k1, hen, k2, k3⟩, k4⟩
  refine wpAny_mono (wpAny_dk (dk_leaving _ _) core) (fun _ s'' q => ?_) fun _ _ q => q.1
  obtain ⟨⟨h', rfl, R, U⟩, D⟩ := q
  obtain ⟨B, a0, hB, hl', hfl⟩ := id R
  exact hQ h' ⟨R, X0.flies U D hfl.there fun _ h => h⟩ ((Heap.UpToSlots.of_keeps F.keep).trans U)

theorem leave_onD (K : Below A base outer g) (F : Fr g L g₂ m) (R : RaisedD w base (envOf name scope L a cd :: outer) e k i news s'.heap) (hsm : g₂.UpToSlots s'.heap)
    (hQ : ∀ h', RaisedD w base outer e k i news h' → g.UpToSlots h' → Q () { s' with heap := h' }) :
    wpAny M (A.deeper (envOf name scope L a cd)) (leaving (envOf name scope L a cd) (.ref e)) Q E s' := by
  have core : wpAny M (A.deeper (envOf name scope L a cd)) (leaving (envOf name scope L a cd) (.ref e))
      (fun _ s'' => ∃ h', s'' = { s' with heap := h' } ∧ RaisedN base outer e (.ref 45) news h' ∧ s'.heap.UpToSlots h') E s' := by
    obtain ⟨⟨B, a0, hB, hl, hfl⟩, _⟩ := R
    exact wpAny_leaves_onW (Around.frames_deeper K.stack) rfl hfl fun h' x1 x2 => ⟨h', rfl, ⟨B, a0, hB, hl, x1⟩, x2⟩
  refine wpAny_mono (wpAny_dk (dk_leaving _ _) core) (fun _ s'' q => ?_) fun _ _ q => q.1
  obtain ⟨⟨h', rfl, R', U⟩, D⟩ := q
  obtain ⟨B, a0, hB, hl', hfl⟩ := id R'
  exact hQ h' ⟨R', R.2.flies U D hfl.there fun a h => by
    obtain ⟨env, he, hf⟩ := List.mem_filterMap.mp h
    exact List.mem_filterMap.mpr ⟨env, .tail _ he, hf⟩⟩ ((Heap.UpToSlots.of_keeps F.keep).trans (hsm.trans U))
end

local macro_rules | `(tactic| walk_at "exec Raise some none") => `(tactic| (k_here; with_unfolding_all refine' fe_raise ?k1 ?_; (case k1 => exact rfl)))
local macro_rules | `(tactic| walk_at "call ref") => `(tactic| (k_here; (with_reducible show wpAny _ _ (call (Value.ref 45) [_, _]) _ _ _); k_dflt (refine' fe_made2 ?k1 ?k2 ?k3 ?k4 ?k5 ?k6 ?k7 ?k8 ?_; (case k1 => k_asm); (case k2 => k_asm); (case k3 => k_asm); (case k4 => k_asm); (case k5 => k_asm); (case k6 => exact rfl); (case k7 => ktr_room); (case k8 => ktr_units)); intro ex9 dx9 tx9 o49 es9 h9 tk9 F9 N9 l9 ne9 g19 g29))
local macro_rules | `(tactic| walk_at "call ref") => `(tactic| (k_here; (with_reducible show wpAny _ _ (call (Value.ref 45) [_, _, _]) _ _ _); k_dflt (refine' fe_made ?k1 ?k2 ?k3 ?k4 ?k5 ?k6 ?k7 ?k8 ?_; (case k1 => k_asm); (case k2 => k_asm); (case k3 => k_asm); (case k4 => k_asm); (case k5 => k_asm); (case k6 => exact rfl); (case k7 => ktr_room); (case k8 => ktr_units)); intro ex9 dx9 tx9 o49 es9 h9 tk9 F9 N9 l9 ne9 g19 g29))
theorem fresh_Plain2 : True := by
  w_top off
  trivial
/-! the reader: one step, and the whole -/
theorem line_go {x : Str} {j : Nat} (h : j < x.length) (hn : (Txt.item x (j : Int) != ("\n" : Str)) = true) : lineL ((lst x).drop j) = lineL ((lst x).drop (j + 1)) + 1 := by
  obtain ⟨c, r, e1, e2⟩ := item_at h
  have hc : c ≠ 10 := by
    rintro rfl
    rw [bne, item_is e1 lst_nl] at hn
    simp at hn
  rw [lineL_go e1 hc, drop_tail e1]
theorem line_stop {x : Str} {j : Nat} (h : j < x.length) (hn : (Txt.item x (j : Int) != ("\n" : Str)) = false) : lineL ((lst x).drop j) = 0 := by
  obtain ⟨c, r, e1, e2⟩ := item_at h
  have hc : c = 10 := by
    rw [bne, item_is e1 lst_nl] at hn
    simpa using hn
  exact lineL_stop (by rw [e1, hc])
theorem drop_end {x : Str} {j : Nat} (h : ¬ ((j : Int) < (x.length : Int))) : (lst x).drop j = [] := by
  rw [List.drop_eq_nil_iff]; rw [lst_length]; omega
theorem gap_blank {x : Str} {i : Nat} (h : i < x.length) (hb : (Builtin.Str.occurrences (" \t\r\n\x0c\x0b" : Str) (Txt.item x (i : Int)) 0 (" \t\r\n\x0c\x0b" : Str).length 1).isEmpty = false) : gapL ((lst x).drop i) = some 1 := by
  obtain ⟨c, r, e1, e2⟩ := item_at h
  rw [e2, one_in, lst_blank] at hb
  exact gapL_blank e1 (by simpa [blank, Decidable.or_iff_not_imp_left] using hb)
theorem gap_none {x : Str} {i : Nat} (h : i < x.length) (hb : (Builtin.Str.occurrences (" \t\r\n\x0c\x0b" : Str) (Txt.item x (i : Int)) 0 (" \t\r\n\x0c\x0b" : Str).length 1).isEmpty = true)
    (h1 : (Txt.slice x (some (i : Int)) (some ((i : Int) + 2)) == ("//" : Str)) = false) (h2 : (Txt.slice x (some (i : Int)) (some ((i : Int) + 2)) == ("/*" : Str)) = false) : gapL ((lst x).drop i) = some 0 := by
  obtain ⟨c, r, e1, e2⟩ := item_at h
  rw [e2, one_in, lst_blank] at hb
  refine gapL_none (fun c' r' e => ?_) (mark_not h1 lst_line (by omega)) (mark_not h2 lst_open (by omega))
  rw [e1] at e
  obtain ⟨rfl, rfl⟩ := List.cons.inj e
  simpa [blank] using hb
theorem RaisedD.none {w : World} {base h : Heap} {l : List Env} {e : Addr} {k : Str} {i : Int} {news : List (Addr × Obj)} (R : RaisedD w base l e k i news h) : RaisedD w base l e k i [] h := by
  obtain ⟨⟨B, a0, h1, h2, h3⟩, h4⟩ := R
  exact ⟨⟨B, a0, h1, fun _ hq => (nomatch hq), h3⟩, h4⟩
/-- the sixteen signs of a number -/
def hexv (c : Nat) : Option Nat := if 48 ≤ c ∧ c ≤ 57 then some (c - 48) else if 97 ≤ c ∧ c ≤ 102 then some (c - 87) else none
def addrGo : Nat → List Nat → Option Nat
  | v, [] => some v
  | v, c :: r => match hexv c with
    | none => none
    | some q => addrGo (v * 16 + q) r
def addrL (l : List Nat) : Option Nat := if l.filter (· != 95) = [] then none else addrGo 0 (l.filter (· != 95))
theorem addrGo_append (a b : List Nat) : ∀ v, addrGo v (a ++ b) = (addrGo v a).bind fun u => addrGo u b := by
  induction a with
  | nil => intro v; rfl
  | cons c r ih =>
    intro v
    simp only [List.cons_append, addrGo]
    cases hexv c with
    | none => rfl
    | some q => exact ih _
theorem find_hex : ∀ c, c < 128 → Txt.find ("0123456789abcdef" : Str) ⟨#[c]⟩ = match hexv c with | some q => (q : Int) | none => -1 := by decide +kernel
theorem hexv_lt {c q : Nat} (h : hexv c = some q) : q < 16 := by
  unfold hexv at h
  split at h
  · cases h; omega
  · split at h
    · cases h; omega
    · cases h
theorem codes_toNat (x : Str) : (KStt.codes x).map Int.toNat = lst x := by
  unfold KStt.codes lst
  rw [List.map_map]
  conv => rhs; rw [← List.map_id x.cps.toList]
  refine List.map_congr_left fun a _ => ?_
  simp
theorem lst_strike (x : Str) : lst (Txt.replace x ("_" : Str) ("" : Str)) = (lst x).filter (· != 95) := by
  rw [show ("_" : Str) = ⟨#[95]⟩ from by decide +kernel, show ("" : Str) = ⟨#[]⟩ from by decide +kernel]
  exact replace_strikes x 95
theorem lst_lower {x : Str} (h : ∀ c ∈ lst x, c < 128) : lst (Txt.lower x) = (lst x).map lo1 := by
  rw [lower_ascii h]
  unfold lst
  simp
theorem lo1_lt {c : Nat} (h : c < 128) : lo1 c < 128 := by unfold lo1; split <;> omega
theorem eq_empty {x : Str} : (x == ("" : Str)) = decide (lst x = []) := by
  rw [beq_lst, show lst ("" : Str) = [] from by decide +kernel]
  cases lst x <;> simp
theorem lst_tail {x : Str} (h : 1 ≤ x.length) : lst (Txt.slice x (some 1) none) = (lst x).tail := by
  rw [slice_from_eq (x := x) (i := 1) (by decide) (by omega) rfl]
  show ((lst x).drop 1).take ((x.length : Int) - 1).toNat = _
  rw [List.drop_one, List.take_of_length_le (by rw [List.length_tail, lst_length]; omega)]
theorem addr_digits {x : Str} (h : 1 ≤ x.length) : lst (Txt.replace (Txt.slice x (some 1) none) ("_" : Str) ("" : Str)) = (lst x).tail.filter (· != 95) := by
  rw [lst_strike, lst_tail h]
theorem addr_nil {x : Str} (h1 : 1 ≤ x.length) (h : (Txt.replace (Txt.slice x (some 1) none) ("_" : Str) ("" : Str) == ("" : Str)) = true) : addrL (lst x).tail = none := by
  rw [eq_empty, addr_digits h1, decide_eq_true_eq] at h
  unfold addrL
  rw [if_pos h]
theorem addr_some {x : Str} (h1 : 1 ≤ x.length) (h : (Txt.replace (Txt.slice x (some 1) none) ("_" : Str) ("" : Str) == ("" : Str)) = false) : addrL (lst x).tail = addrGo 0 ((KStt.codes (Txt.replace (Txt.slice x (some 1) none) ("_" : Str) ("" : Str))).map Int.toNat) := by
  rw [eq_empty, addr_digits h1, decide_eq_false_iff_not] at h
  unfold addrL
  rw [if_neg h, codes_toNat, addr_digits h1]
theorem codes_lt {x : Str} {pre post : List Int} {n : Nat} (h1 : 1 ≤ x.length) (hc : ∀ c ∈ lst x, c < 128) (e : KStt.codes (Txt.replace (Txt.slice x (some 1) none) ("_" : Str) ("" : Str)) = pre ++ (n : Int) :: post) : n < 128 := by
  have h2 : (n : Int) ∈ KStt.codes (Txt.replace (Txt.slice x (some 1) none) ("_" : Str) ("" : Str)) := by rw [e]; exact List.mem_append.mpr (.inr (.head _))
  obtain ⟨k, hk, hkn⟩ := List.mem_map.mp h2
  have h3 : k ∈ lst (Txt.replace (Txt.slice x (some 1) none) ("_" : Str) ("" : Str)) := hk
  rw [addr_digits h1] at h3
  have h4 := hc k (List.mem_of_mem_tail (List.mem_filter.mp h3).1)
  omega
theorem addr_bad {x : Str} {pre post : List Int} {n : Nat} {v : Nat} (h1 : 1 ≤ x.length) (hc : ∀ c ∈ lst x, c < 128) (h : (Txt.replace (Txt.slice x (some 1) none) ("_" : Str) ("" : Str) == ("" : Str)) = false)
    (e : KStt.codes (Txt.replace (Txt.slice x (some 1) none) ("_" : Str) ("" : Str)) = pre ++ (n : Int) :: post) (p1 : addrGo 0 (pre.map Int.toNat) = some v) (hf : Txt.find ("0123456789abcdef" : Str) ⟨#[n]⟩ < 0) : addrL (lst x).tail = none := by
  rw [find_hex n (codes_lt h1 hc e)] at hf
  have hn : hexv n = none := by
    cases q : hexv n with
    | none => rfl
    | some k => rw [q] at hf; simp only at hf; omega
  rw [addr_some h1 h, e, List.map_append, addrGo_append, p1]
  simp [addrGo, hn]
theorem addr_more {x : Str} {pre post : List Int} {n : Nat} {v : Nat} (h1 : 1 ≤ x.length) (hc : ∀ c ∈ lst x, c < 128)
    (e : KStt.codes (Txt.replace (Txt.slice x (some 1) none) ("_" : Str) ("" : Str)) = pre ++ (n : Int) :: post) (p1 : addrGo 0 (pre.map Int.toNat) = some v) (hf : ¬ Txt.find ("0123456789abcdef" : Str) ⟨#[n]⟩ < 0) :
    ∃ q : Nat, Txt.find ("0123456789abcdef" : Str) ⟨#[n]⟩ = (q : Int) ∧ addrGo 0 ((pre ++ [(n : Int)]).map Int.toNat) = some (v * 16 + q) := by
  rw [find_hex n (codes_lt h1 hc e)] at hf ⊢
  cases q : hexv n with
  | none => rw [q] at hf; simp only at hf; omega
  | some k =>
    refine ⟨k, rfl, ?_⟩
    rw [List.map_append, addrGo_append, p1]
    simp [addrGo, q]

theorem fresh_GapEnd : True := by
  w_top off
  trivial
set_option maxRecDepth 100000 in
set_option maxHeartbeats 8000000 in
theorem gapEnd_spec {w : World} {p : Program} {loose : List Str} {mean : ExcName → Option Value} {mg mb : Str → Option Value}
  {dp un : Nat} {gd : Option (List Code)} {cn : Str} {cs : Scope} {a : Addr} {ccd : Value} {cl : List (Str × Addr)} {outer : List Env} {A₀ : Around} {base h₀ : Heap} {L : Addr} {m : Str → Option Value} {s : Shared}
  {Q E : Value → Shared → Prop}
  {i : Nat} {ti tx : Tok} {x : Str} {news : List (Addr × Obj)}
  (B : Below A₀ base outer h₀) (F : Fr h₀ L s.heap m) (X : (Mine.hd.heap_39 w.params).In h₀)
  (N : News h₀ L s.heap news) (T : Top p loose mean mg mb h₀)
  (hk : cs.kind = .function) (hd : dp + 8 < recursionLimit) (hu : un + 64 < cLine) (hl : x.length ≤ 1000) (hi : i < x.length)
  (ret : ∀ n t h' tk', gapL ((lst x).drop i) = some n → Fr h₀ L h' m → News h₀ L h' news → Q (.int ((i + n : Nat) : Int) t) { s with heap := h', toks := tk' })
  (exc : ∀ e g₂ h' tk', gapL ((lst x).drop i) = none → Fr h₀ L g₂ m → g₂.UpToSlots h' → RaisedD w base (envX cn cs L a ccd cl :: outer) e "unfinished_remark" i [] h' → E (.ref e) { s with heap := h', toks := tk' }) :
  wpAny (model PR w) (ktrTop dp un gd cn cs L a ccd cl outer) (call (.ref 68) [.str x tx, .int (i : Int) ti]) Q E s := by
  unfold PR; revert X; k_fill; intro X
  refine wpAny_call ?_
  k_dflt ktr_enter
  open_k0
  · rename_i e1 h1 t1 k1 e2 h2 h3 F9 N9 e3
    refine while_T (σ := Nat × Tok) (fun _ => news) (fun c => [(("end" : Str), .int (c.1 : Int) c.2)]) (fun _ => True) [] (fun c => i ≤ c.1 ∧ c.1 ≤ x.length ∧ lineL ((lst x).drop c.1) + c.1 = lineL ((lst x).drop i) + i) (fun c => x.length - c.1) (i, ti) F9 N9 trivial ?_ ⟨Nat.le_refl _, Nat.le_of_lt hi, rfl⟩ ?_
    · intro p hp; rw [List.mem_singleton.mp hp]; rfl
    · have hg : gapL ((lst x).drop i) = some (lineL ((lst x).drop i)) := by
        obtain ⟨r, e⟩ := mark_is (by assumption) lst_line (by omega)
        exact gapL_line e
      rintro ⟨j, tj⟩ u h tk0 _ ⟨p1, p2, p3⟩ F N
      dsimp only at p1 p2 p3 F N ⊢
      open_k0
      · open_x
        rename Fr _ _ _ _ => F1
        rename News _ _ _ _ => N1
        have a4 := line_go (x := x) (j := j) (by omega) (by assumption)
        refine' ksw_end (j + 1, _) F1 N1 (fun _ hp => hp) trivial ?d1 ?d2 ⟨?d3, ?d4, ?d5⟩ ?d6
        case d1 => intro p hp; rw [List.mem_singleton.mp hp]; rfl
        case d2 =>
          intro z h1 h2
          have h4 : z ≠ ("end" : Str) := h1 _ (.head _)
          simp [h4, kstB]
        all_goals (dsimp only; omega)
      · rename Fr h₀ L _ _ => F1
        rename News h₀ L _ _ => N1
        have a4 := line_stop (x := x) (j := j) (by omega) (by assumption)
        have q := fun t h tk => ret (j - i) t h tk (by rw [hg]; congr 1; omega)
        rw [show i + (j - i) = j from by omega] at q
        exact q _ _ _ F1 N1
      · rename Fr h₀ L _ _ => F1
        rename News h₀ L _ _ => N1
        have a4 := drop_end (x := x) (j := j) (by assumption)
        have q := fun t h tk => ret (j - i) t h tk (by rw [hg]; congr 1; rw [a4] at p3; simp only [lineL] at p3; omega)
        rw [show i + (j - i) = j from by omega] at q
        exact q _ _ _ F1 N1
  · rename_i F9 N9
    have hg : ∃ r, (lst x).drop i = 47 :: 42 :: r := mark_is (by assumption) lst_open (by omega)
    obtain ⟨r, hg⟩ := hg
    have hr : (lst x).drop (i + 2) = r := by rw [← List.drop_drop, hg]; rfl
    have hi2 : i + 2 ≤ x.length := by
      rw [← lst_length]
      have h9 : ((lst x).drop i).length = r.length + 2 := by rw [hg]; rfl
      rw [List.length_drop] at h9; omega
    have hgl := gapL_open hg
    refine' while_T (σ := Nat × Tok) (fun _ => news) (fun c => [(("end" : Str), .int (c.1 : Int) c.2)]) (fun _ => True) [] (fun c => i + 2 ≤ c.1 ∧ c.1 ≤ x.length ∧ closeL r = (closeL ((lst x).drop c.1)).map (· + (c.1 - (i + 2)))) (fun c => x.length - c.1) (i + 2, _) F9 N9 trivial ?q1 ⟨Nat.le_refl _, hi2, ?q2⟩ ?q3
    case q1 => intro p hp; rw [List.mem_singleton.mp hp]; rfl
    case q2 => rw [hr, Nat.sub_self]; simp
    case q3 =>
      rintro ⟨j, tj⟩ u h tk0 _ ⟨p1, p2, p3⟩ F N
      dsimp only at p1 p2 p3 F N ⊢
      open_k0
      · rename_i ex9 dx9 tx9 o49 es9 h9 tk9 F9 N9 l9 ne9 g19 g29
        rename (Mine.hd.heap_39 w.params).In _ => X9
        rename Below _ _ _ _ => B9
        refine ⟨_, _, _, rfl, (N9 _ (.head _)).1, X9.keeps F9.keep, ?_⟩
        show ek _ _
        dsimp only [ek]
        have hne : ∀ p ∈ (tx9, o49) :: news, p.1 ≠ ex9 := fun p hp => Nat.ne_of_lt (l9 p hp)
        refine leave_newD (w := w) B9 F9 N9 hne g19 g29 (fun h' R U => ?_) rfl
        refine exc ex9 _ h' _ ?_ (by assumption) U R.none
        rw [hgl, p3, drop_end (by omega)]
        rfl
      · open_x
        rename Fr _ _ _ _ => F1
        rename News _ _ _ _ => N1
        have hn : ∀ r, (lst x).drop j ≠ 42 :: 47 :: r := mark_not (y := ("*/" : Str)) (by rw [bne, Bool.not_eq_true'] at *; assumption) lst_close p2
        refine' ksw_end (j + 1, _) F1 N1 (fun _ hp => hp) trivial ?v1 ?v2 ⟨?v3, ?v4, ?v5⟩ ?v6
        case v1 => intro p hp; rw [List.mem_singleton.mp hp]; rfl
        case v2 =>
          intro z h1 h2
          have h4 : z ≠ ("end" : Str) := h1 _ (.head _)
          simp [h4, kstB]
        case v5 =>
          obtain ⟨c, r', e1, _⟩ := item_at (x := x) (i := j) (by omega)
          rw [p3, closeL_go e1 hn, ← drop_tail e1, Option.map_map]
          congr 1
          funext n
          show n + 1 + (j - (i + 2)) = n + (j + 1 - (i + 2))
          omega
        all_goals (dsimp only; omega)
      · rename Fr h₀ L _ _ => F1
        rename News h₀ L _ _ => N1
        obtain ⟨r', e1⟩ := mark_is (x := x) (y := ("*/" : Str)) (i := j) (by rw [bne, Bool.not_eq_false'] at *; assumption) lst_close p2
        have q := fun t h tk => ret (j + 2 - i) t h tk (by
          rw [hgl, p3, closeL_stop e1]
          simp only [Option.map_some]
          congr 1; omega)
        rw [show i + (j + 2 - i) = j + 2 from by omega] at q
        exact q _ _ _ F1 N1
  · rename_i _ h1 h2 F9 N9 _ _
    have q := fun t h tk => ret 0 t h tk (gap_none hi (by assumption) (by assumption) (by assumption))
    rw [Nat.add_zero] at q
    exact q _ _ _ (by assumption) (by assumption)
  · rename_i F9 N9 _ _
    exact ret 1 _ _ _ (gap_blank hi (by assumption)) F9 N9

theorem fresh_Toks : True := by
  w_top off
  trivial
/-! The counter of made values never falls. -/
theorem runs_toks {M : Model} {Γ : Ctx} {p : Pos} {t : Sem Fin} {fs : List Frame} {s s' : Shared} {e : End} (h : Runs M Γ p t fs s e s') : s.toks ≤ s'.toks := by
  induction h
  all_goals first
    | exact Nat.le_refl _
    | assumption
    | (rename_i ih; exact Nat.le_of_succ_le ih)
    | (rename_i ih1 ih2; exact Nat.le_trans ih1 ih2)
    | (rename_i ih1 _ ih2; exact Nat.le_trans ih1 ih2)
    | skip
theorem wakes_toks {M : Model} {Γ : Ctx} {p : Pos} {g : Nat} {r : Resume} {s s' : Shared} {res : GenResult} (h : Wakes M Γ p g r s res s') : s.toks ≤ s'.toks := by
  unfold Wakes at h
  split at h
  · exact h.elim
  · split at h
    · obtain ⟨e₁, s₁, h1, _, _, rfl⟩ := h; have q := runs_toks h1; exact q
    · rw [h.2]; exact Nat.le_refl _
    · rw [h.2]; exact Nat.le_refl _
  · obtain ⟨e₁, s₁, h1, _, _, rfl⟩ := h; have q := runs_toks h1; exact q
  · rw [h.2]; exact Nat.le_refl _
  · rw [h.2]; exact Nat.le_refl _
theorem wp_toks {α : Type} (M : Model) (Γ : Ctx) (n : Nat) (t : Sem α) : ∀ (Q : α → Pos → Shared → Prop) (E : Value → Pos → Shared → Prop) (p : Pos) (s : Shared), n ≤ s.toks → Sem.wp M Γ t Q E p s →
    Sem.wp M Γ t (fun a p' s' => Q a p' s' ∧ n ≤ s'.toks) (fun e p' s' => E e p' s' ∧ n ≤ s'.toks) p s := by
  induction t with
  | pure a => intro Q E p s d h; simp only [Sem.wp] at h ⊢; exact ⟨h, d⟩
  | raise e => intro Q E p s d h; simp only [Sem.wp] at h ⊢; exact ⟨h, d⟩
  | unsupported w => intro Q E p s _ h; simp only [Sem.wp] at h
  | finish e => intro Q E p s _ h; simp only [Sem.wp] at h
  | rule t k ih => intro Q E p s d h; simp only [Sem.wp] at h ⊢; exact ih () Q E p s d h
  | «at» q k ih => intro Q E p s d h; simp only [Sem.wp] at h ⊢; exact ih () Q E q s d h
  | load a q k ih => intro Q E p s d h; simp only [Sem.wp] at h ⊢; obtain ⟨o, e, h⟩ := h; exact ⟨o, e, ih o Q E p s d h⟩
  | update a q g k ih => intro Q E p s d h; simp only [Sem.wp] at h ⊢; obtain ⟨e, h⟩ := h; exact ⟨e, ih () Q E p _ d h⟩
  | alloc o k ih => intro Q E p s d h; simp only [Sem.wp] at h ⊢; exact ih _ Q E p _ d h
  | loadIfAlive a k ih => intro Q E p s d h; simp only [Sem.wp] at h ⊢; exact ih _ Q E p s d h
  | point l k ih => intro Q E p s d h; simp only [Sem.wp] at h ⊢; exact ih _ Q E p s d h
  | register a k ih => intro Q E p s d h; simp only [Sem.wp] at h
  | fresh k ih => intro Q E p s d h; simp only [Sem.wp] at h ⊢; exact ih _ Q E p { s with toks := s.toks + 1 } (Nat.le_succ_of_le d) h
  | ask k ih => intro Q E p s d h; simp only [Sem.wp] at h ⊢; exact ih _ Q E p s d h
  | choose q n k ih => intro Q E p s d h; simp only [Sem.wp] at h ⊢; exact ⟨h.1, ih _ Q E p _ d h.2⟩
  | os q l k ih => intro Q E p s d h; simp only [Sem.wp] at h ⊢; exact ih _ Q E p _ d h
  | call c h g l k ih =>
    intro Q E p s d h
    simp only [Sem.wp] at h ⊢
    obtain ⟨r, s₁, h1, h2⟩ := h
    exact ⟨r, s₁, h1, ih r Q E p s₁ (Nat.le_trans d (runs_toks h1)) h2⟩
  | handled o k ih => intro Q E p s d h; simp only [Sem.wp] at h ⊢; exact ih _ Q E p s d h
  | newGen c k ih => intro Q E p s d h; simp only [Sem.wp] at h ⊢; exact ih _ Q E p _ d h
  | genState g k ih => intro Q E p s d h; simp only [Sem.wp] at h ⊢; obtain ⟨st, e, h⟩ := h; exact ⟨st, e, ih _ Q E p s d h⟩
  | resume g r l k ih =>
    intro Q E p s d h
    simp only [Sem.wp] at h ⊢
    obtain ⟨res, s₁, h1, h2⟩ := h
    exact ⟨res, s₁, h1, ih res Q E p s₁ (Nat.le_trans d (wakes_toks h1)) h2⟩
  | yield v g l k ih => intro Q E p s d h; simp only [Sem.wp] at h
  | stack k ih => intro Q E p s d h; simp only [Sem.wp] at h ⊢; exact ih _ Q E p s d h
  | fork c k ih => intro Q E p s d h; simp only [Sem.wp] at h
  | thread k ih => intro Q E p s d h; simp only [Sem.wp] at h ⊢; exact ih _ Q E p s d h
  | await a t d l k ih => intro Q E p s _ h; simp only [Sem.wp] at h
/-- behind a step from a state whose counter is not nought, it is not nought -/
def Pos0 (n : Nat) (P : Prop) : Prop := 0 < n → P
theorem wpAny_pos {α : Type} {M : Model} {A : Around} {t : Sem α} {Q : α → Shared → Prop} {E : Value → Shared → Prop} {s : Shared} (hp : 0 < s.toks) (h : wpAny M A t (fun a s' => Pos0 s'.toks (Q a s')) E s) : wpAny M A t Q E s := by
  intro Γ p hΓ
  refine Sem.wp_mono M Γ _ (fun a p' s' q => q.1 q.2) (fun e p' s' q => q.1) p s (wp_toks M Γ 1 t _ _ p s hp (h Γ p hΓ))
theorem gen_toks {α : Type} {M : Model} {A : Around} {t : Sem α} {Q : α → Shared → Prop} {E : Value → Shared → Prop} {h : Heap} {g : Array GenState} {d : Drawn} {k : Nat} {os : OsState} (hp : 0 < k)
    (q : ∀ tk, 0 < tk → wpAny M A t Q E ⟨h, g, d, tk, os⟩) : wpAny M A t Q E ⟨h, g, d, k, os⟩ := q k hp
theorem replace_us {prog : Program} {w : World} {A : Around} {E : Value → Shared → Prop} {s : Shared} {x : Str} {t u v : Tok} {Q : Value → Shared → Prop} (hu : @LT.lt Nat _ 0 u) (huv : @LT.lt Nat _ u v) (hb : x.length ≤ 100000)
    (hq : ∀ t' k, Q (.str (Txt.replace x ("_" : Str) ("" : Str)) t') { s with toks := k }) : wpAny (model prog w) A (call (.builtin "str.replace") [.str x t, .str ("_" : Str) u, .str ("" : Str) v]) Q E s :=
  SC.replace (Nat.ne_of_gt hu) (Nat.ne_of_gt (Nat.lt_trans hu huv)) (Nat.ne_of_lt huv) (by decide +kernel) (by rw [show ("" : Str).length = 0 from by decide +kernel]; omega) hq

local macro_rules | `(tactic| open_k0) => `(tactic| repeat' (first | ((fail_if_success (with_reducible show wpAny _ _ (exec (Stmt.For _ _ _ _ _) _) _ _ _)); (fail_if_success (with_reducible show wpAny _ _ (exec (Stmt.While _ _ _ _) _) _ _ _)); (fail_if_success (with_reducible show wpAny _ _ (pyIter _) _ _ _)); first | ((with_reducible show Pos0 _ _); unfold Pos0; intro hpos9; (try dsimp only at hpos9)) | (k_unfold; (try dsimp only)) | (k_end; wrow_close) | walk1 | (dsimp only; walk1) | (leave1; walk_say "STEP leave1"; try dsimp only)) | fail "no step"))
local macro_rules | `(tactic| walk_at "execs cons") => `(tactic| (k_here; (with_reducible show wpAny _ _ (execs _ _) _ _ (Shared.mk _ _ _ (_ + 1) _)); refine gen_toks ?hp ?_; (case hp => first | omega | exact Nat.succ_pos _); intro tk9 htk9))
local macro_rules | `(tactic| walk_at "subscriptTail Name Slice str ref") => `(tactic| (k_here; (fail_if_success (with_reducible show wpAny _ _ _ (fun a s' => Pos0 _ _) _ _)); (refine wpAny_pos ?hp ?_); (case hp => first | omega | exact Nat.succ_pos _ | (dsimp only; omega))))
local macro_rules | `(tactic| walk_at "call builtin:str.lower") => `(tactic| (k_here; (fail_if_success (with_reducible show wpAny _ _ _ (fun a s' => Pos0 _ _) _ _)); (refine wpAny_pos ?hp ?_); (case hp => first | omega | exact Nat.succ_pos _ | (dsimp only; omega))))
local macro_rules | `(tactic| walk_at "call builtin:str.replace") => `(tactic| (k_here; k_dflt (refine replace_us ?hu ?huv ?hb ?_; (case hu => omega); (case huv => omega); (case hb => omega)); intro t9 k9))
theorem fresh_Addr : True := by
  w_top off
  trivial
set_option maxRecDepth 100000 in
set_option maxHeartbeats 8000000 in
theorem addr_spec {w : World} {p : Program} {loose : List Str} {mean : ExcName → Option Value} {mg mb : Str → Option Value}
  {dp un : Nat} {gd : Option (List Code)} {cn : Str} {cs : Scope} {a : Addr} {ccd : Value} {cl : List (Str × Addr)} {outer : List Env} {A₀ : Around} {base h₀ : Heap} {L : Addr} {m : Str → Option Value} {s : Shared}
  {Q E : Value → Shared → Prop}
  {i : Int} {ti tx : Tok} {x : Str} {news : List (Addr × Obj)}
  (B : Below A₀ base outer h₀) (F : Fr h₀ L s.heap m) (X : (Mine.hd.heap_39 w.params).In h₀)
  (N : News h₀ L s.heap news) (T : Top p loose mean mg mb h₀)
  (hk : cs.kind = .function) (hd : dp + 8 < recursionLimit) (hu : un + 64 < cLine) (hl : x.length ≤ 1000) (hl1 : 1 ≤ x.length) (hc : ∀ c ∈ lst x, c < 128)
  (ret : ∀ v t h' tk', addrL (lst x).tail = some v → Fr h₀ L h' m → News h₀ L h' news → Q (.int (v : Int) t) { s with heap := h', toks := tk' })
  (exc : ∀ e g₂ h' tk', addrL (lst x).tail = none → Fr h₀ L g₂ m → g₂.UpToSlots h' → RaisedD w base (envX cn cs L a ccd cl :: outer) e "bad_address" i [] h' → E (.ref e) { s with heap := h', toks := tk' }) :
  wpAny (model PR w) (ktrTop dp un gd cn cs L a ccd cl outer) (call (.ref 82) [.str x tx, .int i ti]) Q E s := by
  unfold PR; revert X; k_fill; intro X
  refine wpAny_call ?_
  k_dflt ktr_enter
  open_k0
  · rename_i ex9 dx9 tx9 o49 es9 h9 tk9 F9 N9 l9 ne9 g19 g29
    rename (Mine.hd.heap_39 w.params).In _ => X9
    rename Below _ _ _ _ => B9
    refine ⟨_, _, _, rfl, (N9 _ (.head _)).1, X9.keeps F9.keep, ?_⟩
    show ek _ _
    dsimp only [ek]
    refine leave_newD (w := w) B9 F9 N9 (fun p hp => Nat.ne_of_lt (l9 p hp)) g19 g29 (fun h' R U => ?_) rfl
    refine exc ex9 _ h' _ ?_ (by assumption) U R.none
    rename (_ == _) = true => e9
    exact addr_nil hl1 e9
  · rename Fr _ _ _ _ => F9
    rename News _ _ _ _ => N9
    rename (_ == _) = false => e9
    with_unfolding_all refine' For_invVF F9 ?k1 ?k2 ?_
    case k1 => exact rfl
    case k2 => exact rfl
    open_k0
    refine' KStt.kst_text (σ := Nat × Tok) (fun _ => news) (fun c => [(("value" : Str), .int (c.1 : Int) c.2)]) (fun _ => True) ["place"] (fun pre c => addrGo 0 (pre.map Int.toNat) = some c.1) (0, _) rfl F9 N9 trivial ?q1 rfl ?q2 ?q3
    case q1 => intro p hp; rw [List.mem_singleton.mp hp]; rfl
    case q2 =>
      rintro ⟨v, tv⟩ pre post n t u h tk own e hoff _ p1 F N
      dsimp only at p1 F N
      refine te ?_
      open_k0
      · rename_i ex9 dx9 tx9 o49 es9 h9 tk9 F9 N9 l9 ne9 g19 g29
        rename (Mine.hd.heap_39 w.params).In _ => X9
        rename Below _ _ _ _ => B9
        refine ⟨_, _, _, rfl, (N9 _ (.head _)).1, X9.keeps F9.keep, ?_⟩
        show ek _ _
        dsimp only [ek]
        refine leave_newD (w := w) B9 F9 N9 (fun p hp => Nat.ne_of_lt (l9 p hp)) g19 g29 (fun h' R U => ?_) rfl
        exact exc ex9 _ h' _ (addr_bad hl1 hc e9 e p1 (by assumption)) (by assumption) U R.none
      · open_x
        rename Fr _ _ _ _ => F1
        rename News _ _ _ _ => N1
        obtain ⟨q, e1, e2⟩ := addr_more hl1 hc e p1 (by assumption)
        refine' kst_end (x := ("digit" : Str)) (v * 16 + q, _) F1 N1 ?d1 ?d2 rfl trivial ?d3 ?d4 e2
        case d1 => exact fun p hp => List.mem_append.mpr (.inl hp)
        case d2 => exact fun p hp => List.mem_append.mpr (.inr hp)
        case d3 => intro p hp; rw [List.mem_singleton.mp hp]; simp only [if_true]; rw [e1]; rfl
        case d4 =>
          intro z h1 h2 h3
          have h4 : z ≠ ("value" : Str) := h2 _ (.head _)
          simp only [List.contains_cons, List.contains_nil, Bool.or_false, beq_eq_false_iff_ne, ne_eq] at h3
          simp [h1, h3, h4, kstB]
    case q3 =>
      rintro ⟨v, tv⟩ u h tk _ p1 F N
      dsimp only at p1 F N
      open_k0
      rename Fr h₀ L _ _ => F1
      rename News h₀ L _ _ => N1
      exact ret v _ _ _ ((addr_some hl1 e9).trans p1) F1 N1

theorem fresh_Plain3 : True := by
  w_top off
  trivial
/-! the reader over codes: one step, and the whole -/
def scanL : List Nat → Nat × Bool
  | [] => (0, false)
  | c :: r => match gapL (c :: r) with
    | none => (0, true)
    | some 0 => ((scanL r).1 + 1, (scanL r).2)
    | some (_ + 1) => (0, false)
inductive Step where
  | gap (n : Nat)
  | err (k : Str) (o : Nat)
  | addr (n v : Nat)
  | row (n : Nat) (d : List Nat)
def stepW (hx : Bool) (n : Nat) (w : List Nat) : Step :=
  if w.head? = some 64 then (match addrL w.tail with | none => .err "bad_address" 0 | some v => .addr n v)
  else if fitsL hx (w.filter (· != 95)) then .row n (w.filter (· != 95)) else .err "bad_word" 0
def stepL (hx : Bool) (l : List Nat) : Step :=
  match gapL l with
  | none => .err "unfinished_remark" 0
  | some (n + 1) => .gap (n + 1)
  | some 0 => if (scanL l).2 then .err "unfinished_remark" (scanL l).1 else stepW hx (scanL l).1 ((l.take (scanL l).1).map lo1)
abbrev Row := Option Nat × List Nat
inductive Out where
  | ok (rows : List Row)
  | err (k : Str) (i : Nat)
inductive Reads (hx : Bool) : Nat → List Nat → Option Nat → List Row → Out → Prop
  | done {i a rows} : Reads hx i [] a rows (.ok rows)
  | err {i l a rows k o} : l ≠ [] → stepL hx l = .err k o → Reads hx i l a rows (.err k (i + o))
  | gap {i l a rows O n} : l ≠ [] → stepL hx l = .gap n → Reads hx (i + n) (l.drop n) a rows O → Reads hx i l a rows O
  | addr {i l a rows O n v} : l ≠ [] → stepL hx l = .addr n v → Reads hx (i + n) (l.drop n) (some v) rows O → Reads hx i l a rows O
  | row {i l a rows O n d} : l ≠ [] → stepL hx l = .row n d → Reads hx (i + n) (l.drop n) none (rows ++ [(a, d)]) O → Reads hx i l a rows O
section
variable {hx : Bool} {i n o v : Nat} {l d : List Nat} {a : Option Nat} {rows : List Row} {O : Out} {k : Str}
theorem Reads.at_end (h : Reads hx i [] a rows O) : O = .ok rows := by
  cases h with
  | done => rfl
  | err h _ => exact absurd rfl h
  | gap h _ _ => exact absurd rfl h
  | addr h _ _ => exact absurd rfl h
  | row h _ _ => exact absurd rfl h
theorem Reads.at_err (h : Reads hx i l a rows O) (hl : l ≠ []) (e : stepL hx l = .err k o) : O = .err k (i + o) := by
  cases h with
  | done => exact absurd rfl hl
  | err _ e2 => rw [e] at e2; cases e2; rfl
  | gap _ e2 _ => rw [e] at e2; cases e2
  | addr _ e2 _ => rw [e] at e2; cases e2
  | row _ e2 _ => rw [e] at e2; cases e2
theorem Reads.at_gap (h : Reads hx i l a rows O) (hl : l ≠ []) (e : stepL hx l = .gap n) : Reads hx (i + n) (l.drop n) a rows O := by
  cases h with
  | done => exact absurd rfl hl
  | err _ e2 => rw [e] at e2; cases e2
  | gap _ e2 q => rw [e] at e2; cases e2; exact q
  | addr _ e2 _ => rw [e] at e2; cases e2
  | row _ e2 _ => rw [e] at e2; cases e2
theorem Reads.at_addr (h : Reads hx i l a rows O) (hl : l ≠ []) (e : stepL hx l = .addr n v) : Reads hx (i + n) (l.drop n) (some v) rows O := by
  cases h with
  | done => exact absurd rfl hl
  | err _ e2 => rw [e] at e2; cases e2
  | gap _ e2 _ => rw [e] at e2; cases e2
  | addr _ e2 q => rw [e] at e2; cases e2; exact q
  | row _ e2 _ => rw [e] at e2; cases e2
theorem Reads.at_row (h : Reads hx i l a rows O) (hl : l ≠ []) (e : stepL hx l = .row n d) : Reads hx (i + n) (l.drop n) none (rows ++ [(a, d)]) O := by
  cases h with
  | done => exact absurd rfl hl
  | err _ e2 => rw [e] at e2; cases e2
  | gap _ e2 _ => rw [e] at e2; cases e2
  | addr _ e2 _ => rw [e] at e2; cases e2
  | row _ e2 q => rw [e] at e2; cases e2; exact q
theorem step_none (h : gapL l = none) : stepL hx l = .err "unfinished_remark" 0 := by unfold stepL; rw [h]
theorem step_gap (h : gapL l = some n) (hn : n ≠ 0) : stepL hx l = .gap n := by
  cases n with
  | zero => exact absurd rfl hn
  | succ n => unfold stepL; rw [h]
theorem step_bad (h : gapL l = some 0) (hs : scanL l = (n, true)) : stepL hx l = .err "unfinished_remark" n := by unfold stepL; rw [h, hs]; rfl
theorem step_word (h : gapL l = some 0) (hs : scanL l = (n, false)) : stepL hx l = stepW hx n ((l.take n).map lo1) := by unfold stepL; rw [h, hs]; rfl
theorem scan_more {c : Nat} {r : List Nat} (e : l = c :: r) (h : gapL l = some 0) : scanL l = ((scanL r).1 + 1, (scanL r).2) := by
  subst e; rw [scanL, h]
theorem scan_stop (h : gapL l = some n) (hn : n ≠ 0) : scanL l = (0, false) := by
  cases l with
  | nil => rfl
  | cons c r =>
    cases n with
    | zero => exact absurd rfl hn
    | succ n => rw [scanL, h]
theorem scan_bad (h : gapL l = none) : scanL l = (0, true) := by
  cases l with
  | nil => cases h
  | cons c r => rw [scanL, h]
end
theorem drop_cons {x : Str} {i : Nat} (h : i < x.length) : ∃ c r, (lst x).drop i = c :: r ∧ r = (lst x).drop (i + 1) := by
  obtain ⟨c, r, e, _⟩ := item_at h
  exact ⟨c, r, e, (drop_tail e).symm⟩
/-- the word as the text's program cuts it -/
abbrev cutW (x : Str) (i j : Nat) : Str := Txt.lower (Txt.slice x (some (i : Int)) (some (j : Int)))
section
variable {x : Str} {i j : Nat} (hc : ∀ c ∈ lst x, c < 128) (h1 : i < j) (h2 : j ≤ x.length)
include hc h1 h2
theorem cut_lst : lst (cutW x i j) = (((lst x).drop i).take (j - i)).map lo1 := by
  unfold cutW
  rw [lst_lower, slice_lst x (by omega) (by omega)]
  intro c h
  rw [slice_lst x (by omega) (by omega)] at h
  exact hc c (List.mem_of_mem_drop (List.mem_of_mem_take h))
theorem cut_len : (cutW x i j).length = j - i := by
  rw [← lst_length, cut_lst hc h1 h2, List.length_map, List.length_take, List.length_drop, lst_length]; omega
theorem cut_lt : ∀ c ∈ lst (cutW x i j), c < 128 := by
  rw [cut_lst hc h1 h2]
  intro c h
  obtain ⟨d, hd, rfl⟩ := List.mem_map.mp h
  exact lo1_lt (hc d (List.mem_of_mem_drop (List.mem_of_mem_take hd)))
theorem cut_head : (Txt.item (cutW x i j) 0 == ("@" : Str)) = decide ((lst (cutW x i j)).head? = some 64) := by
  have hl : 0 < (cutW x i j).length := by rw [cut_len hc h1 h2]; omega
  obtain ⟨c, r, e1, e2⟩ := item_at hl
  rw [show ((0 : Nat) : Int) = 0 from rfl] at e2
  rw [List.drop_zero] at e1
  rw [e2, e1, beq_lst, show lst ("@" : Str) = [64] from by decide +kernel]
  show ([c] == [64]) = _
  simp
  rfl
end
theorem str_lst (x : Str) : x = ⟨(lst x).toArray⟩ := by cases x; simp [lst]
def gvD : Option Nat → Dat
  | none => .none
  | some v => .int (v : Int)
def rowD (r : Row) : Dat := .tuple [gvD r.1, .str ⟨r.2.toArray⟩]
def gv : Option Nat → Tok → Value
  | none, _ => .none
  | some v, t => .int (v : Int) t
theorem gv_in (news : List (Addr × Obj)) (a : Option Nat) (t : Tok) : DatIn news (gv a t) (gvD a) := by
  cases a with
  | none => exact .none
  | some v => exact .int _ _
/-- where `read_memory` stands between two turns -/
structure RS where
  i : Nat
  ti : Tok
  a : Option Nat
  ta : Tok
  vs : List Value
  n : Nat
  tl : List (Addr × Obj)
  ds : List Row
section
variable {hx : Bool} {n v : Nat} {W : Str}
abbrev strike (W : Str) : Str := Txt.replace W ("_" : Str) ("" : Str)
theorem strike_len (W : Str) : (strike W).length ≤ W.length := by
  rw [← lst_length, ← lst_length, lst_strike]
  exact List.length_filter_le _ _
theorem stepW_addr {b : Bool} (h4 : b = decide ((lst W).head? = some 64)) (h : b = true) (g : addrL (lst W).tail = some v) : stepW hx n (lst W) = .addr n v := by
  rw [h] at h4
  unfold stepW
  rw [if_pos (of_decide_eq_true h4.symm), g]
theorem stepW_badaddr {b : Bool} (h4 : b = decide ((lst W).head? = some 64)) (h : b = true) (g : addrL (lst W).tail = none) : stepW hx n (lst W) = .err "bad_address" 0 := by
  rw [h] at h4
  unfold stepW
  rw [if_pos (of_decide_eq_true h4.symm), g]
theorem stepW_row {b : Bool} (h4 : b = decide ((lst W).head? = some 64)) (h : b = false) (g : fitsL hx (lst (strike W)) = true) : stepW hx n (lst W) = .row n (lst (strike W)) := by
  rw [h] at h4
  rw [lst_strike] at g ⊢
  unfold stepW
  rw [if_neg (of_decide_eq_false h4.symm), g, if_pos rfl]
theorem stepW_badrow {b : Bool} (h4 : b = decide ((lst W).head? = some 64)) (h : b = false) (g : fitsL hx (lst (strike W)) = false) : stepW hx n (lst W) = .err "bad_word" 0 := by
  rw [h] at h4
  rw [lst_strike] at g
  unfold stepW
  rw [if_neg (of_decide_eq_false h4.symm), g, if_neg Bool.false_ne_true]
end
theorem rows_more {tl tl' : List (Addr × Obj)} {vs : List Value} {ds : List Row} {D : Addr} {a : Option Nat} {ta t : Tok} {y : Str} (h : DatAll tl vs (ds.map rowD))
    (hm : (D, ({ cls := .type "tuple", data := .seq #[gv a ta, .str y t] } : Obj)) ∈ tl') (hs : ∀ p ∈ tl, p ∈ tl') : DatAll tl' (vs ++ [.ref D]) ((ds ++ [(a, lst y)]).map rowD) := by
  rw [List.map_append]
  refine (h.mono hs).append (.one ?_)
  have hy : (⟨(lst y).toArray⟩ : Str) = y := (str_lst y).symm
  show DatIn tl' (.ref D) (.tuple [gvD a, .str ⟨(lst y).toArray⟩])
  rw [hy]
  exact DatIn.tuple hm (.cons (gv_in _ _ _) (.cons (.str _ _) .nil))

local macro_rules | `(tactic| open_k0) => `(tactic| repeat' (first | ((fail_if_success (with_reducible show wpAny _ _ (exec (Stmt.For _ _ _ _ _) _) _ _ _)); (fail_if_success (with_reducible show wpAny _ _ (exec (Stmt.While _ _ _ _) _) _ _ _)); (fail_if_success (with_reducible show wpAny _ _ (pyIter _) _ _ _)); (fail_if_success (with_reducible show wpAny _ _ (subscriptTail _ _ (Value.str (Txt.lower _) _) _) _ _ _)); first | ((with_reducible show Pos0 _ _); unfold Pos0; intro hpos9; (try dsimp only at hpos9)) | (k_unfold; (try dsimp only)) | (k_end; wrow_close) | walk1 | (dsimp only; walk1) | (leave1; walk_say "STEP leave1"; try dsimp only)) | fail "no step"))
local macro_rules | `(tactic| walk_at "call ref") => `(tactic| (k_here; (with_reducible show wpAny _ _ (call (Value.ref 68) [Value.str _ _, Value.int _ _]) _ _ _); k_dflt (refine' gapEnd_spec ?k1 ?k2 ?k3 ?k4 ?k5 ?k6 ?k7 ?k8 ?k9 ?kA ?_ ?_; (case k1 => k_asm); (case k2 => k_asm); (case k3 => k_asm); (case k4 => k_asm); (case k5 => k_asm); (case k6 => exact rfl); (case k7 => ktr_room); (case k8 => ktr_units); (case k9 => first | assumption | omega); (case kA => omega)); (focus intro n9 t9 h9 tk9 g9 F9 N9); (rotate_left; intro e9 g9 h9 tk9 z9 F9 U9 R9; rotate_right)))
local macro_rules | `(tactic| walk_at "call ref") => `(tactic| (k_here; (with_reducible show wpAny _ _ (call (Value.ref 82) [Value.str _ _, Value.int _ _]) _ _ _); k_dflt (refine' addr_spec ?k1 ?k2 ?k3 ?k4 ?k5 ?k6 ?k7 ?k8 ?k9 ?kA ?kB ?_ ?_; (case k1 => k_asm); (case k2 => k_asm); (case k3 => k_asm); (case k4 => k_asm); (case k5 => k_asm); (case k6 => exact rfl); (case k7 => ktr_room); (case k8 => ktr_units); (case k9 => first | assumption | omega); (case kA => omega); (case kB => assumption)); (focus intro v9 t9 h9 tk9 g9 F9 N9); (rotate_left; intro e9 g9 h9 tk9 z9 F9 U9 R9; rotate_right)))
local macro_rules | `(tactic| walk_at "call ref") => `(tactic| (k_here; (with_reducible show wpAny _ _ (call (Value.ref 54) [Value.str _ _, Value.str _ _]) _ _ _); k_dflt ((first | refine' fits_spec (hx := true) ?k1 ?k2 ?k3 ?k4 ?k5 ?k6 ?k7 ?k8 ?k9 ?_ | refine' fits_spec (hx := false) ?k1 ?k2 ?k3 ?k4 ?k5 ?k6 ?k7 ?k8 ?k9 ?_); (case k1 => k_asm); (case k2 => k_asm); (case k3 => k_asm); (case k4 => k_asm); (case k5 => k_asm); (case k6 => exact rfl); (case k7 => ktr_room); (case k8 => ktr_units); (case k9 => first | assumption | omega)); intro h9 tk9 F9 N9))
theorem fresh_Read : True := by
  w_top off
  trivial
set_option maxRecDepth 100000 in
set_option maxHeartbeats 8000000 in
theorem read_spec {w : World} {p : Program} {loose : List Str} {mean : ExcName → Option Value} {mg mb : Str → Option Value}
  {dp un : Nat} {gd : Option (List Code)} {cn : Str} {cs : Scope} {a : Addr} {ccd : Value} {cl : List (Str × Addr)} {outer : List Env} {A₀ : Around} {base h₀ : Heap} {L : Addr} {m : Str → Option Value} {s : Shared}
  {Q E : Value → Shared → Prop}
  {hx : Bool} {tx : Tok} {x : Str} {news : List (Addr × Obj)} {O : Out}
  (B : Below A₀ base outer h₀) (F : Fr h₀ L s.heap m) (X : (Mine.hd.heap_39 w.params).In h₀)
  (N : News h₀ L s.heap news) (T : Top p loose mean mg mb h₀)
  (hk : cs.kind = .function) (hd : dp + 16 < recursionLimit) (hu : un + 128 < cLine) (hl : x.length ≤ 1000) (hc : ∀ c ∈ lst x, c < 128)
  (hR : True → Reads hx 0 (lst x) none [] O)
  (ret : ∀ rl n vs tl rows h' tk', O = .ok rows → Fr h₀ L h' m → News h₀ L h' ((rl, PySem.W.listOf vs.toArray n) :: (tl ++ news)) → DatAll tl vs (rows.map rowD) → (∀ q ∈ tl ++ news, q.1 ≠ rl) → (∀ q ∈ tl, q.2.cls = .type "tuple") → Q (.ref rl) { s with heap := h', toks := tk' })
  (exc : ∀ e g₂ h' tk' k i, O = .err k i → Fr h₀ L g₂ m → g₂.UpToSlots h' → RaisedD w base (envX cn cs L a ccd cl :: outer) e k i [] h' → E (.ref e) { s with heap := h', toks := tk' }) :
  wpAny (model PR w) (ktrTop dp un gd cn cs L a ccd cl outer) (call (.ref 75) [.str x tx, .bool hx]) Q E s := by
  cases hx
  · unfold PR; revert X; k_fill; intro X
    refine wpAny_call ?_
    k_dflt ktr_enter
    open_k0
    rename Fr _ _ _ _ => F9
    rename News _ _ _ _ => N9
    rename_i rl _ l1 _ _ _ _ _ _ _ _ _
    have hl1 : ∀ q ∈ news, q.1 ≠ rl := fun q hq => Nat.ne_of_lt (l1 q hq)
    refine' while_T (σ := RS) (fun c => (rl, PySem.W.listOf c.vs.toArray c.n) :: (c.tl ++ news)) (fun c => [(("index" : Str), .int (c.i : Int) c.ti), (("address" : Str), gv c.a c.ta)]) (fun _ => True) ["end", "word", "digits"]
      (fun c => (True → Reads false c.i ((lst x).drop c.i) c.a c.ds O) ∧ (True → DatAll c.tl c.vs (c.ds.map rowD)) ∧ (∀ q ∈ c.tl ++ news, q.1 ≠ rl) ∧ c.vs.length ≤ c.i ∧ (∀ q ∈ c.tl, q.2.cls = .type "tuple")) (fun c => x.length - c.i) ⟨0, _, none, 0, [], 0, [], []⟩ F9 N9 trivial ?q1 ⟨hR, fun _ => .nil, hl1, Nat.le_refl _, (fun _ h => nomatch h)⟩ ?q2
    case q1 =>
      intro p hp
      rcases List.mem_cons.mp hp with rfl | hp
      · rfl
      · rw [List.mem_singleton.mp hp]; rfl
    case q2 =>
      rintro ⟨i, ti, a, ta, vs, n, tl, ds⟩ u h tk0 _ ⟨p1, p2, p3, p4, p6⟩ F N
      dsimp only at p1 p2 p3 p4 p6 F N ⊢
      have hne : (i : Int) < x.length → (lst x).drop i ≠ [] := fun h => by
        obtain ⟨c, r, e, _⟩ := drop_cons (x := x) (i := i) (by omega)
        rw [e]; exact List.cons_ne_nil _ _
      open_k0
      · rename_i n9 t9 h9 tk9 g3 h8 F3 N3 tk8 htk8 e8
        have hn : n9 = 0 := by omega
        subst hn
        refine' while_T (σ := Nat × Tok) (fun _ => (rl, PySem.W.listOf vs.toArray n) :: (tl ++ news)) (fun c => [(("end" : Str), .int (c.1 : Int) c.2)]) (fun _ => True) []
          (fun c => i ≤ c.1 ∧ c.1 ≤ x.length ∧ scanL ((lst x).drop i) = (c.1 - i + (scanL ((lst x).drop c.1)).1, (scanL ((lst x).drop c.1)).2)) (fun c => x.length - c.1) (i, _) F3 N3 trivial ?q3 ⟨Nat.le_refl _, by omega, by rw [Nat.sub_self, Nat.zero_add]⟩ ?q4
        case q3 => intro p hp; rw [List.mem_singleton.mp hp]; rfl
        case q4 =>
          rintro ⟨j, tj⟩ u h tk0 _ ⟨r1, r2, r3⟩ F N
          dsimp only at r1 r2 r3 F N ⊢
          open_k0
          · rename_i n9 t9 h9 tk9 g9 e9 h8 F1 N1
            open_x
            obtain ⟨c, r, e1, e2⟩ := drop_cons (x := x) (i := j) (by omega)
            have e3 := scan_more e1 (by rw [g9]; congr 1; omega)
            rw [e2] at e3
            refine' ksw_end (j + 1, _) F1 N1 (fun _ hp => hp) trivial ?e1 ?e2 ⟨by dsimp only; omega, by dsimp only; omega, ?e3⟩ ?e4
            case e1 => intro p hp; rw [List.mem_singleton.mp hp]; rfl
            case e2 =>
              intro z h1 h2
              have h4 : z ≠ ("end" : Str) := h1 _ (.head _)
              simp [h4, kstB]
            case e3 =>
              dsimp only
              rw [r3, e3, Prod.mk.injEq]
              refine ⟨?_, rfl⟩
              dsimp only
              omega
            case e4 => dsimp only; omega
          · rename_i n9 t9 h9 tk9 g9 e9 h8 _ _ _ _ _ F1 N1 _ _
            have hs := scan_stop g9 (by omega)
            have hij : i < j := by
              rcases Nat.lt_or_eq_of_le r1 with h | h
              · exact h
              · subst h; rw [g3] at g9; cases g9; omega
            rw [hs, Nat.add_zero] at r3
            have hst := step_word (hx := false) g3 r3
            have hW1 := cut_lst hc hij r2
            have hW2 := cut_len hc hij r2
            have hW3 := cut_lt hc hij r2
            have hW4 := cut_head hc hij r2
            unfold cutW at hW1 hW2 hW3 hW4
            generalize Txt.lower (Txt.slice x (some (i : Int)) (some (j : Int))) = W at *
            rw [← hW1] at hst
            have hW5 := strike_len W
            unfold strike at hW5
            open_k0
            · rename addrL _ = some _ => g9
              rename Fr _ _ _ _ => F1
              rename News _ _ _ _ => N1
              open_x
              have q := (p1 trivial).at_addr (hne (by assumption)) (hst.trans (stepW_addr hW4 (by assumption) g9))
              rw [List.drop_drop, show i + (j - i) = j from by omega] at q
              refine' ksw_end ⟨j, _, some _, _, vs, n, tl, ds⟩ F1 N1 (fun _ hp => hp) trivial ?a1x ?a2x ⟨fun _ => q, p2, p3, by dsimp only; omega, p6⟩ ?a3x
              case a1x =>
                intro p hp
                rcases List.mem_cons.mp hp with rfl | hp
                · rfl
                · rw [List.mem_singleton.mp hp]; rfl
              case a2x =>
                intro z h1 h2
                have h3 : z ≠ ("index" : Str) := h1 _ (.head _)
                have h4 : z ≠ ("address" : Str) := h1 _ (.tail _ (.head _))
                simp only [List.contains_cons, List.contains_nil, Bool.or_false, Bool.or_eq_false_iff, beq_eq_false_iff_ne, ne_eq] at h2
                simp [h2, h3, h4, kstB]
              case a3x => dsimp only; omega
            · rename_i e9 g9 h9 tk9 z9 F9 U9 R9
              rename Below _ _ _ _ => B9
              refine leave_onD (w := w) B9 F9 R9 U9 (fun h' R U => ?_)
              exact exc e9 _ h' _ _ _ ((p1 trivial).at_err (hne (by assumption)) (hst.trans (stepW_badaddr hW4 (by assumption) z9))) (by assumption) U R
            · rename fitsL _ _ = true => f9
              rename_i D z1 l9 z2 z3 z4 z5 z6 F1 N1
              open_x
              have q := (p1 trivial).at_row (hne (by assumption)) (hst.trans (stepW_row hW4 (by assumption) f9))
              rw [List.drop_drop, show i + (j - i) = j from by omega] at q
              rw [List.push_toArray] at N1
              refine' ksw_end ⟨j, _, none, 0, vs ++ [.ref D], n + 1, (D, { cls := .type "tuple", data := .seq #[gv a ta, .str (strike W) _] }) :: tl, ds ++ [(a, lst (strike W))]⟩ F1 N1 ?b0x trivial ?b1x ?b2x ⟨fun _ => q, ?b3x, ?b4x, ?b5x, ?b7x⟩ ?b6x
              case b0x =>
                intro p hp
                rcases List.mem_cons.mp hp with rfl | hp
                · exact .tail _ (.head _)
                · rcases List.mem_cons.mp hp with rfl | hp
                  · exact .head _
                  · exact .tail _ (.tail _ hp)
              case b1x =>
                intro p hp
                rcases List.mem_cons.mp hp with rfl | hp
                · rfl
                · rw [List.mem_singleton.mp hp]; rfl
              case b2x =>
                intro z h1 h2
                have h3 : z ≠ ("index" : Str) := h1 _ (.head _)
                have h4 : z ≠ ("address" : Str) := h1 _ (.tail _ (.head _))
                simp only [List.contains_cons, List.contains_nil, Bool.or_false, Bool.or_eq_false_iff, beq_eq_false_iff_ne, ne_eq] at h2
                simp [h2, h3, h4, kstB]
              case b3x => exact fun _ => rows_more (p2 trivial) (.head _) (fun _ h => .tail _ h)
              case b4x =>
                intro q hq
                rcases List.mem_cons.mp hq with rfl | hq
                · exact Nat.ne_of_gt l9.1
                · exact p3 q hq
              case b5x => dsimp only; rw [List.length_append]; simp only [List.length_cons, List.length_nil]; omega
              case b6x => dsimp only; omega
              case b7x =>
                intro q hq
                rcases List.mem_cons.mp hq with rfl | hq
                · rfl
                · exact p6 q hq
            · rename fitsL _ _ = false => f9
              rename_i ex9 dx9 tx9 o49 es9 h9 tk9 F9 N9 l9 ne9 g19 g29
              rename (Mine.hd.heap_39 w.params).In _ => X9
              rename Below _ _ _ _ => B9
              refine ⟨_, _, _, rfl, (N9 _ (.head _)).1, X9.keeps F9.keep, ?_⟩
              show ek _ _
              dsimp only [ek]
              refine leave_newD (w := w) B9 F9 N9 (fun p hp => Nat.ne_of_lt (l9 p hp)) g19 g29 (fun h' R U => ?_) rfl
              exact exc ex9 _ h' _ _ _ ((p1 trivial).at_err (hne (by assumption)) (hst.trans (stepW_badrow hW4 (by assumption) f9))) (by assumption) U R.none
          · rename_i e9 g9 h9 tk9 z9 F9 U9 R9
            rename Below _ _ _ _ => B9
            refine leave_onD (w := w) B9 F9 R9 U9 (fun h' R U => ?_)
            rw [scan_bad z9, Nat.add_zero] at r3
            have q := (p1 trivial).at_err (hne (by assumption)) (step_bad g3 r3)
            rw [show i + (j - i) = j from by omega] at q
            exact exc e9 _ h' _ _ _ q (by assumption) U R
          · rename ¬ _ => hend
            rw [drop_end hend] at r3
            have hij : i < j := by omega
            have hst := step_word (hx := false) g3 r3
            have hst : stepL false ((lst x).drop i) = stepW false (j - i) ((((lst x).drop i).take (j - i)).map lo1) := hst
            have hW1 := cut_lst hc hij r2
            have hW2 := cut_len hc hij r2
            have hW3 := cut_lt hc hij r2
            have hW4 := cut_head hc hij r2
            unfold cutW at hW1 hW2 hW3 hW4
            generalize Txt.lower (Txt.slice x (some (i : Int)) (some (j : Int))) = W at *
            rw [← hW1] at hst
            have hW5 := strike_len W
            unfold strike at hW5
            open_k0
            · rename addrL _ = some _ => g9
              rename Fr _ _ _ _ => F1
              rename News _ _ _ _ => N1
              open_x
              have q := (p1 trivial).at_addr (hne (by assumption)) (hst.trans (stepW_addr hW4 (by assumption) g9))
              rw [List.drop_drop, show i + (j - i) = j from by omega] at q
              refine' ksw_end ⟨j, _, some _, _, vs, n, tl, ds⟩ F1 N1 (fun _ hp => hp) trivial ?a1y ?a2y ⟨fun _ => q, p2, p3, by dsimp only; omega, p6⟩ ?a3y
              case a1y =>
                intro p hp
                rcases List.mem_cons.mp hp with rfl | hp
                · rfl
                · rw [List.mem_singleton.mp hp]; rfl
              case a2y =>
                intro z h1 h2
                have h3 : z ≠ ("index" : Str) := h1 _ (.head _)
                have h4 : z ≠ ("address" : Str) := h1 _ (.tail _ (.head _))
                simp only [List.contains_cons, List.contains_nil, Bool.or_false, Bool.or_eq_false_iff, beq_eq_false_iff_ne, ne_eq] at h2
                simp [h2, h3, h4, kstB]
              case a3y => dsimp only; omega
            · rename_i e9 g9 h9 tk9 z9 F9 U9 R9
              rename Below _ _ _ _ => B9
              refine leave_onD (w := w) B9 F9 R9 U9 (fun h' R U => ?_)
              exact exc e9 _ h' _ _ _ ((p1 trivial).at_err (hne (by assumption)) (hst.trans (stepW_badaddr hW4 (by assumption) z9))) (by assumption) U R
            · rename fitsL _ _ = true => f9
              rename_i D z1 l9 z2 z3 z4 z5 z6 F1 N1
              open_x
              have q := (p1 trivial).at_row (hne (by assumption)) (hst.trans (stepW_row hW4 (by assumption) f9))
              rw [List.drop_drop, show i + (j - i) = j from by omega] at q
              rw [List.push_toArray] at N1
              refine' ksw_end ⟨j, _, none, 0, vs ++ [.ref D], n + 1, (D, { cls := .type "tuple", data := .seq #[gv a ta, .str (strike W) _] }) :: tl, ds ++ [(a, lst (strike W))]⟩ F1 N1 ?b0y trivial ?b1y ?b2y ⟨fun _ => q, ?b3y, ?b4y, ?b5y, ?b7y⟩ ?b6y
              case b0y =>
                intro p hp
                rcases List.mem_cons.mp hp with rfl | hp
                · exact .tail _ (.head _)
                · rcases List.mem_cons.mp hp with rfl | hp
                  · exact .head _
                  · exact .tail _ (.tail _ hp)
              case b1y =>
                intro p hp
                rcases List.mem_cons.mp hp with rfl | hp
                · rfl
                · rw [List.mem_singleton.mp hp]; rfl
              case b2y =>
                intro z h1 h2
                have h3 : z ≠ ("index" : Str) := h1 _ (.head _)
                have h4 : z ≠ ("address" : Str) := h1 _ (.tail _ (.head _))
                simp only [List.contains_cons, List.contains_nil, Bool.or_false, Bool.or_eq_false_iff, beq_eq_false_iff_ne, ne_eq] at h2
                simp [h2, h3, h4, kstB]
              case b3y => exact fun _ => rows_more (p2 trivial) (.head _) (fun _ h => .tail _ h)
              case b4y =>
                intro q hq
                rcases List.mem_cons.mp hq with rfl | hq
                · exact Nat.ne_of_gt l9.1
                · exact p3 q hq
              case b5y => dsimp only; rw [List.length_append]; simp only [List.length_cons, List.length_nil]; omega
              case b6y => dsimp only; omega
              case b7y =>
                intro q hq
                rcases List.mem_cons.mp hq with rfl | hq
                · rfl
                · exact p6 q hq
            · rename fitsL _ _ = false => f9
              rename_i ex9 dx9 tx9 o49 es9 h9 tk9 F9 N9 l9 ne9 g19 g29
              rename (Mine.hd.heap_39 w.params).In _ => X9
              rename Below _ _ _ _ => B9
              refine ⟨_, _, _, rfl, (N9 _ (.head _)).1, X9.keeps F9.keep, ?_⟩
              show ek _ _
              dsimp only [ek]
              refine leave_newD (w := w) B9 F9 N9 (fun p hp => Nat.ne_of_lt (l9 p hp)) g19 g29 (fun h' R U => ?_) rfl
              exact exc ex9 _ h' _ _ _ ((p1 trivial).at_err (hne (by assumption)) (hst.trans (stepW_badrow hW4 (by assumption) f9))) (by assumption) U R.none
      · rename_i n9 t9 h9 tk9 g9 _ _ _ _ _ _ _
        open_x
        rename Fr _ _ _ _ => F1
        rename News _ _ _ _ => N1
        have q := (p1 trivial).at_gap (hne (by assumption)) (step_gap (by assumption) (by omega))
        rw [List.drop_drop] at q
        refine' ksw_end ⟨i + _, _, a, ta, vs, n, tl, ds⟩ F1 N1 (fun _ hp => hp) trivial ?d1 ?d2 ⟨fun _ => q, p2, p3, by dsimp only; omega, p6⟩ ?d3
        case d1 =>
          intro p hp
          rcases List.mem_cons.mp hp with rfl | hp
          · rfl
          · rw [List.mem_singleton.mp hp]; rfl
        case d2 =>
          intro z h1 h2
          have h3 : z ≠ ("index" : Str) := h1 _ (.head _)
          have h4 : z ≠ ("address" : Str) := h1 _ (.tail _ (.head _))
          simp only [List.contains_cons, List.contains_nil, Bool.or_false, Bool.or_eq_false_iff, beq_eq_false_iff_ne, ne_eq] at h2
          simp [h2, h3, h4, kstB]
        case d3 => dsimp only; omega
      · rename_i e9 g9 h9 tk9 z9 F9 U9 R9
        rename Below _ _ _ _ => B9
        refine leave_onD (w := w) B9 F9 R9 U9 (fun h' R U => ?_)
        exact exc e9 _ h' _ _ _ ((p1 trivial).at_err (hne (by assumption)) (step_none z9)) (by assumption) U R
      · rename Fr h₀ L _ _ => F1
        rename News h₀ L _ _ => N1
        rename ¬ _ => hend
        rw [drop_end hend] at p1
        exact ret rl n vs tl ds _ _ (p1 trivial).at_end F1 N1 (p2 trivial) p3 p6
  · unfold PR; revert X; k_fill; intro X
    refine wpAny_call ?_
    k_dflt ktr_enter
    open_k0
    rename Fr _ _ _ _ => F9
    rename News _ _ _ _ => N9
    rename_i rl _ l1 _ _ _ _ _ _ _ _ _
    have hl1 : ∀ q ∈ news, q.1 ≠ rl := fun q hq => Nat.ne_of_lt (l1 q hq)
    refine' while_T (σ := RS) (fun c => (rl, PySem.W.listOf c.vs.toArray c.n) :: (c.tl ++ news)) (fun c => [(("index" : Str), .int (c.i : Int) c.ti), (("address" : Str), gv c.a c.ta)]) (fun _ => True) ["end", "word", "digits"]
      (fun c => (True → Reads true c.i ((lst x).drop c.i) c.a c.ds O) ∧ (True → DatAll c.tl c.vs (c.ds.map rowD)) ∧ (∀ q ∈ c.tl ++ news, q.1 ≠ rl) ∧ c.vs.length ≤ c.i ∧ (∀ q ∈ c.tl, q.2.cls = .type "tuple")) (fun c => x.length - c.i) ⟨0, _, none, 0, [], 0, [], []⟩ F9 N9 trivial ?Tq1 ⟨hR, fun _ => .nil, hl1, Nat.le_refl _, (fun _ h => nomatch h)⟩ ?Tq2
    case Tq1 =>
      intro p hp
      rcases List.mem_cons.mp hp with rfl | hp
      · rfl
      · rw [List.mem_singleton.mp hp]; rfl
    case Tq2 =>
      rintro ⟨i, ti, a, ta, vs, n, tl, ds⟩ u h tk0 _ ⟨p1, p2, p3, p4, p6⟩ F N
      dsimp only at p1 p2 p3 p4 p6 F N ⊢
      have hne : (i : Int) < x.length → (lst x).drop i ≠ [] := fun h => by
        obtain ⟨c, r, e, _⟩ := drop_cons (x := x) (i := i) (by omega)
        rw [e]; exact List.cons_ne_nil _ _
      open_k0
      · rename_i n9 t9 h9 tk9 g3 h8 F3 N3 tk8 htk8 e8
        have hn : n9 = 0 := by omega
        subst hn
        refine' while_T (σ := Nat × Tok) (fun _ => (rl, PySem.W.listOf vs.toArray n) :: (tl ++ news)) (fun c => [(("end" : Str), .int (c.1 : Int) c.2)]) (fun _ => True) []
          (fun c => i ≤ c.1 ∧ c.1 ≤ x.length ∧ scanL ((lst x).drop i) = (c.1 - i + (scanL ((lst x).drop c.1)).1, (scanL ((lst x).drop c.1)).2)) (fun c => x.length - c.1) (i, _) F3 N3 trivial ?Tq3 ⟨Nat.le_refl _, by omega, by rw [Nat.sub_self, Nat.zero_add]⟩ ?Tq4
        case Tq3 => intro p hp; rw [List.mem_singleton.mp hp]; rfl
        case Tq4 =>
          rintro ⟨j, tj⟩ u h tk0 _ ⟨r1, r2, r3⟩ F N
          dsimp only at r1 r2 r3 F N ⊢
          open_k0
          · rename_i n9 t9 h9 tk9 g9 e9 h8 F1 N1
            open_x
            obtain ⟨c, r, e1, e2⟩ := drop_cons (x := x) (i := j) (by omega)
            have e3 := scan_more e1 (by rw [g9]; congr 1; omega)
            rw [e2] at e3
            refine' ksw_end (j + 1, _) F1 N1 (fun _ hp => hp) trivial ?Te1 ?Te2 ⟨by dsimp only; omega, by dsimp only; omega, ?Te3⟩ ?Te4
            case Te1 => intro p hp; rw [List.mem_singleton.mp hp]; rfl
            case Te2 =>
              intro z h1 h2
              have h4 : z ≠ ("end" : Str) := h1 _ (.head _)
              simp [h4, kstB]
            case Te3 =>
              dsimp only
              rw [r3, e3, Prod.mk.injEq]
              refine ⟨?_, rfl⟩
              dsimp only
              omega
            case Te4 => dsimp only; omega
          · rename_i n9 t9 h9 tk9 g9 e9 h8 _ _ _ _ _ F1 N1 _ _
            have hs := scan_stop g9 (by omega)
            have hij : i < j := by
              rcases Nat.lt_or_eq_of_le r1 with h | h
              · exact h
              · subst h; rw [g3] at g9; cases g9; omega
            rw [hs, Nat.add_zero] at r3
            have hst := step_word (hx := true) g3 r3
            have hW1 := cut_lst hc hij r2
            have hW2 := cut_len hc hij r2
            have hW3 := cut_lt hc hij r2
            have hW4 := cut_head hc hij r2
            unfold cutW at hW1 hW2 hW3 hW4
            generalize Txt.lower (Txt.slice x (some (i : Int)) (some (j : Int))) = W at *
            rw [← hW1] at hst
            have hW5 := strike_len W
            unfold strike at hW5
            open_k0
            · rename addrL _ = some _ => g9
              rename Fr _ _ _ _ => F1
              rename News _ _ _ _ => N1
              open_x
              have q := (p1 trivial).at_addr (hne (by assumption)) (hst.trans (stepW_addr hW4 (by assumption) g9))
              rw [List.drop_drop, show i + (j - i) = j from by omega] at q
              refine' ksw_end ⟨j, _, some _, _, vs, n, tl, ds⟩ F1 N1 (fun _ hp => hp) trivial ?Ta1x ?Ta2x ⟨fun _ => q, p2, p3, by dsimp only; omega, p6⟩ ?Ta3x
              case Ta1x =>
                intro p hp
                rcases List.mem_cons.mp hp with rfl | hp
                · rfl
                · rw [List.mem_singleton.mp hp]; rfl
              case Ta2x =>
                intro z h1 h2
                have h3 : z ≠ ("index" : Str) := h1 _ (.head _)
                have h4 : z ≠ ("address" : Str) := h1 _ (.tail _ (.head _))
                simp only [List.contains_cons, List.contains_nil, Bool.or_false, Bool.or_eq_false_iff, beq_eq_false_iff_ne, ne_eq] at h2
                simp [h2, h3, h4, kstB]
              case Ta3x => dsimp only; omega
            · rename_i e9 g9 h9 tk9 z9 F9 U9 R9
              rename Below _ _ _ _ => B9
              refine leave_onD (w := w) B9 F9 R9 U9 (fun h' R U => ?_)
              exact exc e9 _ h' _ _ _ ((p1 trivial).at_err (hne (by assumption)) (hst.trans (stepW_badaddr hW4 (by assumption) z9))) (by assumption) U R
            · rename fitsL _ _ = true => f9
              rename_i D z1 l9 z2 z3 z4 z5 z6 F1 N1
              open_x
              have q := (p1 trivial).at_row (hne (by assumption)) (hst.trans (stepW_row hW4 (by assumption) f9))
              rw [List.drop_drop, show i + (j - i) = j from by omega] at q
              rw [List.push_toArray] at N1
              refine' ksw_end ⟨j, _, none, 0, vs ++ [.ref D], n + 1, (D, { cls := .type "tuple", data := .seq #[gv a ta, .str (strike W) _] }) :: tl, ds ++ [(a, lst (strike W))]⟩ F1 N1 ?Tb0x trivial ?Tb1x ?Tb2x ⟨fun _ => q, ?Tb3x, ?Tb4x, ?Tb5x, ?Tb7x⟩ ?Tb6x
              case Tb0x =>
                intro p hp
                rcases List.mem_cons.mp hp with rfl | hp
                · exact .tail _ (.head _)
                · rcases List.mem_cons.mp hp with rfl | hp
                  · exact .head _
                  · exact .tail _ (.tail _ hp)
              case Tb1x =>
                intro p hp
                rcases List.mem_cons.mp hp with rfl | hp
                · rfl
                · rw [List.mem_singleton.mp hp]; rfl
              case Tb2x =>
                intro z h1 h2
                have h3 : z ≠ ("index" : Str) := h1 _ (.head _)
                have h4 : z ≠ ("address" : Str) := h1 _ (.tail _ (.head _))
                simp only [List.contains_cons, List.contains_nil, Bool.or_false, Bool.or_eq_false_iff, beq_eq_false_iff_ne, ne_eq] at h2
                simp [h2, h3, h4, kstB]
              case Tb3x => exact fun _ => rows_more (p2 trivial) (.head _) (fun _ h => .tail _ h)
              case Tb4x =>
                intro q hq
                rcases List.mem_cons.mp hq with rfl | hq
                · exact Nat.ne_of_gt l9.1
                · exact p3 q hq
              case Tb5x => dsimp only; rw [List.length_append]; simp only [List.length_cons, List.length_nil]; omega
              case Tb6x => dsimp only; omega
              case Tb7x =>
                intro q hq
                rcases List.mem_cons.mp hq with rfl | hq
                · rfl
                · exact p6 q hq
            · rename fitsL _ _ = false => f9
              rename_i ex9 dx9 tx9 o49 es9 h9 tk9 F9 N9 l9 ne9 g19 g29
              rename (Mine.hd.heap_39 w.params).In _ => X9
              rename Below _ _ _ _ => B9
              refine ⟨_, _, _, rfl, (N9 _ (.head _)).1, X9.keeps F9.keep, ?_⟩
              show ek _ _
              dsimp only [ek]
              refine leave_newD (w := w) B9 F9 N9 (fun p hp => Nat.ne_of_lt (l9 p hp)) g19 g29 (fun h' R U => ?_) rfl
              exact exc ex9 _ h' _ _ _ ((p1 trivial).at_err (hne (by assumption)) (hst.trans (stepW_badrow hW4 (by assumption) f9))) (by assumption) U R.none
          · rename_i e9 g9 h9 tk9 z9 F9 U9 R9
            rename Below _ _ _ _ => B9
            refine leave_onD (w := w) B9 F9 R9 U9 (fun h' R U => ?_)
            rw [scan_bad z9, Nat.add_zero] at r3
            have q := (p1 trivial).at_err (hne (by assumption)) (step_bad g3 r3)
            rw [show i + (j - i) = j from by omega] at q
            exact exc e9 _ h' _ _ _ q (by assumption) U R
          · rename ¬ _ => hend
            rw [drop_end hend] at r3
            have hij : i < j := by omega
            have hst := step_word (hx := true) g3 r3
            have hst : stepL true ((lst x).drop i) = stepW true (j - i) ((((lst x).drop i).take (j - i)).map lo1) := hst
            have hW1 := cut_lst hc hij r2
            have hW2 := cut_len hc hij r2
            have hW3 := cut_lt hc hij r2
            have hW4 := cut_head hc hij r2
            unfold cutW at hW1 hW2 hW3 hW4
            generalize Txt.lower (Txt.slice x (some (i : Int)) (some (j : Int))) = W at *
            rw [← hW1] at hst
            have hW5 := strike_len W
            unfold strike at hW5
            open_k0
            · rename addrL _ = some _ => g9
              rename Fr _ _ _ _ => F1
              rename News _ _ _ _ => N1
              open_x
              have q := (p1 trivial).at_addr (hne (by assumption)) (hst.trans (stepW_addr hW4 (by assumption) g9))
              rw [List.drop_drop, show i + (j - i) = j from by omega] at q
              refine' ksw_end ⟨j, _, some _, _, vs, n, tl, ds⟩ F1 N1 (fun _ hp => hp) trivial ?Ta1y ?Ta2y ⟨fun _ => q, p2, p3, by dsimp only; omega, p6⟩ ?Ta3y
              case Ta1y =>
                intro p hp
                rcases List.mem_cons.mp hp with rfl | hp
                · rfl
                · rw [List.mem_singleton.mp hp]; rfl
              case Ta2y =>
                intro z h1 h2
                have h3 : z ≠ ("index" : Str) := h1 _ (.head _)
                have h4 : z ≠ ("address" : Str) := h1 _ (.tail _ (.head _))
                simp only [List.contains_cons, List.contains_nil, Bool.or_false, Bool.or_eq_false_iff, beq_eq_false_iff_ne, ne_eq] at h2
                simp [h2, h3, h4, kstB]
              case Ta3y => dsimp only; omega
            · rename_i e9 g9 h9 tk9 z9 F9 U9 R9
              rename Below _ _ _ _ => B9
              refine leave_onD (w := w) B9 F9 R9 U9 (fun h' R U => ?_)
              exact exc e9 _ h' _ _ _ ((p1 trivial).at_err (hne (by assumption)) (hst.trans (stepW_badaddr hW4 (by assumption) z9))) (by assumption) U R
            · rename fitsL _ _ = true => f9
              rename_i D z1 l9 z2 z3 z4 z5 z6 F1 N1
              open_x
              have q := (p1 trivial).at_row (hne (by assumption)) (hst.trans (stepW_row hW4 (by assumption) f9))
              rw [List.drop_drop, show i + (j - i) = j from by omega] at q
              rw [List.push_toArray] at N1
              refine' ksw_end ⟨j, _, none, 0, vs ++ [.ref D], n + 1, (D, { cls := .type "tuple", data := .seq #[gv a ta, .str (strike W) _] }) :: tl, ds ++ [(a, lst (strike W))]⟩ F1 N1 ?Tb0y trivial ?Tb1y ?Tb2y ⟨fun _ => q, ?Tb3y, ?Tb4y, ?Tb5y, ?Tb7y⟩ ?Tb6y
              case Tb0y =>
                intro p hp
                rcases List.mem_cons.mp hp with rfl | hp
                · exact .tail _ (.head _)
                · rcases List.mem_cons.mp hp with rfl | hp
                  · exact .head _
                  · exact .tail _ (.tail _ hp)
              case Tb1y =>
                intro p hp
                rcases List.mem_cons.mp hp with rfl | hp
                · rfl
                · rw [List.mem_singleton.mp hp]; rfl
              case Tb2y =>
                intro z h1 h2
                have h3 : z ≠ ("index" : Str) := h1 _ (.head _)
                have h4 : z ≠ ("address" : Str) := h1 _ (.tail _ (.head _))
                simp only [List.contains_cons, List.contains_nil, Bool.or_false, Bool.or_eq_false_iff, beq_eq_false_iff_ne, ne_eq] at h2
                simp [h2, h3, h4, kstB]
              case Tb3y => exact fun _ => rows_more (p2 trivial) (.head _) (fun _ h => .tail _ h)
              case Tb4y =>
                intro q hq
                rcases List.mem_cons.mp hq with rfl | hq
                · exact Nat.ne_of_gt l9.1
                · exact p3 q hq
              case Tb5y => dsimp only; rw [List.length_append]; simp only [List.length_cons, List.length_nil]; omega
              case Tb6y => dsimp only; omega
              case Tb7y =>
                intro q hq
                rcases List.mem_cons.mp hq with rfl | hq
                · rfl
                · exact p6 q hq
            · rename fitsL _ _ = false => f9
              rename_i ex9 dx9 tx9 o49 es9 h9 tk9 F9 N9 l9 ne9 g19 g29
              rename (Mine.hd.heap_39 w.params).In _ => X9
              rename Below _ _ _ _ => B9
              refine ⟨_, _, _, rfl, (N9 _ (.head _)).1, X9.keeps F9.keep, ?_⟩
              show ek _ _
              dsimp only [ek]
              refine leave_newD (w := w) B9 F9 N9 (fun p hp => Nat.ne_of_lt (l9 p hp)) g19 g29 (fun h' R U => ?_) rfl
              exact exc ex9 _ h' _ _ _ ((p1 trivial).at_err (hne (by assumption)) (hst.trans (stepW_badrow hW4 (by assumption) f9))) (by assumption) U R.none
      · rename_i n9 t9 h9 tk9 g9 _ _ _ _ _ _ _
        open_x
        rename Fr _ _ _ _ => F1
        rename News _ _ _ _ => N1
        have q := (p1 trivial).at_gap (hne (by assumption)) (step_gap (by assumption) (by omega))
        rw [List.drop_drop] at q
        refine' ksw_end ⟨i + _, _, a, ta, vs, n, tl, ds⟩ F1 N1 (fun _ hp => hp) trivial ?Td1 ?Td2 ⟨fun _ => q, p2, p3, by dsimp only; omega, p6⟩ ?Td3
        case Td1 =>
          intro p hp
          rcases List.mem_cons.mp hp with rfl | hp
          · rfl
          · rw [List.mem_singleton.mp hp]; rfl
        case Td2 =>
          intro z h1 h2
          have h3 : z ≠ ("index" : Str) := h1 _ (.head _)
          have h4 : z ≠ ("address" : Str) := h1 _ (.tail _ (.head _))
          simp only [List.contains_cons, List.contains_nil, Bool.or_false, Bool.or_eq_false_iff, beq_eq_false_iff_ne, ne_eq] at h2
          simp [h2, h3, h4, kstB]
        case Td3 => dsimp only; omega
      · rename_i e9 g9 h9 tk9 z9 F9 U9 R9
        rename Below _ _ _ _ => B9
        refine leave_onD (w := w) B9 F9 R9 U9 (fun h' R U => ?_)
        exact exc e9 _ h' _ _ _ ((p1 trivial).at_err (hne (by assumption)) (step_none z9)) (by assumption) U R
      · rename Fr h₀ L _ _ => F1
        rename News h₀ L _ _ => N1
        rename ¬ _ => hend
        rw [drop_end hend] at p1
        exact ret rl n vs tl ds _ _ (p1 trivial).at_end F1 N1 (p2 trivial) p3 p6

theorem fresh_Turns : True := by
  w_top off
  trivial
/-! a loop over a list of rows, each turn unpacking one -/
def RowEnd {σ : Type} (h₀ : Heap) (L : Addr) (Led : σ → List (Addr × Obj)) (cst own : List (Addr × Obj)) (ps : σ → List (Str × Value)) (stored : List Str) (m₀ : Str → Option Value) (P : List Row → σ → Prop) (pre : List Row) (s : Shared) (Q : Flow → Shared → Prop) (f : Flow) (s₂ : Shared) : Prop :=
  match f with
  | .ret v => Q (.ret v) s₂
  | .brk => Q .next s₂
  | _ => ∃ (c' : σ) (h' : Heap) (tk : Nat) (m' : Str → Option Value) (news' : List (Addr × Obj)), s₂ = { s with heap := h', toks := tk } ∧ Fr h₀ L h' m' ∧ News h₀ L h' news' ∧ (∀ p ∈ Led c' ++ (cst ++ own), p ∈ news') ∧
      (∀ p ∈ ps c', m' p.1 = some p.2) ∧ (∀ z, (∀ p ∈ ps c', z ≠ p.1) → stored.contains z = false → m' z = m₀ z) ∧ P pre c'
theorem row_end {σ : Type} {h₀ : Heap} {L : Addr} {Led : σ → List (Addr × Obj)} {cst own : List (Addr × Obj)} {ps : σ → List (Str × Value)} {stored : List Str} {m₀ : Str → Option Value} {P : List Row → σ → Prop} {pre : List Row} {s : Shared} {Q : Flow → Shared → Prop}
    {h' : Heap} {tk : Nat} {m' : Str → Option Value} {news' : List (Addr × Obj)} (c' : σ) (F : Fr h₀ L h' m') (N : News h₀ L h' news') (hn : ∀ p ∈ Led c' ++ (cst ++ own), p ∈ news') (hk : ∀ p ∈ ps c', m' p.1 = some p.2)
    (hr : ∀ z, (∀ p ∈ ps c', z ≠ p.1) → stored.contains z = false → m' z = m₀ z) (hp : P pre c') : RowEnd h₀ L Led cst own ps stored m₀ P pre s Q .next { s with heap := h', toks := tk } :=
  ⟨c', h', tk, m', news', rfl, F, N, hn, hk, hr, hp⟩
section
variable {prog : Program} {w : World} {A : Around} {E : Value → Shared → Prop} {Q : Flow → Shared → Prop} {s : Shared} {env : Env} {h₀ : Heap} {target : PySem.Expr} {body : List Stmt}
theorem subL_of : ∀ {l l' : List (Addr × Obj)}, (∀ p ∈ l, p ∈ l') → SubL l l'
  | [], _, _ => trivial
  | _ :: _, _, h => ⟨h _ (.head _), subL_of fun p hp => h p (.tail _ hp)⟩
theorem rows_turns {σ : Type} {ax : Addr} {vs : List Value} {n : Nat} {rows : List Row} {m₀ : Str → Option Value} {cst : List (Addr × Obj)} (Led : σ → List (Addr × Obj)) (ps : σ → List (Str × Value)) (stored : List Str) (P : List Row → σ → Prop) (c₀ : σ)
    (hh : A.handled = none) (F : Fr h₀ env.locals s.heap m₀) (N : News h₀ env.locals s.heap (Led c₀ ++ cst)) (hm : (ax, PySem.W.listOf vs.toArray n) ∈ cst) (hd : DatAll cst vs (rows.map rowD)) (hk : ∀ p ∈ ps c₀, m₀ p.1 = some p.2) (hp : P [] c₀)
    (hcls : ∀ pre c, P pre c → ∀ p ∈ Led c, p.2.cls ≠ .type "list_iterator")
    (turn : ∀ (c : σ) pre r post v (u : Str → Option Value) h tk own, rows = pre ++ r :: post → DatIn cst v (rowD r) → (∀ p ∈ Led c, ∀ q ∈ own, q.1 ≠ p.1) → P pre c → Fr h₀ env.locals h (kstB (fun z => if stored.contains z then u z else m₀ z) (ps c)) → News h₀ env.locals h (Led c ++ (cst ++ own)) →
      wpAny (model prog w) A (assign target env v) (fun _ s₂ => wpAny (model prog w) A (execs body env) (TurnEnd (RowEnd h₀ env.locals Led cst own ps stored m₀ P (pre ++ [r]) s Q)) E s₂) E { s with heap := h, toks := tk })
    (done : ∀ (c : σ) (u : Str → Option Value) h tk, P rows c → Fr h₀ env.locals h (kstB (fun z => if stored.contains z then u z else m₀ z) (ps c)) → News h₀ env.locals h (Led c ++ cst) → Q .next { s with heap := h, toks := tk }) :
    wpAny (model prog w) A (pyIter (.ref ax)) (fun it s₂ => TurnsAt prog w A h₀ env target body Q E it s₂) E s := by
  refine iter_listTurns hh F N (List.mem_append.mpr (.inr hm)) rfl rfl fun I hI => ?_
  have hcst : ∀ p ∈ cst, p.1 ≠ I := fun p hp => Nat.ne_of_lt (hI p (List.mem_append.mpr (.inr hp)))
  have key : ∀ (vs' : List Value) (post pre : List Row) (c : σ) (m : Str → Option Value), rows = pre ++ post → DatAll cst vs' (post.map rowD) → P pre c → (∀ p ∈ ps c, m p.1 = some p.2) →
      (∀ z, (∀ p ∈ ps c, z ≠ p.1) → stored.contains z = false → m z = m₀ z) → ItemsRest prog w A E h₀ env target body Q s [(I, "list_iterator")] [(ax, PySem.W.listOf vs.toArray n)] (vs'.map .val) m (Led c ++ cst) := by
    intro vs'
    induction vs' with
    | nil =>
      intro post pre c m e hd hp h1 h2
      cases post with
      | cons r post => cases hd
      | nil =>
        rw [List.append_nil] at e
        subst e
        exact fun h tk F N => done c m h tk hp (ksw_fr h1 h2 F) N
    | cons v vs' ih =>
      intro post pre c m e hd hp h1 h2
      cases post with
      | nil => cases hd
      | cons r post =>
        have hd' : DatAll cst (v :: vs') (rowD r :: post.map rowD) := hd
        cases hd' with
        | cons hv hd' =>
        refine ItemsRest.val fun h tk F => AllObj.cons fun o ho => AllObj.nil fun N => ?_
        have N' : News h₀ env.locals h (Led c ++ (cst ++ [(I, o)])) := fun p hp => N p (by
          rcases List.mem_append.mp hp with hp | hp
          · exact List.mem_append.mpr (.inr (List.mem_append.mpr (.inl hp)))
          · rcases List.mem_append.mp hp with hp | hp
            · exact List.mem_append.mpr (.inr (List.mem_append.mpr (.inr hp)))
            · rw [List.mem_singleton.mp hp]; exact .head _)
        have off : ∀ p ∈ Led c, ∀ q ∈ [(I, o)], q.1 ≠ p.1 := fun p hp' q hq e => by
          rw [List.mem_singleton.mp hq] at e
          have g1 := (N' p (List.mem_append.mpr (.inl hp'))).1
          have g2 := (N' (I, o) (List.mem_append.mpr (.inr (List.mem_append.mpr (.inr (.head _)))))).1
          rw [← e] at g1
          have := Option.some.inj (g1.symm.trans g2)
          exact hcls pre c hp p hp' (by rw [this]; exact ho)
        refine wpAny_mono (turn c pre r post v m h tk [(I, o)] e hv off hp (ksw_fr h1 h2 F) N') (fun _ s₂ q => wpAny_mono q (fun f s₃ q => ?_) fun _ _ e => e) fun _ _ e => e
        have fin : (∃ (c' : σ) (h' : Heap) (tk : Nat) (m' : Str → Option Value) (news' : List (Addr × Obj)), s₃ = { s with heap := h', toks := tk } ∧ Fr h₀ env.locals h' m' ∧ News h₀ env.locals h' news' ∧ (∀ p ∈ Led c' ++ (cst ++ [(I, o)]), p ∈ news') ∧
            (∀ p ∈ ps c', m' p.1 = some p.2) ∧ (∀ z, (∀ p ∈ ps c', z ≠ p.1) → stored.contains z = false → m' z = m₀ z) ∧ P (pre ++ [r]) c') →
            UnrEndW h₀ env.locals { s with heap := h, toks := tk } ([(I, o)]) (fun m' n' => SubL [(ax, PySem.W.listOf vs.toArray n)] n' ∧ ItemsRest prog w A E h₀ env target body Q s [(I, "list_iterator")] [(ax, PySem.W.listOf vs.toArray n)] (vs'.map .val) m' n') s₃ := by
          rintro ⟨c', h', tk', m', news', rfl, F', N2, hn, k1, k2, hp'⟩
          have N3 : News h₀ env.locals h' ([(I, o)] ++ (Led c' ++ cst)) := fun p hp => N2 p (hn p (by
            rcases List.mem_append.mp hp with hp | hp
            · exact List.mem_append.mpr (.inr (List.mem_append.mpr (.inr hp)))
            · rcases List.mem_append.mp hp with hp | hp
              · exact List.mem_append.mpr (.inl hp)
              · exact List.mem_append.mpr (.inr (List.mem_append.mpr (.inl hp)))))
          refine ⟨h', tk', m', Led c' ++ cst, rfl, F', N3, ?_, subL_of (fun p hp => ?_), ih post (pre ++ [r]) c' m' (by rw [e, List.append_assoc]; rfl) hd' hp' k1 k2⟩
          · intro p hp q hq
            rw [List.mem_singleton.mp hq]
            rcases List.mem_append.mp hp with hp | hp
            · intro e
              have g1 := (N3 p (List.mem_append.mpr (.inr (List.mem_append.mpr (.inl hp))))).1
              have g2 := (N3 (I, o) (List.mem_append.mpr (.inl (.head _)))).1
              have e' : p.1 = I := e
              rw [e'] at g1
              have := Option.some.inj (g1.symm.trans g2)
              exact hcls _ c' hp' p hp (by rw [this]; exact ho)
            · exact hcst p hp
          · rw [List.mem_singleton.mp hp]; exact List.mem_append.mpr (.inr hm)
        cases f with
        | ret v => exact q
        | brk => exact q
        | next => exact fin q
        | cont => exact fin q
  exact key vs rows [] c₀ m₀ rfl hd hp hk fun _ _ _ => rfl
end

theorem fresh_Plain4 : True := by
  w_top off
  trivial
/-! placed, by plain counting -/
def placeStep (low high step : Int) (st : Int × List (Int × List Nat)) (r : Row) : Option (Int × List (Int × List Nat)) :=
  match r.1 with
  | some g => if (g : Int) < low ∨ high < (g : Int) then none else some ((g : Int) + step, st.2 ++ [((g : Int), r.2)])
  | none => some (st.1 + step, if low ≤ st.1 ∧ st.1 ≤ high then st.2 ++ [(st.1, r.2)] else st.2)
def spotD (q : Int × List Nat) : Dat := .tuple [.int q.1, .str ⟨q.2.toArray⟩]
def stepOf (start stop : Int) : Int := if stop < start then -1 else 1
abbrev placeL (start stop : Int) (rows : List Row) : Option (Int × List (Int × List Nat)) := rows.foldlM (placeStep (if stop < start then stop else start) (if stop > start then stop else start) (stepOf start stop)) (start, [])
/-- where `placed_rows` stands between two turns -/
structure PS where
  a : Int
  ta : Tok
  vs : List Value
  n : Nat
  tl : List (Addr × Obj)
  ds : List (Int × List Nat)
theorem row_in {cst : List (Addr × Obj)} {v : Value} {g : Option Nat} {d : List Nat} (h : DatIn cst v (rowD (g, d))) : ∃ T ta t nn, v = .ref T ∧ (T, ({ cls := .type "tuple", data := .seq #[gv g ta, .str ⟨d.toArray⟩ t] nn } : Obj)) ∈ cst := by
  unfold rowD at h
  cases h with
  | @tuple T vs nn _ hm hv =>
  cases hv with
  | @cons v1 r1 _ _ h1 h2 =>
  cases h2 with
  | cons h3 h4 =>
  cases h4
  cases h3 with
  | str _ t =>
  cases g with
  | none =>
    cases h1
    exact ⟨T, 0, t, nn, rfl, hm⟩
  | some g =>
    cases h1 with
    | int _ ta => exact ⟨T, ta, t, nn, rfl, hm⟩
theorem place_app {low high st : Int} {z : Int × List (Int × List Nat)} {pre post : List Row} {r : Row} {q : Int × List (Int × List Nat)} (h : pre.foldlM (placeStep low high st) z = some q) :
    (pre ++ r :: post).foldlM (placeStep low high st) z = (placeStep low high st q r).bind fun q' => post.foldlM (placeStep low high st) q' := by
  rw [List.foldlM_append, h]
  rfl
theorem place_snoc {low high st : Int} {z : Int × List (Int × List Nat)} {pre : List Row} {r : Row} {q q' : Int × List (Int × List Nat)} (h : pre.foldlM (placeStep low high st) z = some q) (h2 : placeStep low high st q r = some q') :
    (pre ++ [r]).foldlM (placeStep low high st) z = some q' := by
  rw [place_app h, h2]
  rfl
theorem place_none {low high st : Int} {z : Int × List (Int × List Nat)} {pre post : List Row} {r : Row} {q : Int × List (Int × List Nat)} (h : pre.foldlM (placeStep low high st) z = some q) (h2 : placeStep low high st q r = none) :
    (pre ++ r :: post).foldlM (placeStep low high st) z = none := by
  rw [place_app h, h2]
  rfl
theorem spots_more {tl tl' : List (Addr × Obj)} {vs : List Value} {ds : List (Int × List Nat)} {D : Addr} {a : Int} {d : List Nat} {ta t : Tok} (h : DatAll tl vs (ds.map spotD))
    (hm : (D, ({ cls := .type "tuple", data := .seq #[.int a ta, .str ⟨d.toArray⟩ t] } : Obj)) ∈ tl') (hs : ∀ p ∈ tl, p ∈ tl') : DatAll tl' (vs ++ [.ref D]) ((ds ++ [(a, d)]).map spotD) := by
  rw [List.map_append]
  refine (h.mono hs).append (.one ?_)
  show DatIn tl' (.ref D) (.tuple [.int a, .str ⟨d.toArray⟩])
  exact DatIn.tuple hm (.cons (.int _ _) (.cons (.str _ _) .nil))
theorem step_in {low high st a : Int} {ds : List (Int × List Nat)} {d : List Nat} (h1 : low ≤ a) (h2 : a ≤ high) : placeStep low high st (a, ds) (none, d) = some (a + st, ds ++ [(a, d)]) := by
  unfold placeStep; dsimp only; rw [if_pos ⟨h1, h2⟩]
theorem step_out {low high st a : Int} {ds : List (Int × List Nat)} {d : List Nat} (h : ¬ (low ≤ a ∧ a ≤ high)) : placeStep low high st (a, ds) (none, d) = some (a + st, ds) := by
  unfold placeStep; dsimp only; rw [if_neg h]
theorem step_given {low high st a : Int} {g : Nat} {ds : List (Int × List Nat)} {d : List Nat} (h : ¬ ((g : Int) < low ∨ high < (g : Int))) : placeStep low high st (a, ds) (some g, d) = some ((g : Int) + st, ds ++ [((g : Int), d)]) := by
  unfold placeStep; dsimp only; rw [if_neg h]
theorem step_far {low high st a : Int} {g : Nat} {ds : List (Int × List Nat)} {d : List Nat} (h : (g : Int) < low ∨ high < (g : Int)) : placeStep low high st (a, ds) (some g, d) = none := by
  unfold placeStep; dsimp only; rw [if_pos h]

theorem fresh_Placed : True := by
  w_top off
  trivial
set_option maxRecDepth 100000 in
set_option maxHeartbeats 8000000 in
theorem placed_spec {w : World} {p : Program} {loose : List Str} {mean : ExcName → Option Value} {mg mb : Str → Option Value}
  {dp un : Nat} {gd : Option (List Code)} {cn : Str} {cs : Scope} {a : Addr} {ccd : Value} {cl : List (Str × Addr)} {outer : List Env} {A₀ : Around} {base h₀ : Heap} {L : Addr} {m : Str → Option Value} {s : Shared}
  {Q E : Value → Shared → Prop}
  {start stop : Int} {ts tp : Tok} {rl : Addr} {vs : List Value} {n : Nat} {rows : List Row} {news : List (Addr × Obj)}
  (B : Below A₀ base outer h₀) (F : Fr h₀ L s.heap m) (X : (Mine.hd.heap_39 w.params).In h₀)
  (N : News h₀ L s.heap news) (T : Top p loose mean mg mb h₀)
  (hk : cs.kind = .function) (hd : dp + 16 < recursionLimit) (hu : un + 128 < cLine)
  (hm : (rl, PySem.W.listOf vs.toArray n) ∈ news) (hr : True → DatAll news vs (rows.map rowD)) (hl : rows.length ≤ 1000)
  (ret : ∀ pl n vs2 tl h' tk' z out, placeL start stop rows = some (z, out) → Fr h₀ L h' m → News h₀ L h' ((pl, PySem.W.listOf vs2.toArray n) :: (tl ++ news)) → DatAll tl vs2 (out.map spotD) → (∀ q ∈ tl, q.2.cls = .type "tuple") → Q (.ref pl) { s with heap := h', toks := tk' })
  (exc : ∀ e g₂ h' tk', placeL start stop rows = none → Fr h₀ L g₂ m → g₂.UpToSlots h' → RaisedD w base (envX cn cs L a ccd cl :: outer) e "address_out_of_range" (-1) [] h' → E (.ref e) { s with heap := h', toks := tk' }) :
  wpAny (model PR w) (ktrTop dp un gd cn cs L a ccd cl outer) (call (.ref 61) [.ref rl, .int start ts, .int stop tp]) Q E s := by
  unfold PR; revert X; k_fill; intro X
  refine wpAny_call ?_
  k_dflt ktr_enter
  open_k0
  · rename_i pl h1 l1 _ _ _ _ F9 N9 _ _
    have hst : stepOf start stop = (-1) := by unfold stepOf; rw [if_pos (by assumption)]
    unfold placeL at ret exc
    rw [hst] at ret exc
    generalize hlow : (if stop < start then stop else start) = low at *
    generalize hhigh : (if stop > start then stop else start) = high at *
    have hl1 : ∀ q ∈ news, q.1 ≠ pl := fun q hq => Nat.ne_of_lt (l1 q hq)
    with_unfolding_all refine' For_turns F9 ?_
    open_k0
    rename Fr _ _ _ _ => F9
    rename News _ _ _ _ => N9
    refine' rows_turns (σ := PS) (cst := news) (fun c => (pl, PySem.W.listOf c.vs.toArray c.n) :: c.tl) (fun c => [(("address" : Str), .int c.a c.ta)]) ["given", "digits"]
      (fun pre c => pre.foldlM (placeStep low high (-1)) (start, []) = some (c.a, c.ds) ∧ (True → DatAll c.tl c.vs (c.ds.map spotD)) ∧ (∀ q ∈ c.tl, q.1 ≠ pl) ∧ (∀ q ∈ c.tl, q.2.cls = .type "tuple") ∧ c.vs.length ≤ pre.length) ⟨start, ts, [], 0, [], []⟩ rfl F9 N9 hm (hr trivial) ?q1 ⟨rfl, (fun _ => .nil), (fun _ h => nomatch h), (fun _ h => nomatch h), Nat.le_refl _⟩ ?q2 ?q3 ?q4
    case q1 => intro p hp; rw [List.mem_singleton.mp hp]; rfl
    case q2 =>
      rintro pre c ⟨_, _, _, z, _⟩ p hp e
      rcases List.mem_cons.mp hp with rfl | hp
      · have e' := Value.type.inj e; revert e'; decide
      · rw [z p hp] at e; have e' := Value.type.inj e; revert e'; decide
    case q3 =>
      rintro ⟨a, ta, vs2, n2, tl, ds⟩ pre ⟨g, d⟩ post v u h tk own e hv off ⟨p1, p2, p3, p4, p5⟩ F N
      dsimp only at off p1 p2 p3 p4 p5 F N
      obtain ⟨T, tg, td, nn, rfl, hT⟩ := row_in hv
      have ho : ∀ q ∈ own, q.1 ≠ pl := off _ (.head _)
      have hTp : T ≠ pl := hl1 _ hT
      have hall : ∀ q ∈ tl ++ (news ++ own), q.1 ≠ pl := fun q hq => by
        rcases List.mem_append.mp hq with hq | hq
        · exact p3 q hq
        · rcases List.mem_append.mp hq with hq | hq
          · exact hl1 q hq
          · exact ho q hq
      have N2 : News _ _ h ((pl, PySem.W.listOf vs2.toArray n2) :: (T, ({ cls := .type "tuple", data := .seq #[gv g tg, .str ⟨d.toArray⟩ td] nn } : Obj)) :: (tl ++ (news ++ own))) := fun q hq => N q (by
        rcases List.mem_cons.mp hq with rfl | hq
        · exact .head _
        · rcases List.mem_cons.mp hq with rfl | hq
          · exact .tail _ (List.mem_append.mpr (.inr (List.mem_append.mpr (.inl hT))))
          · exact .tail _ hq)
      clear N
      have hlen : pre.length + 1 ≤ 1000 := by
        have h9 : rows.length = (pre ++ (g, d) :: post).length := by rw [← e]
        simp only [List.length_append, List.length_cons] at h9
        omega
      cases g
      · dsimp only [gv] at N2
        open_k0
        · rename_i D z1 l9 z4 z5 F1 N1
          open_x
          rw [List.push_toArray] at N1
          refine' row_end ⟨a + (-1), _, vs2 ++ [.ref D], n2 + 1, (D, { cls := .type "tuple", data := .seq #[.int a _, .str ⟨d.toArray⟩ _] }) :: tl, ds ++ [(a, d)]⟩ F1 N1 ?b0x ?b1x ?b2x ⟨place_snoc p1 (step_in (by assumption) (by assumption)), ?b3x, ?b4x, ?b5x, ?b6x⟩
          case b0x =>
            intro p hp
            rcases List.mem_cons.mp hp with rfl | hp
            · exact .tail _ (.head _)
            · rcases List.mem_cons.mp hp with rfl | hp
              · exact .head _
              · exact .tail _ (.tail _ (.tail _ hp))
          case b1x => intro p hp; rw [List.mem_singleton.mp hp]; rfl
          case b2x =>
            intro z h1 h2
            have h3 : z ≠ ("address" : Str) := h1 _ (.head _)
            simp only [List.contains_cons, List.contains_nil, Bool.or_false, Bool.or_eq_false_iff, beq_eq_false_iff_ne, ne_eq] at h2
            simp [h2, h3, kstB]
          case b3x => exact fun _ => spots_more (p2 trivial) (.head _) (fun _ h => .tail _ h)
          case b4x =>
            intro q hq
            rcases List.mem_cons.mp hq with rfl | hq
            · exact Nat.ne_of_gt l9.1
            · exact p3 q hq
          case b5x =>
            intro q hq
            rcases List.mem_cons.mp hq with rfl | hq
            · rfl
            · exact p4 q hq
          case b6x => dsimp only; simp only [List.length_append, List.length_cons, List.length_nil]; omega
        · rename Fr _ _ _ _ => F1
          rename News _ _ _ _ => N1
          open_x
          refine' row_end ⟨a + (-1), _, vs2, n2, tl, ds⟩ F1 N1 ?b0y ?b1y ?b2y ⟨place_snoc p1 (step_out (by omega)), p2, p3, p4, ?b6y⟩
          case b0y =>
            intro p hp
            rcases List.mem_cons.mp hp with rfl | hp
            · exact .head _
            · exact .tail _ (.tail _ hp)
          case b1y => intro p hp; rw [List.mem_singleton.mp hp]; rfl
          case b2y =>
            intro z h1 h2
            have h3 : z ≠ ("address" : Str) := h1 _ (.head _)
            simp only [List.contains_cons, List.contains_nil, Bool.or_false, Bool.or_eq_false_iff, beq_eq_false_iff_ne, ne_eq] at h2
            simp [h2, h3, kstB]
          case b6y => dsimp only; simp only [List.length_append, List.length_cons, List.length_nil]; omega
        · rename Fr _ _ _ _ => F1
          rename News _ _ _ _ => N1
          open_x
          refine' row_end ⟨a + (-1), _, vs2, n2, tl, ds⟩ F1 N1 ?b0z ?b1z ?b2z ⟨place_snoc p1 (step_out (by omega)), p2, p3, p4, ?b6z⟩
          case b0z =>
            intro p hp
            rcases List.mem_cons.mp hp with rfl | hp
            · exact .head _
            · exact .tail _ (.tail _ hp)
          case b1z => intro p hp; rw [List.mem_singleton.mp hp]; rfl
          case b2z =>
            intro z h1 h2
            have h3 : z ≠ ("address" : Str) := h1 _ (.head _)
            simp only [List.contains_cons, List.contains_nil, Bool.or_false, Bool.or_eq_false_iff, beq_eq_false_iff_ne, ne_eq] at h2
            simp [h2, h3, kstB]
          case b6z => dsimp only; simp only [List.length_append, List.length_cons, List.length_nil]; omega
      · rename_i g
        dsimp only [gv] at N2
        open_k0
        · rename_i ex9 dx9 tx9 o49 es9 h9 tk9 F9 N9 l9 ne9 g19 g29
          rename (Mine.hd.heap_39 w.params).In _ => X9
          rename Below _ _ _ _ => B9
          refine ⟨_, _, _, rfl, (N9 _ (.head _)).1, X9.keeps F9.keep, ?_⟩
          show ek _ _
          dsimp only [ek]
          refine leave_newD (w := w) B9 F9 N9 (fun p hp => Nat.ne_of_lt (l9 p hp)) g19 g29 (fun h' R U => ?_) rfl
          refine exc ex9 _ h' _ ?_ (by assumption) U R.none
          rw [e]
          exact place_none p1 (step_far (by omega))
        · rename_i ex9 dx9 tx9 o49 es9 h9 tk9 F9 N9 l9 ne9 g19 g29
          rename (Mine.hd.heap_39 w.params).In _ => X9
          rename Below _ _ _ _ => B9
          refine ⟨_, _, _, rfl, (N9 _ (.head _)).1, X9.keeps F9.keep, ?_⟩
          show ek _ _
          dsimp only [ek]
          refine leave_newD (w := w) B9 F9 N9 (fun p hp => Nat.ne_of_lt (l9 p hp)) g19 g29 (fun h' R U => ?_) rfl
          refine exc ex9 _ h' _ ?_ (by assumption) U R.none
          rw [e]
          exact place_none p1 (step_far (by omega))
        · rename_i D z1 l9 z4 z5 F1 N1
          open_x
          rw [List.push_toArray] at N1
          refine' row_end ⟨(g : Int) + (-1), _, vs2 ++ [.ref D], n2 + 1, (D, { cls := .type "tuple", data := .seq #[.int (g : Int) _, .str ⟨d.toArray⟩ _] }) :: tl, ds ++ [((g : Int), d)]⟩ F1 N1 ?b0w ?b1w ?b2w ⟨place_snoc p1 (step_given (by omega)), ?b3w, ?b4w, ?b5w, ?b6w⟩
          case b0w =>
            intro p hp
            rcases List.mem_cons.mp hp with rfl | hp
            · exact .tail _ (.head _)
            · rcases List.mem_cons.mp hp with rfl | hp
              · exact .head _
              · exact .tail _ (.tail _ (.tail _ hp))
          case b1w => intro p hp; rw [List.mem_singleton.mp hp]; rfl
          case b2w =>
            intro z h1 h2
            have h3 : z ≠ ("address" : Str) := h1 _ (.head _)
            simp only [List.contains_cons, List.contains_nil, Bool.or_false, Bool.or_eq_false_iff, beq_eq_false_iff_ne, ne_eq] at h2
            simp [h2, h3, kstB]
          case b3w => exact fun _ => spots_more (p2 trivial) (.head _) (fun _ h => .tail _ h)
          case b4w =>
            intro q hq
            rcases List.mem_cons.mp hq with rfl | hq
            · exact Nat.ne_of_gt l9.1
            · exact p3 q hq
          case b5w =>
            intro q hq
            rcases List.mem_cons.mp hq with rfl | hq
            · rfl
            · exact p4 q hq
          case b6w => dsimp only; simp only [List.length_append, List.length_cons, List.length_nil]; omega
    case q4 =>
      rintro ⟨a, ta, vs2, n2, tl, ds⟩ u h tk ⟨p1, p2, p3, p4, p5⟩ F N
      dsimp only at p1 p2 p3 p4 p5 F N
      open_k0
      rename Fr h₀ L _ _ => F1
      rename News h₀ L _ _ => N1
      exact ret pl n2 vs2 tl _ _ a ds p1 F1 N1 (p2 trivial) p4
  · rename_i pl h1 l1 _ _ _ _ F9 N9 _ _
    have hst : stepOf start stop = 1 := by unfold stepOf; rw [if_neg (by assumption)]
    unfold placeL at ret exc
    rw [hst] at ret exc
    generalize hlow : (if stop < start then stop else start) = low at *
    generalize hhigh : (if stop > start then stop else start) = high at *
    have hl1 : ∀ q ∈ news, q.1 ≠ pl := fun q hq => Nat.ne_of_lt (l1 q hq)
    with_unfolding_all refine' For_turns F9 ?_
    open_k0
    rename Fr _ _ _ _ => F9
    rename News _ _ _ _ => N9
    refine' rows_turns (σ := PS) (cst := news) (fun c => (pl, PySem.W.listOf c.vs.toArray c.n) :: c.tl) (fun c => [(("address" : Str), .int c.a c.ta)]) ["given", "digits"]
      (fun pre c => pre.foldlM (placeStep low high 1) (start, []) = some (c.a, c.ds) ∧ (True → DatAll c.tl c.vs (c.ds.map spotD)) ∧ (∀ q ∈ c.tl, q.1 ≠ pl) ∧ (∀ q ∈ c.tl, q.2.cls = .type "tuple") ∧ c.vs.length ≤ pre.length) ⟨start, ts, [], 0, [], []⟩ rfl F9 N9 hm (hr trivial) ?Tq1 ⟨rfl, (fun _ => .nil), (fun _ h => nomatch h), (fun _ h => nomatch h), Nat.le_refl _⟩ ?Tq2 ?Tq3 ?Tq4
    case Tq1 => intro p hp; rw [List.mem_singleton.mp hp]; rfl
    case Tq2 =>
      rintro pre c ⟨_, _, _, z, _⟩ p hp e
      rcases List.mem_cons.mp hp with rfl | hp
      · have e' := Value.type.inj e; revert e'; decide
      · rw [z p hp] at e; have e' := Value.type.inj e; revert e'; decide
    case Tq3 =>
      rintro ⟨a, ta, vs2, n2, tl, ds⟩ pre ⟨g, d⟩ post v u h tk own e hv off ⟨p1, p2, p3, p4, p5⟩ F N
      dsimp only at off p1 p2 p3 p4 p5 F N
      obtain ⟨T, tg, td, nn, rfl, hT⟩ := row_in hv
      have ho : ∀ q ∈ own, q.1 ≠ pl := off _ (.head _)
      have hTp : T ≠ pl := hl1 _ hT
      have hall : ∀ q ∈ tl ++ (news ++ own), q.1 ≠ pl := fun q hq => by
        rcases List.mem_append.mp hq with hq | hq
        · exact p3 q hq
        · rcases List.mem_append.mp hq with hq | hq
          · exact hl1 q hq
          · exact ho q hq
      have N2 : News _ _ h ((pl, PySem.W.listOf vs2.toArray n2) :: (T, ({ cls := .type "tuple", data := .seq #[gv g tg, .str ⟨d.toArray⟩ td] nn } : Obj)) :: (tl ++ (news ++ own))) := fun q hq => N q (by
        rcases List.mem_cons.mp hq with rfl | hq
        · exact .head _
        · rcases List.mem_cons.mp hq with rfl | hq
          · exact .tail _ (List.mem_append.mpr (.inr (List.mem_append.mpr (.inl hT))))
          · exact .tail _ hq)
      clear N
      have hlen : pre.length + 1 ≤ 1000 := by
        have h9 : rows.length = (pre ++ (g, d) :: post).length := by rw [← e]
        simp only [List.length_append, List.length_cons] at h9
        omega
      cases g
      · dsimp only [gv] at N2
        open_k0
        · rename_i D z1 l9 z4 z5 F1 N1
          open_x
          rw [List.push_toArray] at N1
          refine' row_end ⟨a + 1, _, vs2 ++ [.ref D], n2 + 1, (D, { cls := .type "tuple", data := .seq #[.int a _, .str ⟨d.toArray⟩ _] }) :: tl, ds ++ [(a, d)]⟩ F1 N1 ?Tb0x ?Tb1x ?Tb2x ⟨place_snoc p1 (step_in (by assumption) (by assumption)), ?Tb3x, ?Tb4x, ?Tb5x, ?Tb6x⟩
          case Tb0x =>
            intro p hp
            rcases List.mem_cons.mp hp with rfl | hp
            · exact .tail _ (.head _)
            · rcases List.mem_cons.mp hp with rfl | hp
              · exact .head _
              · exact .tail _ (.tail _ (.tail _ hp))
          case Tb1x => intro p hp; rw [List.mem_singleton.mp hp]; rfl
          case Tb2x =>
            intro z h1 h2
            have h3 : z ≠ ("address" : Str) := h1 _ (.head _)
            simp only [List.contains_cons, List.contains_nil, Bool.or_false, Bool.or_eq_false_iff, beq_eq_false_iff_ne, ne_eq] at h2
            simp [h2, h3, kstB]
          case Tb3x => exact fun _ => spots_more (p2 trivial) (.head _) (fun _ h => .tail _ h)
          case Tb4x =>
            intro q hq
            rcases List.mem_cons.mp hq with rfl | hq
            · exact Nat.ne_of_gt l9.1
            · exact p3 q hq
          case Tb5x =>
            intro q hq
            rcases List.mem_cons.mp hq with rfl | hq
            · rfl
            · exact p4 q hq
          case Tb6x => dsimp only; simp only [List.length_append, List.length_cons, List.length_nil]; omega
        · rename Fr _ _ _ _ => F1
          rename News _ _ _ _ => N1
          open_x
          refine' row_end ⟨a + 1, _, vs2, n2, tl, ds⟩ F1 N1 ?Tb0y ?Tb1y ?Tb2y ⟨place_snoc p1 (step_out (by omega)), p2, p3, p4, ?Tb6y⟩
          case Tb0y =>
            intro p hp
            rcases List.mem_cons.mp hp with rfl | hp
            · exact .head _
            · exact .tail _ (.tail _ hp)
          case Tb1y => intro p hp; rw [List.mem_singleton.mp hp]; rfl
          case Tb2y =>
            intro z h1 h2
            have h3 : z ≠ ("address" : Str) := h1 _ (.head _)
            simp only [List.contains_cons, List.contains_nil, Bool.or_false, Bool.or_eq_false_iff, beq_eq_false_iff_ne, ne_eq] at h2
            simp [h2, h3, kstB]
          case Tb6y => dsimp only; simp only [List.length_append, List.length_cons, List.length_nil]; omega
        · rename Fr _ _ _ _ => F1
          rename News _ _ _ _ => N1
          open_x
          refine' row_end ⟨a + 1, _, vs2, n2, tl, ds⟩ F1 N1 ?Tb0z ?Tb1z ?Tb2z ⟨place_snoc p1 (step_out (by omega)), p2, p3, p4, ?Tb6z⟩
          case Tb0z =>
            intro p hp
            rcases List.mem_cons.mp hp with rfl | hp
            · exact .head _
            · exact .tail _ (.tail _ hp)
          case Tb1z => intro p hp; rw [List.mem_singleton.mp hp]; rfl
          case Tb2z =>
            intro z h1 h2
            have h3 : z ≠ ("address" : Str) := h1 _ (.head _)
            simp only [List.contains_cons, List.contains_nil, Bool.or_false, Bool.or_eq_false_iff, beq_eq_false_iff_ne, ne_eq] at h2
            simp [h2, h3, kstB]
          case Tb6z => dsimp only; simp only [List.length_append, List.length_cons, List.length_nil]; omega
      · rename_i g
        dsimp only [gv] at N2
        open_k0
        · rename_i ex9 dx9 tx9 o49 es9 h9 tk9 F9 N9 l9 ne9 g19 g29
          rename (Mine.hd.heap_39 w.params).In _ => X9
          rename Below _ _ _ _ => B9
          refine ⟨_, _, _, rfl, (N9 _ (.head _)).1, X9.keeps F9.keep, ?_⟩
          show ek _ _
          dsimp only [ek]
          refine leave_newD (w := w) B9 F9 N9 (fun p hp => Nat.ne_of_lt (l9 p hp)) g19 g29 (fun h' R U => ?_) rfl
          refine exc ex9 _ h' _ ?_ (by assumption) U R.none
          rw [e]
          exact place_none p1 (step_far (by omega))
        · rename_i ex9 dx9 tx9 o49 es9 h9 tk9 F9 N9 l9 ne9 g19 g29
          rename (Mine.hd.heap_39 w.params).In _ => X9
          rename Below _ _ _ _ => B9
          refine ⟨_, _, _, rfl, (N9 _ (.head _)).1, X9.keeps F9.keep, ?_⟩
          show ek _ _
          dsimp only [ek]
          refine leave_newD (w := w) B9 F9 N9 (fun p hp => Nat.ne_of_lt (l9 p hp)) g19 g29 (fun h' R U => ?_) rfl
          refine exc ex9 _ h' _ ?_ (by assumption) U R.none
          rw [e]
          exact place_none p1 (step_far (by omega))
        · rename_i D z1 l9 z4 z5 F1 N1
          open_x
          rw [List.push_toArray] at N1
          refine' row_end ⟨(g : Int) + 1, _, vs2 ++ [.ref D], n2 + 1, (D, { cls := .type "tuple", data := .seq #[.int (g : Int) _, .str ⟨d.toArray⟩ _] }) :: tl, ds ++ [((g : Int), d)]⟩ F1 N1 ?Tb0w ?Tb1w ?Tb2w ⟨place_snoc p1 (step_given (by omega)), ?Tb3w, ?Tb4w, ?Tb5w, ?Tb6w⟩
          case Tb0w =>
            intro p hp
            rcases List.mem_cons.mp hp with rfl | hp
            · exact .tail _ (.head _)
            · rcases List.mem_cons.mp hp with rfl | hp
              · exact .head _
              · exact .tail _ (.tail _ (.tail _ hp))
          case Tb1w => intro p hp; rw [List.mem_singleton.mp hp]; rfl
          case Tb2w =>
            intro z h1 h2
            have h3 : z ≠ ("address" : Str) := h1 _ (.head _)
            simp only [List.contains_cons, List.contains_nil, Bool.or_false, Bool.or_eq_false_iff, beq_eq_false_iff_ne, ne_eq] at h2
            simp [h2, h3, kstB]
          case Tb3w => exact fun _ => spots_more (p2 trivial) (.head _) (fun _ h => .tail _ h)
          case Tb4w =>
            intro q hq
            rcases List.mem_cons.mp hq with rfl | hq
            · exact Nat.ne_of_gt l9.1
            · exact p3 q hq
          case Tb5w =>
            intro q hq
            rcases List.mem_cons.mp hq with rfl | hq
            · rfl
            · exact p4 q hq
          case Tb6w => dsimp only; simp only [List.length_append, List.length_cons, List.length_nil]; omega
    case Tq4 =>
      rintro ⟨a, ta, vs2, n2, tl, ds⟩ u h tk ⟨p1, p2, p3, p4, p5⟩ F N
      dsimp only at p1 p2 p3 p4 p5 F N
      open_k0
      rename Fr h₀ L _ _ => F1
      rename News h₀ L _ _ => N1
      exact ret pl n2 vs2 tl _ _ a ds p1 F1 N1 (p2 trivial) p4

theorem fresh_Counted : True := by
  w_top off
  trivial
set_option maxRecDepth 100000 in
set_option maxHeartbeats 8000000 in
theorem counted_spec {w : World} {p : Program} {loose : List Str} {mean : ExcName → Option Value} {mg mb : Str → Option Value}
  {dp un : Nat} {gd : Option (List Code)} {cn : Str} {cs : Scope} {a : Addr} {ccd : Value} {cl : List (Str × Addr)} {outer : List Env} {A₀ : Around} {base h₀ : Heap} {L : Addr} {m : Str → Option Value} {s : Shared}
  {Q E : Value → Shared → Prop}
  {start stop : Int} {ts tp : Tok} {rl : Addr} {vs : List Value} {n : Nat} {rows : List Row} {news : List (Addr × Obj)}
  (B : Below A₀ base outer h₀) (F : Fr h₀ L s.heap m) (X : (Mine.hd.heap_39 w.params).In h₀)
  (N : News h₀ L s.heap news) (T : Top p loose mean mg mb h₀)
  (hk : cs.kind = .function) (hd : dp + 16 < recursionLimit) (hu : un + 128 < cLine)
  (hm : (rl, PySem.W.listOf vs.toArray n) ∈ news) (hr : True → DatAll news vs (rows.map rowD)) (hl : rows.length ≤ 1000)
  (ret : ∀ pl n vs2 tl h' tk' z out, placeL start stop rows = some (z, out) → Fr h₀ L h' m → News h₀ L h' ((pl, PySem.W.listOf vs2.toArray n) :: (tl ++ news)) → DatAll tl vs2 (out.map spotD) → (∀ q ∈ tl, q.2.cls = .type "tuple") → Q (.ref pl) { s with heap := h', toks := tk' })
  (non : ∀ h' tk', placeL start stop rows = none → Fr h₀ L h' m → News h₀ L h' news → Q .none { s with heap := h', toks := tk' }) :
  wpAny (model PR w) (ktrTop dp un gd cn cs L a ccd cl outer) (call (.ref 117) [.ref rl, .int start ts, .int stop tp]) Q E s := by
  unfold PR; revert X; k_fill; intro X
  refine wpAny_call ?_
  k_dflt ktr_enter
  by_cases hlt : stop < start
  · open_k0
    rename_i pl h1 l1 _ F9 N9 _ _
    have hst : stepOf start stop = (-1) := by unfold stepOf; rw [if_pos hlt]
    unfold placeL at ret non
    rw [hst] at ret non
    generalize hlow : (if stop < start then stop else start) = low at *
    generalize hhigh : (if stop > start then stop else start) = high at *
    have hl1 : ∀ q ∈ news, q.1 ≠ pl := fun q hq => Nat.ne_of_lt (l1 q hq)
    with_unfolding_all refine' For_turns F9 ?_
    open_k0
    rename Fr _ _ _ _ => F9
    rename News _ _ _ _ => N9
    refine' rows_turns (σ := PS) (cst := news) (fun c => (pl, PySem.W.listOf c.vs.toArray c.n) :: c.tl) (fun c => [(("spot" : Str), .int c.a c.ta)]) ["given", "digits"]
      (fun pre c => pre.foldlM (placeStep low high (-1)) (start, []) = some (c.a, c.ds) ∧ (True → DatAll c.tl c.vs (c.ds.map spotD)) ∧ (∀ q ∈ c.tl, q.1 ≠ pl) ∧ (∀ q ∈ c.tl, q.2.cls = .type "tuple") ∧ c.vs.length ≤ pre.length) ⟨start, ts, [], 0, [], []⟩ rfl F9 N9 hm (hr trivial) ?q1 ⟨rfl, (fun _ => .nil), (fun _ h => nomatch h), (fun _ h => nomatch h), Nat.le_refl _⟩ ?q2 ?q3 ?q4
    case q1 => intro p hp; rw [List.mem_singleton.mp hp]; rfl
    case q2 =>
      rintro pre c ⟨_, _, _, z, _⟩ p hp e
      rcases List.mem_cons.mp hp with rfl | hp
      · have e' := Value.type.inj e; revert e'; decide
      · rw [z p hp] at e; have e' := Value.type.inj e; revert e'; decide
    case q3 =>
      rintro ⟨a, ta, vs2, n2, tl, ds⟩ pre ⟨g, d⟩ post v u h tk own e hv off ⟨p1, p2, p3, p4, p5⟩ F N
      dsimp only at off p1 p2 p3 p4 p5 F N
      obtain ⟨T, tg, td, nn, rfl, hT⟩ := row_in hv
      have ho : ∀ q ∈ own, q.1 ≠ pl := off _ (.head _)
      have hTp : T ≠ pl := hl1 _ hT
      have hall : ∀ q ∈ tl ++ (news ++ own), q.1 ≠ pl := fun q hq => by
        rcases List.mem_append.mp hq with hq | hq
        · exact p3 q hq
        · rcases List.mem_append.mp hq with hq | hq
          · exact hl1 q hq
          · exact ho q hq
      have N2 : News _ _ h ((pl, PySem.W.listOf vs2.toArray n2) :: (T, ({ cls := .type "tuple", data := .seq #[gv g tg, .str ⟨d.toArray⟩ td] nn } : Obj)) :: (tl ++ (news ++ own))) := fun q hq => N q (by
        rcases List.mem_cons.mp hq with rfl | hq
        · exact .head _
        · rcases List.mem_cons.mp hq with rfl | hq
          · exact .tail _ (List.mem_append.mpr (.inr (List.mem_append.mpr (.inl hT))))
          · exact .tail _ hq)
      clear N
      have hlen : pre.length + 1 ≤ 1000 := by
        have h9 : rows.length = (pre ++ (g, d) :: post).length := by rw [← e]
        simp only [List.length_append, List.length_cons] at h9
        omega
      cases g
      · dsimp only [gv] at N2
        open_k0
        · rename_i D z1 l9 z4 z5 F1 N1
          open_x
          rw [List.push_toArray] at N1
          refine' row_end ⟨a + (-1), _, vs2 ++ [.ref D], n2 + 1, (D, { cls := .type "tuple", data := .seq #[.int a _, .str ⟨d.toArray⟩ _] }) :: tl, ds ++ [(a, d)]⟩ F1 N1 ?b0x ?b1x ?b2x ⟨place_snoc p1 (step_in (by assumption) (by assumption)), ?b3x, ?b4x, ?b5x, ?b6x⟩
          case b0x =>
            intro p hp
            rcases List.mem_cons.mp hp with rfl | hp
            · exact .tail _ (.head _)
            · rcases List.mem_cons.mp hp with rfl | hp
              · exact .head _
              · exact .tail _ (.tail _ (.tail _ hp))
          case b1x => intro p hp; rw [List.mem_singleton.mp hp]; rfl
          case b2x =>
            intro z h1 h2
            have h3 : z ≠ ("spot" : Str) := h1 _ (.head _)
            simp only [List.contains_cons, List.contains_nil, Bool.or_false, Bool.or_eq_false_iff, beq_eq_false_iff_ne, ne_eq] at h2
            simp [h2, h3, kstB]
          case b3x => exact fun _ => spots_more (p2 trivial) (.head _) (fun _ h => .tail _ h)
          case b4x =>
            intro q hq
            rcases List.mem_cons.mp hq with rfl | hq
            · exact Nat.ne_of_gt l9.1
            · exact p3 q hq
          case b5x =>
            intro q hq
            rcases List.mem_cons.mp hq with rfl | hq
            · rfl
            · exact p4 q hq
          case b6x => dsimp only; simp only [List.length_append, List.length_cons, List.length_nil]; omega
        · rename Fr _ _ _ _ => F1
          rename News _ _ _ _ => N1
          open_x
          refine' row_end ⟨a + (-1), _, vs2, n2, tl, ds⟩ F1 N1 ?b0y ?b1y ?b2y ⟨place_snoc p1 (step_out (by omega)), p2, p3, p4, ?b6y⟩
          case b0y =>
            intro p hp
            rcases List.mem_cons.mp hp with rfl | hp
            · exact .head _
            · exact .tail _ (.tail _ hp)
          case b1y => intro p hp; rw [List.mem_singleton.mp hp]; rfl
          case b2y =>
            intro z h1 h2
            have h3 : z ≠ ("spot" : Str) := h1 _ (.head _)
            simp only [List.contains_cons, List.contains_nil, Bool.or_false, Bool.or_eq_false_iff, beq_eq_false_iff_ne, ne_eq] at h2
            simp [h2, h3, kstB]
          case b6y => dsimp only; simp only [List.length_append, List.length_cons, List.length_nil]; omega
        · rename Fr _ _ _ _ => F1
          rename News _ _ _ _ => N1
          open_x
          refine' row_end ⟨a + (-1), _, vs2, n2, tl, ds⟩ F1 N1 ?b0z ?b1z ?b2z ⟨place_snoc p1 (step_out (by omega)), p2, p3, p4, ?b6z⟩
          case b0z =>
            intro p hp
            rcases List.mem_cons.mp hp with rfl | hp
            · exact .head _
            · exact .tail _ (.tail _ hp)
          case b1z => intro p hp; rw [List.mem_singleton.mp hp]; rfl
          case b2z =>
            intro z h1 h2
            have h3 : z ≠ ("spot" : Str) := h1 _ (.head _)
            simp only [List.contains_cons, List.contains_nil, Bool.or_false, Bool.or_eq_false_iff, beq_eq_false_iff_ne, ne_eq] at h2
            simp [h2, h3, kstB]
          case b6z => dsimp only; simp only [List.length_append, List.length_cons, List.length_nil]; omega
      · rename_i g
        dsimp only [gv] at N2
        open_k0
        · rename_i D z1 l9 z4 z5 F1 N1
          open_x
          rw [List.push_toArray] at N1
          refine' row_end ⟨(g : Int) + (-1), _, vs2 ++ [.ref D], n2 + 1, (D, { cls := .type "tuple", data := .seq #[.int (g : Int) _, .str ⟨d.toArray⟩ _] }) :: tl, ds ++ [((g : Int), d)]⟩ F1 N1 ?b0w ?b1w ?b2w ⟨place_snoc p1 (step_given (by omega)), ?b3w, ?b4w, ?b5w, ?b6w⟩
          case b0w =>
            intro p hp
            rcases List.mem_cons.mp hp with rfl | hp
            · exact .tail _ (.head _)
            · rcases List.mem_cons.mp hp with rfl | hp
              · exact .head _
              · exact .tail _ (.tail _ (.tail _ hp))
          case b1w => intro p hp; rw [List.mem_singleton.mp hp]; rfl
          case b2w =>
            intro z h1 h2
            have h3 : z ≠ ("spot" : Str) := h1 _ (.head _)
            simp only [List.contains_cons, List.contains_nil, Bool.or_false, Bool.or_eq_false_iff, beq_eq_false_iff_ne, ne_eq] at h2
            simp [h2, h3, kstB]
          case b3w => exact fun _ => spots_more (p2 trivial) (.head _) (fun _ h => .tail _ h)
          case b4w =>
            intro q hq
            rcases List.mem_cons.mp hq with rfl | hq
            · exact Nat.ne_of_gt l9.1
            · exact p3 q hq
          case b5w =>
            intro q hq
            rcases List.mem_cons.mp hq with rfl | hq
            · rfl
            · exact p4 q hq
          case b6w => dsimp only; simp only [List.length_append, List.length_cons, List.length_nil]; omega
        · open_x
          dsimp only [RowEnd]
          open_k0
          rename Fr h₀ L _ _ => F1
          rename News h₀ L _ _ => N1
          exact non _ _ (by rw [e]; exact place_none p1 (step_far (by omega))) F1 (fun p hp => N1 p (.tail _ (.tail _ (List.mem_append.mpr (.inr (List.mem_append.mpr (.inl hp)))))))
        · open_x
          dsimp only [RowEnd]
          open_k0
          rename Fr h₀ L _ _ => F1
          rename News h₀ L _ _ => N1
          exact non _ _ (by rw [e]; exact place_none p1 (step_far (by omega))) F1 (fun p hp => N1 p (.tail _ (.tail _ (List.mem_append.mpr (.inr (List.mem_append.mpr (.inl hp)))))))
    case q4 =>
      rintro ⟨a, ta, vs2, n2, tl, ds⟩ u h tk ⟨p1, p2, p3, p4, p5⟩ F N
      dsimp only at p1 p2 p3 p4 p5 F N
      open_k0
      rename Fr h₀ L _ _ => F1
      rename News h₀ L _ _ => N1
      exact ret pl n2 vs2 tl _ _ a ds p1 F1 N1 (p2 trivial) p4
  · open_k0
    rename_i pl h1 l1 _ F9 N9 _ _
    have hst : stepOf start stop = 1 := by unfold stepOf; rw [if_neg hlt]
    unfold placeL at ret non
    rw [hst] at ret non
    generalize hlow : (if stop < start then stop else start) = low at *
    generalize hhigh : (if stop > start then stop else start) = high at *
    have hl1 : ∀ q ∈ news, q.1 ≠ pl := fun q hq => Nat.ne_of_lt (l1 q hq)
    with_unfolding_all refine' For_turns F9 ?_
    open_k0
    rename Fr _ _ _ _ => F9
    rename News _ _ _ _ => N9
    refine' rows_turns (σ := PS) (cst := news) (fun c => (pl, PySem.W.listOf c.vs.toArray c.n) :: c.tl) (fun c => [(("spot" : Str), .int c.a c.ta)]) ["given", "digits"]
      (fun pre c => pre.foldlM (placeStep low high 1) (start, []) = some (c.a, c.ds) ∧ (True → DatAll c.tl c.vs (c.ds.map spotD)) ∧ (∀ q ∈ c.tl, q.1 ≠ pl) ∧ (∀ q ∈ c.tl, q.2.cls = .type "tuple") ∧ c.vs.length ≤ pre.length) ⟨start, ts, [], 0, [], []⟩ rfl F9 N9 hm (hr trivial) ?Tq1 ⟨rfl, (fun _ => .nil), (fun _ h => nomatch h), (fun _ h => nomatch h), Nat.le_refl _⟩ ?Tq2 ?Tq3 ?Tq4
    case Tq1 => intro p hp; rw [List.mem_singleton.mp hp]; rfl
    case Tq2 =>
      rintro pre c ⟨_, _, _, z, _⟩ p hp e
      rcases List.mem_cons.mp hp with rfl | hp
      · have e' := Value.type.inj e; revert e'; decide
      · rw [z p hp] at e; have e' := Value.type.inj e; revert e'; decide
    case Tq3 =>
      rintro ⟨a, ta, vs2, n2, tl, ds⟩ pre ⟨g, d⟩ post v u h tk own e hv off ⟨p1, p2, p3, p4, p5⟩ F N
      dsimp only at off p1 p2 p3 p4 p5 F N
      obtain ⟨T, tg, td, nn, rfl, hT⟩ := row_in hv
      have ho : ∀ q ∈ own, q.1 ≠ pl := off _ (.head _)
      have hTp : T ≠ pl := hl1 _ hT
      have hall : ∀ q ∈ tl ++ (news ++ own), q.1 ≠ pl := fun q hq => by
        rcases List.mem_append.mp hq with hq | hq
        · exact p3 q hq
        · rcases List.mem_append.mp hq with hq | hq
          · exact hl1 q hq
          · exact ho q hq
      have N2 : News _ _ h ((pl, PySem.W.listOf vs2.toArray n2) :: (T, ({ cls := .type "tuple", data := .seq #[gv g tg, .str ⟨d.toArray⟩ td] nn } : Obj)) :: (tl ++ (news ++ own))) := fun q hq => N q (by
        rcases List.mem_cons.mp hq with rfl | hq
        · exact .head _
        · rcases List.mem_cons.mp hq with rfl | hq
          · exact .tail _ (List.mem_append.mpr (.inr (List.mem_append.mpr (.inl hT))))
          · exact .tail _ hq)
      clear N
      have hlen : pre.length + 1 ≤ 1000 := by
        have h9 : rows.length = (pre ++ (g, d) :: post).length := by rw [← e]
        simp only [List.length_append, List.length_cons] at h9
        omega
      cases g
      · dsimp only [gv] at N2
        open_k0
        · rename_i D z1 l9 z4 z5 F1 N1
          open_x
          rw [List.push_toArray] at N1
          refine' row_end ⟨a + 1, _, vs2 ++ [.ref D], n2 + 1, (D, { cls := .type "tuple", data := .seq #[.int a _, .str ⟨d.toArray⟩ _] }) :: tl, ds ++ [(a, d)]⟩ F1 N1 ?Tb0x ?Tb1x ?Tb2x ⟨place_snoc p1 (step_in (by assumption) (by assumption)), ?Tb3x, ?Tb4x, ?Tb5x, ?Tb6x⟩
          case Tb0x =>
            intro p hp
            rcases List.mem_cons.mp hp with rfl | hp
            · exact .tail _ (.head _)
            · rcases List.mem_cons.mp hp with rfl | hp
              · exact .head _
              · exact .tail _ (.tail _ (.tail _ hp))
          case Tb1x => intro p hp; rw [List.mem_singleton.mp hp]; rfl
          case Tb2x =>
            intro z h1 h2
            have h3 : z ≠ ("spot" : Str) := h1 _ (.head _)
            simp only [List.contains_cons, List.contains_nil, Bool.or_false, Bool.or_eq_false_iff, beq_eq_false_iff_ne, ne_eq] at h2
            simp [h2, h3, kstB]
          case Tb3x => exact fun _ => spots_more (p2 trivial) (.head _) (fun _ h => .tail _ h)
          case Tb4x =>
            intro q hq
            rcases List.mem_cons.mp hq with rfl | hq
            · exact Nat.ne_of_gt l9.1
            · exact p3 q hq
          case Tb5x =>
            intro q hq
            rcases List.mem_cons.mp hq with rfl | hq
            · rfl
            · exact p4 q hq
          case Tb6x => dsimp only; simp only [List.length_append, List.length_cons, List.length_nil]; omega
        · rename Fr _ _ _ _ => F1
          rename News _ _ _ _ => N1
          open_x
          refine' row_end ⟨a + 1, _, vs2, n2, tl, ds⟩ F1 N1 ?Tb0y ?Tb1y ?Tb2y ⟨place_snoc p1 (step_out (by omega)), p2, p3, p4, ?Tb6y⟩
          case Tb0y =>
            intro p hp
            rcases List.mem_cons.mp hp with rfl | hp
            · exact .head _
            · exact .tail _ (.tail _ hp)
          case Tb1y => intro p hp; rw [List.mem_singleton.mp hp]; rfl
          case Tb2y =>
            intro z h1 h2
            have h3 : z ≠ ("spot" : Str) := h1 _ (.head _)
            simp only [List.contains_cons, List.contains_nil, Bool.or_false, Bool.or_eq_false_iff, beq_eq_false_iff_ne, ne_eq] at h2
            simp [h2, h3, kstB]
          case Tb6y => dsimp only; simp only [List.length_append, List.length_cons, List.length_nil]; omega
        · rename Fr _ _ _ _ => F1
          rename News _ _ _ _ => N1
          open_x
          refine' row_end ⟨a + 1, _, vs2, n2, tl, ds⟩ F1 N1 ?Tb0z ?Tb1z ?Tb2z ⟨place_snoc p1 (step_out (by omega)), p2, p3, p4, ?Tb6z⟩
          case Tb0z =>
            intro p hp
            rcases List.mem_cons.mp hp with rfl | hp
            · exact .head _
            · exact .tail _ (.tail _ hp)
          case Tb1z => intro p hp; rw [List.mem_singleton.mp hp]; rfl
          case Tb2z =>
            intro z h1 h2
            have h3 : z ≠ ("spot" : Str) := h1 _ (.head _)
            simp only [List.contains_cons, List.contains_nil, Bool.or_false, Bool.or_eq_false_iff, beq_eq_false_iff_ne, ne_eq] at h2
            simp [h2, h3, kstB]
          case Tb6z => dsimp only; simp only [List.length_append, List.length_cons, List.length_nil]; omega
      · rename_i g
        dsimp only [gv] at N2
        open_k0
        · rename_i D z1 l9 z4 z5 F1 N1
          open_x
          rw [List.push_toArray] at N1
          refine' row_end ⟨(g : Int) + 1, _, vs2 ++ [.ref D], n2 + 1, (D, { cls := .type "tuple", data := .seq #[.int (g : Int) _, .str ⟨d.toArray⟩ _] }) :: tl, ds ++ [((g : Int), d)]⟩ F1 N1 ?Tb0w ?Tb1w ?Tb2w ⟨place_snoc p1 (step_given (by omega)), ?Tb3w, ?Tb4w, ?Tb5w, ?Tb6w⟩
          case Tb0w =>
            intro p hp
            rcases List.mem_cons.mp hp with rfl | hp
            · exact .tail _ (.head _)
            · rcases List.mem_cons.mp hp with rfl | hp
              · exact .head _
              · exact .tail _ (.tail _ (.tail _ hp))
          case Tb1w => intro p hp; rw [List.mem_singleton.mp hp]; rfl
          case Tb2w =>
            intro z h1 h2
            have h3 : z ≠ ("spot" : Str) := h1 _ (.head _)
            simp only [List.contains_cons, List.contains_nil, Bool.or_false, Bool.or_eq_false_iff, beq_eq_false_iff_ne, ne_eq] at h2
            simp [h2, h3, kstB]
          case Tb3w => exact fun _ => spots_more (p2 trivial) (.head _) (fun _ h => .tail _ h)
          case Tb4w =>
            intro q hq
            rcases List.mem_cons.mp hq with rfl | hq
            · exact Nat.ne_of_gt l9.1
            · exact p3 q hq
          case Tb5w =>
            intro q hq
            rcases List.mem_cons.mp hq with rfl | hq
            · rfl
            · exact p4 q hq
          case Tb6w => dsimp only; simp only [List.length_append, List.length_cons, List.length_nil]; omega
        · open_x
          dsimp only [RowEnd]
          open_k0
          rename Fr h₀ L _ _ => F1
          rename News h₀ L _ _ => N1
          exact non _ _ (by rw [e]; exact place_none p1 (step_far (by omega))) F1 (fun p hp => N1 p (.tail _ (.tail _ (List.mem_append.mpr (.inr (List.mem_append.mpr (.inl hp)))))))
        · open_x
          dsimp only [RowEnd]
          open_k0
          rename Fr h₀ L _ _ => F1
          rename News h₀ L _ _ => N1
          exact non _ _ (by rw [e]; exact place_none p1 (step_far (by omega))) F1 (fun p hp => N1 p (.tail _ (.tail _ (List.mem_append.mpr (.inr (List.mem_append.mpr (.inl hp)))))))
    case Tq4 =>
      rintro ⟨a, ta, vs2, n2, tl, ds⟩ u h tk ⟨p1, p2, p3, p4, p5⟩ F N
      dsimp only at p1 p2 p3 p4 p5 F N
      open_k0
      rename Fr h₀ L _ _ => F1
      rename News h₀ L _ _ => N1
      exact ret pl n2 vs2 tl _ _ a ds p1 F1 N1 (p2 trivial) p4

theorem fresh_Plain5 : True := by
  w_top off
  trivial
/-! what the law builds is read back -/
def plainc (c : Nat) : Bool := !blank c && c != 47
theorem gap_plain {c : Nat} {r : List Nat} (h : plainc c = true) : gapL (c :: r) = some 0 := by
  unfold plainc at h
  rw [Bool.and_eq_true, Bool.not_eq_true', bne_iff_ne] at h
  simp [gapL, h.1, h.2]
theorem scan_word : ∀ (w g : List Nat), (∀ c ∈ w, plainc c = true) → scanL g = (0, false) → scanL (w ++ g) = (w.length, false)
  | [], g, _, h => h
  | c :: r, g, hw, h => by
    rw [List.cons_append, scan_more rfl (gap_plain (hw c (.head _))), scan_word r g (fun d hd => hw d (.tail _ hd)) h]
    rfl
def Pass (hx : Bool) (i : Nat) (l : List Nat) (a : Option Nat) (r : List Row) (a' : Option Nat) (r' : List Row) : Prop := ∀ q O, Reads hx (i + l.length) q a' r' O → Reads hx i (l ++ q) a r O
theorem Pass.nil {hx : Bool} {i : Nat} {a : Option Nat} {r : List Row} : Pass hx i [] a r a r := fun _ _ h => h
theorem Pass.trans {hx : Bool} {i : Nat} {l l2 : List Nat} {a a' a2 : Option Nat} {r r' r2 : List Row} (h : Pass hx i l a r a' r') (k : Pass hx (i + l.length) l2 a' r' a2 r2) : Pass hx i (l ++ l2) a r a2 r2 := fun q O z => by
  rw [List.append_assoc]
  refine h _ _ (k _ _ ?_)
  rw [List.length_append, ← Nat.add_assoc] at z
  exact z
theorem pass_gap {hx : Bool} {i : Nat} {p : List Nat} {a : Option Nat} {r : List Row} (hp : p ≠ []) (h : ∀ q, gapL (p ++ q) = some p.length) : Pass hx i p a r a r := fun q O z => by
  have hl : p.length ≠ 0 := fun e => hp (List.eq_nil_of_length_eq_zero e)
  refine Reads.gap (fun e => hp (List.append_eq_nil_iff.mp e).1) (step_gap (h q) hl) ?_
  rw [List.drop_left]
  exact z
theorem pass_line {hx : Bool} {i : Nat} {p : List Nat} {a : Option Nat} {r : List Row} (hp : p ≠ []) (h : ∀ q, gapL (p ++ 10 :: q) = some p.length) : Pass hx i (p ++ [10]) a r a r := fun q O z => by
  have hl : p.length ≠ 0 := fun e => hp (List.eq_nil_of_length_eq_zero e)
  rw [List.append_assoc]
  refine Reads.gap (fun e => hp (List.append_eq_nil_iff.mp e).1) (step_gap (h q) hl) ?_
  rw [List.drop_left]
  refine Reads.gap (List.cons_ne_nil _ _) (step_gap (n := 1) rfl (by decide)) ?_
  rw [List.length_append] at z
  exact z
def GapText (g : List Nat) : Prop := (∀ q, ∃ n, gapL (g ++ q) = some (n + 1)) ∧ ∀ hx i a r, Pass hx i g a r a r
theorem gaps_ok {x : Str} (h : x ∈ gaps) : GapText (lst x) := by
  unfold gaps at h
  simp only [List.mem_cons, List.not_mem_nil, or_false] at h
  rcases h with rfl | rfl | rfl | rfl | rfl | rfl
  · rw [show lst (" " : Str) = [32] from by decide +kernel]
    exact ⟨fun q => ⟨0, rfl⟩, fun hx i a r => pass_gap (by decide) fun q => rfl⟩
  · rw [show lst ("\n" : Str) = [10] from by decide +kernel]
    exact ⟨fun q => ⟨0, rfl⟩, fun hx i a r => pass_gap (by decide) fun q => rfl⟩
  · rw [show lst ("\t\r\n" : Str) = [9] ++ ([13] ++ [10]) from by decide +kernel]
    exact ⟨fun q => ⟨0, rfl⟩, fun hx i a r => (pass_gap (by decide) fun q => rfl).trans ((pass_gap (by decide) fun q => rfl).trans (pass_gap (by decide) fun q => rfl))⟩
  · rw [show lst (" // @3 x\n" : Str) = [32] ++ ([47, 47, 32, 64, 51, 32, 120] ++ [10]) from by decide +kernel]
    exact ⟨fun q => ⟨0, rfl⟩, fun hx i a r => (pass_gap (by decide) fun q => rfl).trans (pass_line (by decide) fun q => rfl)⟩
  · rw [show lst ("/* 1 */" : Str) = [47, 42, 32, 49, 32, 42, 47] from by decide +kernel]
    exact ⟨fun q => ⟨6, rfl⟩, fun hx i a r => pass_gap (by decide) fun q => rfl⟩
  · rw [show lst ("\n/* @ ** /\n*/ " : Str) = [10] ++ ([47, 42, 32, 64, 32, 42, 42, 32, 47, 10, 42, 47] ++ [32]) from by decide +kernel]
    exact ⟨fun q => ⟨0, rfl⟩, fun hx i a r => (pass_gap (by decide) fun q => rfl).trans ((pass_gap (by decide) fun q => rfl).trans (pass_gap (by decide) fun q => rfl))⟩
theorem gaps_len {x : Str} (h : x ∈ gaps) : x.length ≤ 14 := by
  unfold gaps at h
  simp only [List.mem_cons, List.not_mem_nil, or_false] at h
  rcases h with rfl | rfl | rfl | rfl | rfl | rfl <;> decide +kernel
theorem gaps_lt {x : Str} (h : x ∈ gaps) : ∀ c ∈ lst x, c < 128 := by
  unfold gaps at h
  simp only [List.mem_cons, List.not_mem_nil, or_false] at h
  rcases h with rfl | rfl | rfl | rfl | rfl | rfl <;> decide +kernel
theorem step_text {hx : Bool} {w g q : List Nat} (hw : ∀ c ∈ w, plainc c = true) (hne : w ≠ []) (hg : GapText g) : stepL hx (w ++ (g ++ q)) = stepW hx w.length (w.map lo1) := by
  obtain ⟨n, hn⟩ := hg.1 q
  have hs : scanL (w ++ (g ++ q)) = (w.length, false) := scan_word w (g ++ q) hw (scan_stop hn (Nat.succ_ne_zero _))
  have h0 : gapL (w ++ (g ++ q)) = some 0 := by
    cases w with
    | nil => exact absurd rfl hne
    | cons c r => exact gap_plain (hw c (.head _))
  rw [step_word h0 hs, List.take_left]
theorem pass_word {hx : Bool} {i : Nat} {w g d : List Nat} {a : Option Nat} {r : List Row} (hw : ∀ c ∈ w, plainc c = true) (hne : w ≠ []) (hg : GapText g) (hs : stepW hx w.length (w.map lo1) = .row w.length d) :
    Pass hx i (w ++ g) a r none (r ++ [(a, d)]) := fun q O z => by
  rw [List.append_assoc]
  refine Reads.row (fun e => hne (List.append_eq_nil_iff.mp e).1) ((step_text hw hne hg).trans hs) ?_
  rw [List.drop_left]
  refine hg.2 _ _ _ _ _ _ ?_
  rw [List.length_append, ← Nat.add_assoc] at z
  exact z
theorem pass_addr {hx : Bool} {i v : Nat} {w g : List Nat} {a : Option Nat} {r : List Row} (hw : ∀ c ∈ w, plainc c = true) (hne : w ≠ []) (hg : GapText g) (hs : stepW hx w.length (w.map lo1) = .addr w.length v) :
    Pass hx i (w ++ g) a r (some v) r := fun q O z => by
  rw [List.append_assoc]
  refine Reads.addr (fun e => hne (List.append_eq_nil_iff.mp e).1) ((step_text hw hne hg).trans hs) ?_
  rw [List.drop_left]
  refine hg.2 _ _ _ _ _ _ ?_
  rw [List.length_append, ← Nat.add_assoc] at z
  exact z
theorem digs_ok (b : Bool) : ∀ c ∈ digs b, lo1 c ≠ 64 ∧ lo1 c ≠ 95 ∧ lo1 c ∈ allowed b := by cases b <;> decide
theorem more_ok (b : Bool) : ∀ c ∈ 95 :: digs b, plainc c = true ∧ c < 128 ∧ (lo1 c = 95 ∨ lo1 c ∈ allowed b) := by cases b <;> decide
theorem word_plain {b : Bool} {x : Str} (h : WordOk b x) : (∀ c ∈ lst x, plainc c = true) ∧ lst x ≠ [] ∧ ∀ c ∈ lst x, c < 128 := by
  obtain ⟨c, r, e, hc, hr⟩ := h
  have key : ∀ d ∈ lst x, d ∈ 95 :: digs b := by
    rw [e]
    intro d hd
    rcases List.mem_cons.mp hd with rfl | hd
    · exact .tail _ hc
    · exact hr d hd
  exact ⟨fun d hd => (more_ok b d (key d hd)).1, by rw [e]; exact List.cons_ne_nil _ _, fun d hd => (more_ok b d (key d hd)).2.1⟩
theorem word_step {b : Bool} {x : Str} {n : Nat} (h : WordOk b x) : stepW b n ((lst x).map lo1) = .row n (((lst x).map lo1).filter (· != 95)) := by
  obtain ⟨c, r, e, hc, hr⟩ := h
  obtain ⟨h1, h2, h3⟩ := digs_ok b c hc
  rw [e]
  unfold stepW
  have hh : ¬ ((List.map lo1 (c :: r)).head? = some 64) := by simpa using h1
  have hf : fitsL b ((List.map lo1 (c :: r)).filter (· != 95)) = true := by
    unfold fitsL
    rw [Bool.and_eq_true]
    constructor
    · have : (lo1 c != 95) = true := by simpa using h2
      simp [List.filter_cons, this]
    · rw [List.all_eq_true]
      intro d hd
      obtain ⟨hd1, hd2⟩ := List.mem_filter.mp hd
      obtain ⟨z, hz, rfl⟩ := List.mem_map.mp hd1
      have hz2 : z ∈ 95 :: digs b := by
        rcases List.mem_cons.mp hz with rfl | hz
        · exact .tail _ hc
        · exact hr z hz
      rcases (more_ok b z hz2).2.2 with q | q
      · rw [q] at hd2; exact absurd hd2 (by decide)
      · simpa using q
  rw [if_neg hh, hf, if_pos rfl]
theorem word_digits {b : Bool} {x : Str} (h : WordOk b x) : lst (strike (Txt.lower x)) = ((lst x).map lo1).filter (· != 95) := by
  unfold strike
  rw [lst_strike, lst_lower (word_plain h).2.2]
/-- an address as the law writes it -/
def AddrOk (x : Str) (v : Nat) : Prop := ∃ r, lst x = 64 :: r ∧ (∀ c ∈ lst x, plainc c = true ∧ c < 128) ∧ addrL (r.map lo1) = some v
theorem addr_step {hx : Bool} {x : Str} {v n : Nat} (h : AddrOk x v) : stepW hx n ((lst x).map lo1) = .addr n v := by
  obtain ⟨r, e, _, h2⟩ := h
  rw [e]
  unfold stepW
  have hh : (List.map lo1 (64 :: r)).head? = some 64 := rfl
  have ht : (List.map lo1 (64 :: r)).tail = r.map lo1 := rfl
  rw [if_pos hh, ht, h2]
def upc (n : Nat) : Nat := if n < 10 then 48 + n else 55 + n
theorem up_is : ∀ n : Nat, n < 16 → lst (Txt.upper (Txt.item ("0123456789abcdef" : Str) (n : Int))) = [upc n] := by decide +kernel
theorem pre_ok : ∀ n : Nat, n < 16 → ∀ p ∈ [[], [48], [48, 95]], (∀ c ∈ 64 :: (p ++ [upc n]), plainc c = true ∧ c < 128) ∧ addrL ((p ++ [upc n]).map lo1) = some n := by decide +kernel
def pres : List Str := ["", "0", "0_"]
theorem addr_low {P : Str} {k : Int} (hP : P ∈ pres) (h0 : 0 ≤ k) (h1 : k < 16) : AddrOk (("@" : Str) ++ P ++ Txt.upper (Txt.item ("0123456789abcdef" : Str) k)) k.toNat := by
  obtain ⟨n, rfl⟩ : ∃ n : Nat, k = (n : Int) := ⟨k.toNat, by omega⟩
  have hn : n < 16 := by omega
  have hp : lst P ∈ [[], [48], [48, 95]] := by
    unfold pres at hP
    simp only [List.mem_cons, List.not_mem_nil, or_false] at hP
    rcases hP with rfl | rfl | rfl <;> decide +kernel
  have e : lst (("@" : Str) ++ P ++ Txt.upper (Txt.item ("0123456789abcdef" : Str) (n : Int))) = 64 :: (lst P ++ [upc n]) := by
    rw [lst_append, lst_append, up_is n hn, show lst ("@" : Str) = [64] from by decide +kernel]
    rfl
  obtain ⟨q1, q2⟩ := pre_ok n hn _ hp
  exact ⟨_, e, by rw [e]; exact q1, by rw [Int.toNat_natCast]; exact q2⟩
theorem addr_len {P : Str} {k : Int} (hP : P ∈ pres) (h0 : 0 ≤ k) (h1 : k < 16) : (("@" : Str) ++ P ++ Txt.upper (Txt.item ("0123456789abcdef" : Str) k)).length ≤ 4 := by
  obtain ⟨n, rfl⟩ : ∃ n : Nat, k = (n : Int) := ⟨k.toNat, by omega⟩
  have hn : n < 16 := by omega
  have hp : (lst P).length ≤ 2 := by
    unfold pres at hP
    simp only [List.mem_cons, List.not_mem_nil, or_false] at hP
    rcases hP with rfl | rfl | rfl <;> decide +kernel
  rw [← lst_length, lst_append, lst_append, up_is n hn, show lst ("@" : Str) = [64] from by decide +kernel]
  simp only [List.length_append, List.length_cons, List.length_nil]
  omega
theorem fault1 (hx : Bool) : stepL hx [49, 103, 48] = .err "bad_word" 0 := by cases hx <;> rfl
theorem fault2 (hx : Bool) : stepL hx [95] = .err "bad_word" 0 := by cases hx <;> rfl
theorem fault3 (hx : Bool) : stepL hx [64] = .err "bad_address" 0 := by cases hx <;> rfl
theorem fault4 (hx : Bool) : stepL hx [64, 49, 122] = .err "bad_address" 0 := by cases hx <;> rfl
theorem fault5 (hx : Bool) : stepL hx [64, 95] = .err "bad_address" 0 := by cases hx <;> rfl
theorem fault6 (hx : Bool) : stepL hx [47, 42, 32, 49] = .err "unfinished_remark" 0 := by cases hx <;> rfl
theorem fault7 (hx : Bool) : stepL hx [49, 47, 42] = .err "unfinished_remark" 1 := by cases hx <;> rfl
theorem fault8 (hx : Bool) : stepL hx [48, 47, 49] = .err "bad_word" 0 := by cases hx <;> rfl
/-- where the law stands between two turns -/
structure LS where
  x : Str
  tx : Tok
  a : Option Nat
  ta : Tok
  vs : List Value
  n : Nat
  ds : List Row
  i : Int
  ti : Tok
  mx : Int
  tm : Tok
theorem start_pass (b : Bool) : Pass b 0 (lst ("" : Str)) none [] none [] := by
  rw [show lst ("" : Str) = [] from by decide +kernel]
  exact Pass.nil
theorem start_lt : ∀ c ∈ lst ("" : Str), c < 128 := by decide +kernel
theorem law_word {b : Bool} {x xw xg : Str} {a : Option Nat} {ds : List Row} (h : True → Pass b 0 (lst x) none [] a ds) (hw : WordOk b xw) (hg : xg ∈ gaps) :
    True → Pass b 0 (lst (x ++ xw ++ xg)) none [] none (ds ++ [(a, lst (strike (Txt.lower xw)))]) := fun _ => by
  rw [lst_append, lst_append, List.append_assoc, word_digits hw]
  exact (h trivial).trans (pass_word (word_plain hw).1 (word_plain hw).2.1 (gaps_ok hg) (word_step hw))
theorem law_lt {x y z : Str} (h1 : ∀ c ∈ lst x, c < 128) (h2 : ∀ c ∈ lst y, c < 128) (h3 : ∀ c ∈ lst z, c < 128) : ∀ c ∈ lst (x ++ y ++ z), c < 128 := by
  rw [lst_append, lst_append]
  intro c hc
  rcases List.mem_append.mp hc with hc | hc
  · rcases List.mem_append.mp hc with hc | hc
    · exact h1 c hc
    · exact h2 c hc
  · exact h3 c hc
theorem law_addr {b : Bool} {x xw xg : Str} {a : Option Nat} {ds : List Row} {v : Nat} (h : True → Pass b 0 (lst x) none [] a ds) (hw : AddrOk xw v) (hg : xg ∈ gaps) :
    True → Pass b 0 (lst (x ++ xw ++ xg)) none [] (some v) ds := fun _ => by
  obtain ⟨r, e, h1, h2⟩ := id hw
  rw [lst_append, lst_append, List.append_assoc]
  exact (h trivial).trans (pass_addr (fun c hc => (h1 c hc).1) (by rw [e]; exact List.cons_ne_nil _ _) (gaps_ok hg) (addr_step hw))
theorem allLt_mem {d : Nat} {l : List (Addr × Obj)} (h : AllLt d l) : ∀ p ∈ l, @LT.lt Nat _ p.1 d := by
  induction l with
  | nil => intro p hp; cases hp
  | cons q l ih =>
    intro p hp
    have h' : @LT.lt Nat _ q.1 d ∧ AllLt d l := h
    rcases List.mem_cons.mp hp with e | hp
    · rw [e]; exact h'.1
    · exact ih h'.2 p hp
theorem pres_len {P : Str} (h : P ∈ pres) : P.length ≤ 2 := by
  unfold pres at h
  simp only [List.mem_cons, List.not_mem_nil, or_false] at h
  rcases h with rfl | rfl | rfl <;> decide +kernel
theorem addr_lt {x : Str} {v : Nat} (h : AddrOk x v) : ∀ c ∈ lst x, c < 128 := by
  obtain ⟨r, _, h1, _⟩ := h
  exact fun c hc => (h1 c hc).2
theorem high_is : ∀ n : Nat, n < 20 → 16 ≤ n → lst (("@1" : Str) ++ Str.ofString (toString ((n : Int) - 16))) = [64, 49, 32 + n] := by decide +kernel
theorem high_ok : ∀ n : Nat, n < 20 → 16 ≤ n → (∀ c ∈ [64, 49, 32 + n], plainc c = true ∧ c < 128) ∧ addrL ([49, 32 + n].map lo1) = some n := by decide +kernel
theorem addr_high {n : Nat} (h : n < 20) (h2 : 16 ≤ n) : AddrOk (("@1" : Str) ++ Str.ofString (toString ((n : Int) - 16))) n := by
  have e := high_is n h h2
  obtain ⟨q1, q2⟩ := high_ok n h h2
  exact ⟨_, e, by rw [e]; exact q1, q2⟩
theorem high_len {n : Nat} (h : n < 20) (h2 : 16 ≤ n) : (("@1" : Str) ++ Str.ofString (toString ((n : Int) - 16))).length ≤ 4 := by
  rw [← lst_length, high_is n h h2]
  simp
/-- one row of the table of faults -/
inductive Fault (b : Bool) : Str → Str → Nat → Prop
  | none : Fault b "" "" 0
  | bad {r k : Str} {o : Nat} : stepL b (lst r) = .err k o → lst r ≠ [] → (k == ("" : Str)) = false → r.length ≤ 4 → (∀ c ∈ lst r, c < 128) → PyData.strOk k = true → Fault b r k o
theorem fault_of {b : Bool} {r k : Str} {o : Nat} {l : List Nat} (h : stepL b l = .err k o) (e : lst r = l) (hl : l ≠ [] ∧ l.length ≤ 4 ∧ ∀ c ∈ l, c < 128) (hk : (k == ("" : Str)) = false) (hk2 : PyData.strOk k = true) : Fault b r k o := by
  subst e
  exact .bad h hl.1 hk (by rw [← lst_length]; exact hl.2.1) hl.2.2 hk2
theorem Fault.a1 (b : Bool) : Fault b "1g0" "bad_word" 0 := fault_of (fault1 b) (by decide +kernel) (by decide) (by decide +kernel) (by decide +kernel)
theorem Fault.a2 (b : Bool) : Fault b "_" "bad_word" 0 := fault_of (fault2 b) (by decide +kernel) (by decide) (by decide +kernel) (by decide +kernel)
theorem Fault.a3 (b : Bool) : Fault b "@" "bad_address" 0 := fault_of (fault3 b) (by decide +kernel) (by decide) (by decide +kernel) (by decide +kernel)
theorem Fault.a4 (b : Bool) : Fault b "@1z" "bad_address" 0 := fault_of (fault4 b) (by decide +kernel) (by decide) (by decide +kernel) (by decide +kernel)
theorem Fault.a5 (b : Bool) : Fault b "@_" "bad_address" 0 := fault_of (fault5 b) (by decide +kernel) (by decide) (by decide +kernel) (by decide +kernel)
theorem Fault.a6 (b : Bool) : Fault b "/* 1" "unfinished_remark" 0 := fault_of (fault6 b) (by decide +kernel) (by decide) (by decide +kernel) (by decide +kernel)
theorem Fault.a7 (b : Bool) : Fault b "1/*" "unfinished_remark" 1 := fault_of (fault7 b) (by decide +kernel) (by decide) (by decide +kernel) (by decide +kernel)
theorem Fault.a8 (b : Bool) : Fault b "0/1" "bad_word" 0 := fault_of (fault8 b) (by decide +kernel) (by decide) (by decide +kernel) (by decide +kernel)
theorem reads_ok {b : Bool} {x : Str} {a : Option Nat} {ds : List Row} (h : True → Pass b 0 (lst x) none [] a ds) : Reads b 0 (lst (x ++ ("" : Str))) none [] (.ok ds) := by
  rw [lst_append, show lst ("" : Str) = [] from by decide +kernel]
  exact h trivial [] _ .done
theorem reads_bad {b : Bool} {x r k : Str} {o : Nat} {a : Option Nat} {ds : List Row} (h : True → Pass b 0 (lst x) none [] a ds) (hs : stepL b (lst r) = .err k o) (hr : lst r ≠ []) : Reads b 0 (lst (x ++ r)) none [] (.err k (x.length + o)) := by
  rw [lst_append]
  refine h trivial (lst r) _ ?_
  rw [← lst_length, Nat.zero_add]
  exact .err hr hs
theorem row_lt {x r : Str} (h1 : ∀ c ∈ lst x, c < 128) (h2 : ∀ c ∈ lst r, c < 128) : ∀ c ∈ lst (x ++ r), c < 128 := by
  rw [lst_append]
  intro c hc
  rcases List.mem_append.mp hc with hc | hc
  · exact h1 c hc
  · exact h2 c hc
theorem row_ok {b : Bool} {a : Option Nat} {ds : List Row} {xw : Str} (h : ∀ r ∈ ds, ∀ c ∈ r.2, c < 128) (hw : WordOk b xw) : ∀ r ∈ ds ++ [(a, lst (strike (Txt.lower xw)))], ∀ c ∈ r.2, c < 128 := by
  intro r hr
  rcases List.mem_append.mp hr with hr | hr
  · exact h r hr
  · rw [List.mem_singleton.mp hr]
    intro c hc
    have hc : c ∈ lst (strike (Txt.lower xw)) := hc
    rw [word_digits hw] at hc
    obtain ⟨z, hz, rfl⟩ := List.mem_map.mp (List.mem_filter.mp hc).1
    exact lo1_lt ((word_plain hw).2.2 z hz)
theorem str_ok {d : List Nat} (h : ∀ c ∈ d, c < 128) : PyData.strOk ⟨d.toArray⟩ = true := by
  unfold PyData.strOk
  rw [← Array.all_toList, List.all_eq_true]
  intro c hc
  have := h c hc
  exact decide_eq_true (by omega)
theorem rows_kqd {ds : List Row} (h : ∀ r ∈ ds, ∀ c ∈ r.2, c < 128) : ∀ d ∈ ds.map rowD, kqdOk 8 d = true := by
  intro d hd
  obtain ⟨⟨g, l⟩, hr, rfl⟩ := List.mem_map.mp hd
  have := str_ok (h _ hr)
  cases g <;> simp [rowD, gvD, kqdOk, this]
theorem spots_kqd {out : List (Int × List Nat)} (h : ∀ q ∈ out, ∀ c ∈ q.2, c < 128) : ∀ d ∈ out.map spotD, kqdOk 8 d = true := by
  intro d hd
  obtain ⟨q, hr, rfl⟩ := List.mem_map.mp hd
  have := str_ok (h _ hr)
  simp [spotD, kqdOk, this]
theorem place_lt {low high st : Int} : ∀ {rows : List Row} {z z' : Int × List (Int × List Nat)}, (∀ r ∈ rows, ∀ c ∈ r.2, c < 128) → (∀ q ∈ z.2, ∀ c ∈ q.2, c < 128) → rows.foldlM (placeStep low high st) z = some z' → ∀ q ∈ z'.2, ∀ c ∈ q.2, c < 128
  | [], z, z', _, hz, e => by
    have : z = z' := Option.some.inj e
    rw [← this]; exact hz
  | r :: rows, z, z', hr, hz, e => by
    rw [List.foldlM_cons] at e
    obtain ⟨y, hy, e⟩ := Option.bind_eq_some_iff.mp e
    refine place_lt (fun r' h => hr r' (.tail _ h)) ?_ e
    have h0 := hr r (.head _)
    obtain ⟨g, d⟩ := r
    unfold placeStep at hy
    cases g with
    | none =>
      simp only [Option.some.injEq] at hy
      rw [← hy]
      intro q hq
      simp only at hq
      split at hq
      · rcases List.mem_append.mp hq with hq | hq
        · exact hz q hq
        · rw [List.mem_singleton.mp hq]; exact h0
      · exact hz q hq
    | some g =>
      simp only at hy
      split at hy
      · cases hy
      · cases hy
        intro q hq
        rcases List.mem_append.mp hq with hq | hq
        · exact hz q hq
        · rw [List.mem_singleton.mp hq]; exact h0

theorem fresh_WordUse : True := by
  w_top off
  trivial
set_option maxRecDepth 100000 in
set_option maxHeartbeats 8000000 in
theorem word_use {w : World} {p : Program} {loose : List Str} {mean : ExcName → Option Value} {mg mb : Str → Option Value}
  {dp un : Nat} {gd : Option (List Code)} {cn : Str} {cs : Scope} {a : Addr} {ccd : Value} {cl : List (Str × Addr)} {outer : List Env} {A₀ : Around} {base h₀ : Heap} {L : Addr} {m : Str → Option Value} {s : Shared}
  {Q E : Value → Shared → Prop}
  {l fl : Addr} {vs : List Value} {figs : List Int} {i mx : Int} {ti tm : Tok} {n nf : Nat} {b : Bool} {news : List (Addr × Obj)} (ups : Obj → List (Addr × Obj))
  (B : Below A₀ base outer h₀) (F : Fr h₀ L s.heap m) (X : (Mine.hd.heap_39 w.params).In h₀)
  (N : News h₀ L s.heap news) (T : Top p loose mean mg mb h₀)
  (hk : cs.kind = .function) (hd : dp + 2 < recursionLimit) (hu : un + 16 < cLine)
  (hU : ∀ o', Upd l (poolO fl i ti mx tm n) o' news (ups o')) (hfl : (fl, PySem.W.listOf vs.toArray nf) ∈ news) (hne : fl ≠ l)
  (hi : IntsAre vs figs) (hlen : figs.length ≤ 1000) (hi0 : 0 ≤ i) (hm0 : 0 ≤ mx) (hm1 : mx < 1009)
  (ret : ∀ x t i' ti' mx' tm' h' tk', Fr h₀ L h' m → News h₀ L h' (ups (poolO fl i' ti' mx' tm' n)) → WordOk b x → x.length ≤ 4 → 0 ≤ i' → 0 ≤ mx' → mx' < 1009 → Q (.str x t) { s with heap := h', toks := tk' }) :
  wpAny (model PR w) (ktrTop dp un gd cn cs L a ccd cl outer) (call (.ref 103) [.ref l, .bool b]) Q E s := by
  obtain ⟨pre, post, e1, e2, u1, u2⟩ := (hU (poolO fl i ti mx tm n)).split
  refine word_spec (b := b) (rest := pre ++ post) (nf := nf) (i := i) (mx := mx) (ti := ti) (tm := tm) (n := n) B F X ?_ T hk hd hu hi hlen hi0 hm0 hm1 hne ?_ ?_
  · intro q hq
    rcases List.mem_cons.mp hq with hq | hq
    · rw [hq]; exact N _ (by rw [e1]; exact List.mem_append.mpr (.inr (.head _)))
    · rcases List.mem_cons.mp hq with hq | hq
      · rw [hq]; exact N _ hfl
      · exact N q (by rw [e1]; rcases List.mem_append.mp hq with hq | hq; exact List.mem_append.mpr (.inl hq); exact List.mem_append.mpr (.inr (.tail _ hq)))
  · intro q hq
    rcases List.mem_append.mp hq with hq | hq
    · exact u1 q hq
    · exact u2 q hq
  · intro k t i' ti' mx' tm' h' tk' F' N' a1 a2 a3 a4 a5
    exact ret k t i' ti' mx' tm' h' tk' F' (upd_news e1 (hU _) u1 u2 N') a1 a2 a3 a4 a5


theorem pool_ne {h₀ h : Heap} {L l fl : Addr} {i mx : Int} {ti tm : Tok} {n nf : Nat} {vs : List Value} {figs : List Int} (N : News h₀ L h [(l, poolO fl i ti mx tm n), (fl, PySem.W.listOf vs.toArray nf)]) (hi : IntsAre vs figs) : fl ≠ l := by
  intro e
  subst e
  have h1 := (N _ (.head _)).1
  have h2 := (N _ (.tail _ (.head _))).1
  have h3 := Option.some.inj (h1.symm.trans h2)
  have h4 : (PySem.W.listOf #[.ref fl, .int i ti, .int mx tm] n).data = (PySem.W.listOf vs.toArray nf).data := congrArg Obj.data h3
  have h5 : (#[.ref fl, .int i ti, .int mx tm] : Array Value) = vs.toArray := by
    have h6 : Data.seq #[.ref fl, .int i ti, .int mx tm] n = Data.seq vs.toArray nf := h4
    injection h6
  have h7 : ([.ref fl, .int i ti, .int mx tm] : List Value) = vs := by
    have := congrArg Array.toList h5
    simpa using this
  subst h7
  cases hi

theorem fresh_Iadd : True := by
  w_top off
  trivial
section
variable {prog : Program} {w : World} {A : Around} {E : Value → Shared → Prop} {s : Shared} {h₀ : Heap} {L D b : Addr} {m : Str → Option Value} {news news' : List (Addr × Obj)} {its its2 : Array Value} {n n2 : Nat} {l : List Value}
theorem inplace_list {M : Model} {a c : Value} {Q : Value → Shared → Prop} (ha : s.TypeIs a "list") (hb : s.TypeIs c "list") (hc : wpAny M A (call (.builtin "list.__iadd__") [a, c]) Q E s) : wpAny M A (inplaceOp .Add a c) Q E s := by
  unfold inplaceOp
  refine wpAny_holding ?_
  have hl : typeLookup (.type "list") (dunderI "add") = pure (some (.builtin "list.__iadd__")) := PySem.F.slot_list_iadd.lookup
  have hs : isSeqSlot (some (.builtin "list.__iadd__")) = true := by decide +kernel
  have hfi : fillsInplaceSlot (.type "list") "add" (Operator.Add == .Add) = pure false := by
    unfold fillsInplaceSlot
    show (typeLookup (.type "list") (dunderI "add") >>= fun fi => pure (fi.isSome && !isSeqSlot fi)) = pure false
    rw [hl]
    show (pure (true && !isSeqSlot (some (.builtin "list.__iadd__"))) : Sem Bool) = pure false
    rw [hs]; rfl
  have hsi : seqSlot? (.type "list") (dunderI "add") = pure (some (.builtin "list.__iadd__")) := by
    simp only [seqSlot?, hl, pure_bind, hs]
    rfl
  refine wpAny_bind (wpAny_typeOf ha (wpAny_bind (wpAny_of_eq hfi ?_)))
  show wpAny M A (if false = true then _ else _) Q E s
  rw [if_neg Bool.false_ne_true]
  refine wpAny_bind (wpAny_binaryOp1_none (nm := "add") ha hb noFill_list_add ?_)
  refine wpAny_bind (wpAny_of_eq hsi ?_)
  exact wpAny_bind (wpAny_rule hc)
theorem iadd_list {Q : Value → Shared → Prop} (F : Fr h₀ L s.heap m) (N : News h₀ L s.heap news) (hb : (b, PySem.W.listOf its2 n2) ∈ news) (e : its.toList ++ its2.toList = l) (hne : its2.toList.length ≠ 0)
    (U : Upd D (PySem.W.listOf its n) (PySem.W.listOf l.toArray (n + 1)) news news') (hd : ¬(!its.isEmpty && Builtin.List.listTooLong (its.size + its2.size)) = true) (hz : its.toList.length ≤ sizeLine) (hz2 : its.size + its2.size ≤ sizeLine + 1)
    (h : ∀ h', Fr h₀ L h' m → News h₀ L h' news' → Q (.ref D) { s with heap := h' }) : wpAny (model prog w) A (inplaceOp .Add (.ref D) (.ref b)) Q E s := by
  obtain ⟨pre, post, rfl, rfl, a, c⟩ := U.split
  have z := N (D, PySem.W.listOf its n) (List.mem_append.mpr (.inr (.head _)))
  refine inplace_list ⟨_, z.1, rfl⟩ ⟨_, (N _ hb).1, rfl⟩ ?_
  refine call_meets PySem.F.slot_list_iadd ⟨_, z.1, rfl⟩ PySem.F.entry_list_iadd (PySem.F.args_list_iadd_2 _ _) (PySem.AutoSeq1.list___iadd___list_list_0 D its n b its2 n2 hd (by simpa using hz) hz2) ⟨z.1, (N _ hb).1, h _ (F.change (Heap.SameBut.update ..) z.2.1 z.2.2) (PySem.W.kl_turn _ N a c ?_ ?_)⟩
  · subst e
    apply Array.toList_inj.mp
    simp
  · subst e
    simp at hne ⊢
    exact hne
end
abbrev tupO (r k : Str) (o : Nat) (t1 t2 t3 : Tok) : Obj := { cls := .type "tuple", data := .seq #[.str r t1, .str k t2, .int (o : Int) t3] }
theorem news_sub {h₀ h : Heap} {L : Addr} {a b : List (Addr × Obj)} (N : News h₀ L h a) (hs : ∀ p ∈ b, p ∈ a) : News h₀ L h b := fun p hp => N p (hs p hp)
theorem cls_ne {h₀ h : Heap} {L a b : Addr} {oa ob : Obj} {news : List (Addr × Obj)} (N : News h₀ L h news) (ha : (a, oa) ∈ news) (hb : (b, ob) ∈ news) (hc : oa.cls ≠ ob.cls) : a ≠ b := by
  rintro rfl
  exact hc (congrArg Obj.cls (Option.some.inj ((N _ ha).1.symm.trans (N _ hb).1)))
theorem faults_item {prog : Program} {w : World} {A : Around} {E : Value → Shared → Prop} {s : Shared} {value slice : PySem.Expr} {h₀ : Heap} {L lp D0 D1 D2 D3 D4 D5 D6 D7 D8 : Addr} {n : Nat} {news : List (Addr × Obj)} {f : Int} {u : Tok} {b : Bool} {Q : Value → Shared → Prop}
    {a0 b0 c0 a1 b1 c1 a2 b2 c2 a3 b3 c3 a4 b4 c4 a5 b5 c5 a6 b6 c6 a7 b7 c7 a8 b8 c8 : Tok}
    (N : News h₀ L s.heap news) (hm : (lp, PySem.W.listOf #[.ref D0, .ref D1, .ref D2, .ref D3, .ref D4, .ref D5, .ref D6, .ref D7, .ref D8] n) ∈ news)
    (m0 : (D0, tupO "" "" 0 a0 b0 c0) ∈ news) (m1 : (D1, tupO "1g0" "bad_word" 0 a1 b1 c1) ∈ news) (m2 : (D2, tupO "_" "bad_word" 0 a2 b2 c2) ∈ news) (m3 : (D3, tupO "@" "bad_address" 0 a3 b3 c3) ∈ news) (m4 : (D4, tupO "@1z" "bad_address" 0 a4 b4 c4) ∈ news)
    (m5 : (D5, tupO "@_" "bad_address" 0 a5 b5 c5) ∈ news) (m6 : (D6, tupO "/* 1" "unfinished_remark" 0 a6 b6 c6) ∈ news) (m7 : (D7, tupO "1/*" "unfinished_remark" 1 a7 b7 c7) ∈ news) (m8 : (D8, tupO "0/1" "bad_word" 0 a8 b8 c8) ∈ news)
    (h0 : 0 ≤ f) (h9 : f < 9)
    (h : ∀ T r k o t1 t2 t3, (T, tupO r k o t1 t2 t3) ∈ news → Fault b r k o → Q (.ref T) s)
    (hs : subscripted slice false (.ref lp) (.int f u) = operate [.ref lp, .int f u] (getItem (.ref lp) (.int f u)) := by with_unfolding_all rfl) :
    wpAny (model prog w) A (subscriptTail value slice (.ref lp) (.int f u)) Q E s := by
  have hl : s.heap.IsList lp #[.ref D0, .ref D1, .ref D2, .ref D3, .ref D4, .ref D5, .ref D6, .ref D7, .ref D8] := ⟨_, (N _ hm).1, rfl, n, rfl⟩
  have key : ∀ v, (#[.ref D0, .ref D1, .ref D2, .ref D3, .ref D4, .ref D5, .ref D6, .ref D7, .ref D8] : Array Value)[f.toNat]? = some v → Q v s → wpAny (model prog w) A (subscriptTail value slice (.ref lp) (.int f u)) Q E s := fun v hx hq =>
    tail_any hl.typeIs slot_list_getitem.lookup (wpAny_getItem_list hl h0 (by omega) hx hq) hs
  have hc : f = 0 ∨ f = 1 ∨ f = 2 ∨ f = 3 ∨ f = 4 ∨ f = 5 ∨ f = 6 ∨ f = 7 ∨ f = 8 := by omega
  rcases hc with rfl | rfl | rfl | rfl | rfl | rfl | rfl | rfl | rfl
  · exact key _ rfl (h _ _ _ _ _ _ _ m0 .none)
  · exact key _ rfl (h _ _ _ _ _ _ _ m1 (.a1 b))
  · exact key _ rfl (h _ _ _ _ _ _ _ m2 (.a2 b))
  · exact key _ rfl (h _ _ _ _ _ _ _ m3 (.a3 b))
  · exact key _ rfl (h _ _ _ _ _ _ _ m4 (.a4 b))
  · exact key _ rfl (h _ _ _ _ _ _ _ m5 (.a5 b))
  · exact key _ rfl (h _ _ _ _ _ _ _ m6 (.a6 b))
  · exact key _ rfl (h _ _ _ _ _ _ _ m7 (.a7 b))
  · exact key _ rfl (h _ _ _ _ _ _ _ m8 (.a8 b))

theorem fresh_Catch : True := by
  w_top off
  trivial
section
variable {w : World} {A₀ : Around} {E : Value → Shared → Prop} {s' : Shared} {h₀ h : Heap} {outer : List Env} {L a e : Addr} {m : Str → Option Value} {name : Str} {scope : Scope} {cd : Value}
  {n : Str} {b₀ : Stmt} {suite : List Stmt} {pos np : Pos} {rest : List ExceptHandler} {Q : Flow → Shared → Prop}
  {p : Program} {loose : List Str} {mean : ExcName → Option Value} {mg mb : Str → Option Value} {x kk : Str} {ii : Int}
theorem caught_D (K : Below A₀ h₀ outer h₀) (F : Fr h₀ L h m) (hsm : h.UpToSlots s'.heap) (R : RaisedD w h₀ (envOf name scope L a cd :: outer) e kk ii [] s'.heap)
    (X : (Mine.hd.heap_39 w.params).In h₀) (T : TopRead p loose mg mb h₀) (ex : nsIn (Mine.hd.heap_39 w.params) mainGlobals x = some (some (.ref 45)))
    (k : ∀ h' tk oe ws dx es nn sl tk1 ti1, Fr h₀ L h' (fun y => if y = n then some (.ref e) else m y) → News h₀ L h' [(e, oe), (dx, { dictOf es nn with slots := sl })] → oe.cls = .ref 45 → oe.dict = some dx → oe.data = .fields ws → getL "kind" es = some (some (.str kk tk1)) → getL "at" es = some (some (.int ii ti1)) →
      wpAny (model PR w) ((A₀.deeper (envOf name scope L a cd)).mark (some (.ref e))) (execs (b₀ :: suite) (envOf name scope L a cd))
        (fun f s₄ => wpAny (model PR w) (A₀.deeper (envOf name scope L a cd)) (do bindName (envOf name scope L a cd) n .none; unbindBehindTheSuite (envOf name scope L a cd) n pos) (fun _ s₅ => Q f s₅) E s₄)
        (AsSuiteRaised (model PR w) ((A₀.deeper (envOf name scope L a cd)).mark (some (.ref e))) (envOf name scope L a cd) n pos (notedBy (model PR w) ((A₀.deeper (envOf name scope L a cd)).mark (some (.ref e))) (envOf name scope L a cd) (cameBackBy (model PR w) (A₀.deeper (envOf name scope L a cd)) (envOf name scope L a cd) E)))
        { s' with heap := h', toks := tk })
    (hk : scope.kind = .function := by rfl) (hlo : (envOf name scope L a cd).kindOf n = some .local := by rfl) (hx : (envOf name scope L a cd).kindOf x = some .globalImplicit := by rfl) (hd : (x == ("__debug__" : Str)) = false := by decide) :
    wpAny (model PR w) (A₀.deeper (envOf name scope L a cd)) (noteFrame (.ref e) (envOf name scope L a cd))
      (fun _ s₂ => wpAny (model PR w) (A₀.deeper (envOf name scope L a cd)) (setFlight (.ref e) none) (fun _ s₃ =>
        wpAny (model PR w) (A₀.deeper (envOf name scope L a cd)) (handleBy (.ref e) (envOf name scope L a cd) (.ExceptHandler (some (.Name x np)) (some n) (b₀ :: suite) pos :: rest)) Q E s₃) E s₂) E s' := by
  obtain ⟨⟨B, a0, hB, hl, hfl⟩, XD⟩ := R
  refine wpAny_mono (wpAny_dk (dk_noteFrame _ _) (wpAny_looks_onW (E := E) (Q := fun _ s'' => ∃ h4, s'' = { s' with heap := h4 } ∧ Heap.HeldW B (envOf name scope L a cd :: outer) e (.ref 45) a0 L h4 ∧ s'.heap.UpToSlots h4) (Around.frames_deeper K.stack) rfl hfl fun h' x1 x2 => ⟨h', rfl, x1, x2⟩)) (fun _ s4 q => ?_) fun _ _ q => q.1
  obtain ⟨⟨h4, rfl, hheld4, U4⟩, D4⟩ := q
  refine wpAny_mono (wpAny_dk (dk_setFlight _ _) (wpAny_landsW (E := E) (Q := fun _ s'' => ∃ h5, s'' = { s' with heap := h5 } ∧ Heap.FlyingW B (envOf name scope L a cd :: outer) e (.ref 45) a0 h5 ∧ h4.UpToSlots h5) (s := { s' with heap := h4 }) hheld4 fun h' x1 x2 => ⟨h', rfl, x1, x2⟩)) (fun _ s5 q => ?_) fun _ _ q => q.1
  obtain ⟨⟨h5, rfl, hfly5, U5⟩, D5⟩ := q
  have hfly5' := flyingW_base hB hfly5
  have U5' := U4.trans U5
  have F₅ := F.of_stays hfly5'.1 (hsm.trans U5')
  obtain ⟨ob, hob, hobc⟩ := hfly5'.there
  have XD5 := XD.flies U5' (D4.trans D5) ⟨ob, hob, hobc⟩ (fs' := (envOf name scope L a cd :: outer).filterMap (·.frame)) fun _ h => h
  refine wpAny_handleBy_cons (codeAny_handlers_test (name_K F₅ X T ex ?_ hk hx hd)) (by intro q; cases q)
  obtain ⟨nm, qn, N5, bs, sn, sub, ab, col, dd, k0, k1, k2, k3, k5, hC⟩ := fe_cls (X.keeps F₅.keep)
  refine wpAny_excMatches_sub_self hC hob hobc rfl (codeAny_handlers_suite_as ?_)
  refine wpAny_mono (wpAny_dk (dk_setFlight _ _) (lands_againW (s := { s' with heap := h5 }) (Q := fun _ s'' => ∃ h6, s'' = { s' with heap := h6 } ∧ Heap.FlyingW B (envOf name scope L a cd :: outer) e (.ref 45) a0 h6 ∧ h5.UpToSlots h6) hfly5 fun h' x1 x2 => ⟨h', rfl, x1, x2⟩)) (fun _ s6 q => ?_) fun _ _ q => q.1
  obtain ⟨⟨h6, rfl, hfly6, U6⟩, D6⟩ := q
  have hfly6' := flyingW_base hB hfly6
  have F₆ := F.of_stays hfly6'.1 ((hsm.trans U5').trans U6)
  have XD6 := XD5.flies U6 D6 hfly6'.there (fs' := (envOf name scope L a cd :: outer).filterMap (·.frame)) fun _ h => h
  obtain ⟨oe2, ws, hoe, hoec, hoed, hoe0⟩ := hfly6'.first
  obtain ⟨oe, dx, es, nn, sl, tk1, ti1, g1, g2, g3, g4, g5, g6, g7, g8⟩ := XD6
  have heq : oe2 = oe := Option.some.inj (hoe.symm.trans g1)
  subst heq
  have N₁ : News h₀ L h6 [(dx, { dictOf es nn with slots := sl })] := fun q hq => by
    rw [List.mem_singleton.mp hq]
    exact ⟨g4, fun z => g8 (List.mem_filterMap.mpr ⟨envOf name scope L a cd, .head _, by have z' : dx = L := z; rw [z']; rfl⟩), g7⟩
  have N₆ := News.more F₆ N₁ hoe (fun es n q => by rw [hoed] at q; cases q) hfly6'.2.1
  exact stN F₆ N₆ (fun h₇ F₇ N₇ => k h₇ _ oe2 ws dx es nn sl tk1 ti1 F₇ N₇ g2 g3 hoed g5 g6) hk hlo
end
theorem fe_find {w : World} {es : List DictEntry} {nn : Nat} {sl : Array (Option Value)} {name : Str} {v : Value} (hn : findIn (Mine.hd.heap_39 w.params) (.ref 45) name = some none) (hg : getL name es = some (some v)) :
    findObj (Mine.hd.heap_39 w.params) 45 (some { dictOf es nn with slots := sl }) name = some (.value v) := by
  have hc : ∃ cd, clsIn (Mine.hd.heap_39 w.params) 45 = some cd ∧ cd.hasDict = true := ⟨_, rfl, rfl⟩
  obtain ⟨cd, hcd, hdd⟩ := hc
  have ho : PySem.W.ownOf cd (some { dictOf es nn with slots := sl }) name = some (some v) := by
    unfold PySem.W.ownOf
    rw [hdd, if_pos rfl]
    exact hg
  unfold findObj
  rw [hcd, Option.bind_some, hn, Option.bind_some]
  simp only [Option.bind_some]
  rw [ho]
  rfl
theorem fe_attr {w : World} {A : Around} {E : Value → Shared → Prop} {s : Shared} {h₀ : Heap} {L ex dx : Addr} {m : Str → Option Value} {oe : Obj} {ws : Array Value} {es : List DictEntry} {nn : Nat} {sl : Array (Option Value)} {news : List (Addr × Obj)} {name : Str} {v : Value} {expr : Bool} {Q : Value → Shared → Prop}
    (X₀ : (Mine.hd.heap_39 w.params).In h₀) (F : Fr h₀ L s.heap m) (N : News h₀ L s.heap news) (he : (ex, oe) ∈ news) (hdx : (dx, ({ dictOf es nn with slots := sl } : Obj)) ∈ news) (c1 : oe.cls = .ref 45) (c2 : oe.dict = some dx) (c3 : oe.data = .fields ws)
    (hn : findIn (Mine.hd.heap_39 w.params) (.ref 45) name = some none) (hg : getL name es = some (some v)) (hv : handedIn v = true) (h : Q v { s with toks := s.toks + 1 }) : wpAny (model PR w) A (getAttr (.ref ex) name expr) Q E s := by
  have I : InstAt s.heap ex oe 45 (some { dictOf es nn with slots := sl }) := by
    refine ⟨(N _ he).1, c1, ?_, ?_⟩
    · unfold notCls; rw [c3]
    · rw [c2]; exact (N _ hdx).1
  have X := X₀.keeps F.keep
  have FB := PySem.F.attr_Exception
  obtain ⟨hh, g, d, t, os⟩ := s
  dsimp only at X I h
  have L0 := I.type (M := model PR w)
  have L1 := looks_findIn (M := model PR w) X (show findIn (Mine.hd.heap_39 w.params) (.ref 45) "__getattribute__" = some (some (.builtin "BaseException.__getattribute__")) from rfl)
  have L2 := looks_findIn (M := model PR w) X (show findIn (Mine.hd.heap_39 w.params) (.ref 45) "__getattr__" = some none from rfl)
  have L3 := looks_find (M := model PR w) X I (fe_find hn hg)
  have sub : Looks (model PR w) hh (isInstance (.ref ex) (.type "BaseException")) true := L0.andThen (looks_subIn X rfl)
  have f3 := FB.ga.bind (.ref ex)
  have hx0 : (expr && onTheHeap (Value.builtin "BaseException.__getattribute__")) = false := by cases expr <;> rfl
  have hx2 : (Value.builtin "BaseException.__getattribute__" == Value.builtin "object.__getattribute__") = false := by decide +kernel
  have hx1 : (onTheHeap (Value.ref 45) && Value.builtin "BaseException.__getattribute__" == Value.builtin "object.__getattribute__") = false := by rw [hx2]; rfl
  have body : ∀ tk (R : Result → Shared → Prop), R (.ok (.ret v)) ⟨hh, g, d, t + 1, os⟩ → codeAny (model PR w) A (.call (.builtin "BaseException.__getattribute__") ⟨[.ref ex, .str name tk], []⟩) R ⟨hh, g, d, t + 1, os⟩ := by
    intro tk R hR
    refine codeAny_call_builtin FB.ga.plain PySem.F.entry_bexc_ga (@check_slot _ _ _ ⟨hh, g, d, t + 1, os⟩ "BaseException.__getattribute__" "BaseException" "__getattribute__" (.ref ex) [.str name tk] [] _ (by decide +kernel) (by decide +kernel) sub (PySem.F.args_bexc_ga _ _) ?_)
    refine wpAny_bind (wpAny_pure (wpAny_bind (wpAny_pure (wpAny_bind (L0.at (wpAny_bind (L3.at ?_)))))))
    exact wpAny_pure hR
  unfold getAttr getAttrBy
  refine wpAny_bind (wpAny_mkText (wpAny_holding (wpAny_bind (L0.at (wpAny_bind (L1.at ?_))))))
  dsimp only
  rw [hx1, if_neg Bool.false_ne_true]
  unfold getAttrByItsOwn hookBefore
  rw [show onTheHeap (Value.ref 45) = true from rfl, if_pos rfl]
  refine wpAny_bind (L2.at ?_)
  unfold callGetattribute
  rw [hx0, if_neg Bool.false_ne_true]
  unfold boundAndCalled
  refine wpAny_bind (wpAny_attempt (wpAny_holding ?_))
  rw [f3]
  refine wpAny_bind (wpAny_pure ?_)
  refine wpAny_call (body _ _ ?_)
  show wpAny _ _ (handedOut v) _ _ _
  rw [handedOut_of hv]
  exact wpAny_pure h
theorem tup_eq {prog : Program} {w : World} {A : Around} {E : Value → Shared → Prop} {s : Shared} {h₀ : Heap} {L a b : Addr} {news : List (Addr × Obj)} {k : Str} {i j : Int} {t1 t2 u1 u2 : Tok} {Q : Value → Shared → Prop}
    (N : News h₀ L s.heap news) (ma : (a, ({ cls := .type "tuple", data := .seq #[.str k t1, .int i u1] } : Obj)) ∈ news) (mb : (b, ({ cls := .type "tuple", data := .seq #[.str k t2, .int j u2] } : Obj)) ∈ news)
    (hij : i = j) (hk : PyData.strOk k = true) (hu : A.units + 64 < cLine) (h : Q (.bool true) s) : wpAny (model prog w) A (compareOp .Eq (.ref a) (.ref b)) Q E s := by
  subst hij
  have ok : kqdOk 9 (.tuple [.str k, .int i]) = true := by
    simp only [kqdOk, List.all_cons, List.all_nil, Bool.and_true]
    exact hk
  obtain ⟨as, ra⟩ := kqd_in N 9 (DatIn.tuple (ds := [.str k, .int i]) ma (.cons (.str _ _) (.cons (.int _ _) .nil))) ok
  obtain ⟨bs, rb⟩ := kqd_in N 9 (DatIn.tuple (ds := [.str k, .int i]) mb (.cons (.str _ _) (.cons (.int _ _) .nil))) ok
  have la := kqd_lay 9 (.tuple [.str k, .int i]) ok
  have e : PyData.eqv (kqdP (.tuple [.str k, .int i])) (kqdP (.tuple [.str k, .int i])) = true := (kqd_eqv 9 _ _ 9 ok ok).mpr rfl
  refine eq_dataH ra rb ?_ ?_ hu (by rw [e]; exact h)
  · unfold SeqAt.shaped; rw [la.1, Bool.true_and]; exact decide_eq_true (Nat.le_trans la.2 (by decide))
  · unfold SeqAt.shaped; rw [la.1, Bool.true_and]; exact decide_eq_true (Nat.le_trans la.2 (by decide))

local macro_rules | `(tactic| walk_at "call ref") => `(tactic| (k_here; (with_reducible show wpAny _ _ (call (Value.ref 110) [Value.ref _]) _ _ _); k_dflt (refine' gap_use _ ?k1 ?k2 ?k3 ?k4 ?k5 ?kK ?kd ?ku ?kU ?kfl ?kne ?ki ?kl ?k0 ?km ?kM ?_; (case k1 => k_asm); (case k2 => k_asm); (case k3 => k_asm); (case k4 => k_asm); (case k5 => k_asm); (case kU => (intro o9; k_upd)); (case kK => first | exact rfl | assumption); (case kd => ktr_room); (case ku => ktr_units); (case kfl => k_mem); (case kne => first | assumption | omega); (case ki => assumption); (case kl => first | assumption | omega); (case k0 => first | assumption | omega); (case km => first | assumption | omega); (case kM => first | assumption | omega)); intro x9 t9 i9 ti9 m9 tm9 h9 tk9 F9 N9 c91 c92 c93 c94; (have c98 := gaps_len c91); (try dsimp only at N9 ⊢); (try k_sweep); (try k_fold)))
local macro_rules | `(tactic| walk_at "call ref") => `(tactic| (k_here; (with_reducible show wpAny _ _ (call (Value.ref 103) [Value.ref _, Value.bool _]) _ _ _); k_dflt (refine' word_use _ ?k1 ?k2 ?k3 ?k4 ?k5 ?kK ?kd ?ku ?kU ?kfl ?kne ?ki ?kl ?k0 ?km ?kM ?_; (case k1 => k_asm); (case k2 => k_asm); (case k3 => k_asm); (case k4 => k_asm); (case k5 => k_asm); (case kU => (intro o9; k_upd)); (case kK => first | exact rfl | assumption); (case kd => ktr_room); (case ku => ktr_units); (case kfl => k_mem); (case kne => first | assumption | omega); (case ki => assumption); (case kl => first | assumption | omega); (case k0 => first | assumption | omega); (case km => first | assumption | omega); (case kM => first | assumption | omega)); intro x9 t9 i9 ti9 m9 tm9 h9 tk9 F9 N9 c91 c92 c93 c94 c95; (try dsimp only at N9 ⊢); (try k_sweep); (try k_fold)))
local macro_rules | `(tactic| walk_at "call ref") => `(tactic| (k_here; (with_reducible show wpAny _ _ (call (Value.ref 89) [Value.ref _]) _ _ _); k_dflt (refine' pool_spec ?k1 ?k2 ?k3 ?k4 ?k5 ?kK ?kd ?ku ?kl ?ki ?kn ?_; (case k1 => k_asm); (case k2 => k_asm); (case k3 => k_asm); (case k4 => k_asm); (case k5 => k_asm); (case kK => exact rfl); (case kd => ktr_room); (case ku => ktr_units); (case kl => assumption); (case ki => assumption); (case kn => omega)); intro l9 fl9 figs9 vs9 mx9 tm9 t09 h9 tk9 n9 nf9 F9 N9 c91 c92 c93 c94; (have c99 := pool_ne N9 c91); (try dsimp only at N9 ⊢); (try k_sweep); (try k_fold)))
local macro_rules | `(tactic| walk_at "call type:range") => `(tactic| (k_here; (rename Fr _ _ _ _ => F'); (rename News _ _ _ _ => N'); (with_unfolding_all refine range1_rows F' N' ?_); intro _ _ _ _ _ _ _ _ _))
local macro_rules | `(tactic| walk_at "inplaceOp Add ref ref") => `(tactic| (k_here; (with_reducible show wpAny _ _ (inplaceOp Operator.Add (Value.ref _) (Value.ref _)) _ _ _); k_dflt (refine' iadd_list ?F ?N ?b ?e ?ne ?U ?d ?z ?y ?_; (case F => k_asm); (case N => k_asm); (case b => k_mem); (case U => k_upd); (case e => kl_lit); (case ne => kl_some); (case d => kl_no); (case z => kl_room); (case y => kl_room)); kl_rest))
local macro_rules | `(tactic| walk_at "call ref") => `(tactic| (k_here; (with_reducible show wpAny _ _ (call (Value.ref 75) [Value.str _ _, Value.bool _]) _ _ _); k_dflt (refine' read_spec ?k1 ?k2 ?k3 ?k4 ?k5 ?k6 ?k7 ?k8 ?k9 ?kA ?kB ?_ ?_; (case k1 => k_asm); (case k2 => k_asm); (case k3 => k_asm); (case k4 => k_asm); (case k5 => k_asm); (case k6 => exact rfl); (case k7 => ktr_room); (case k8 => ktr_units); (case k9 => omega); (case kA => assumption); (case kB => assumption)); (focus intro rl9 n9 vs9 tl9 rows9 h9 tk9 g9 F9 N9 D9 l9); (rotate_left; intro e9 g9 h9 tk9 k9 i9 z9 F9 U9 R9; rotate_right)))
local macro_rules | `(tactic| walk_at "getAttr ref") => `(tactic| (k_here; (with_reducible show wpAny _ _ (getAttr (Value.ref _) _ _) _ _ _); k_dflt (refine' fe_attr ?k1 ?k2 ?k3 ?k4 ?k5 ?k6 ?k7 ?k8 ?k9 ?kA ?kB ?_; (case k1 => k_asm); (case k2 => k_asm); (case k3 => k_asm); (case k6 => assumption); (case k7 => assumption); (case k8 => assumption); (case kA => assumption); (case k4 => exact .head _); (case k5 => exact .tail _ (.head _)); (case k9 => rfl); (case kB => rfl))))
theorem fresh_Main : True := by
  w_top off
  trivial
local macro_rules | `(tactic| open_k0) => `(tactic| repeat' (first | ((fail_if_success (with_reducible show wpAny _ _ (exec (Stmt.For _ _ _ _ _) _) _ _ _)); (fail_if_success (with_reducible show wpAny _ _ (exec (Stmt.While _ _ _ _) _) _ _ _)); (fail_if_success (with_reducible show wpAny _ _ (pyIter _) _ _ _)); (fail_if_success (with_reducible show wpAny _ _ (exec (Stmt.AugAssign _ _ _ _) _) _ _ _)); (fail_if_success (with_reducible show wpAny _ _ (call (Value.ref 75) _) _ _ _)); (fail_if_success (with_reducible show wpAny _ _ (call (Value.ref 117) _) _ _ _)); (fail_if_success (with_reducible show wpAny _ _ (call (Value.ref 61) _) _ _ _)); (fail_if_success (with_reducible show wpAny _ _ (compareOp _ (Value.ref _) (Value.ref _)) _ _ _)); (fail_if_success (with_reducible show wpAny _ _ (subscriptTail _ _ (Value.ref _) (Value.int _ _)) _ _ _)); (fail_if_success (with_reducible show wpAny _ _ (subscriptTail _ _ (Value.str (Txt.lower _) _) _) _ _ _)); first | ((with_reducible show Pos0 _ _); unfold Pos0; intro hpos9; (try dsimp only at hpos9)) | (k_unfold; (try dsimp only)) | (k_end; wrow_close) | walk1 | (dsimp only; walk1) | (leave1; walk_say "STEP leave1"; try dsimp only)) | fail "no step"))
set_option maxRecDepth 100000 in
set_option maxHeartbeats 8000000 in
theorem main : PySem.Challenge.rw_nn0295_01.Holds := hd (by
  k_go0
  (all_goals try k_fold)
  rename Shared => sS
  open_k0
  rename Fr _ _ _ _ => F9
  with_unfolding_all refine' For_invVF F9 ?k1 ?k2 ?_
  case k1 => exact rfl
  case k2 => exact rfl
  open_k0
  rename_i l fl figs fvs mx0 tm0 t00 h00 tk00 np nf hints hfl hm0 hm1 hne hP tkP htkP kw tw iw tiw mw tmw hw tkw cw1 cw2 cw3 cw4 cw5 q1 q2 hA tkA htkA hB tkB htkB dl hZ1 l1 hZ2 tkZ2 htkZ2 hZ3 tkZ3 htkZ3 k9 t9 i9 ti9 m9 tm9 h9 tk9 F8 N8 c1 c2 c3 c4 c5 h8 tk8 t1 u1 v1 hrg F9 N9 hkp
  generalize hbw : (kw == 1) = b at *
  have hsz : Builtin.Range.rangeSize 0 k9 1 = (k9.toNat : Int) := by rw [rangeSize_nat]; simp
  have hsm : Builtin.Range.small 0 k9 1 = true := small_one (by decide) (by decide) (by omega) (by omega)
  have hd1 : dl ≠ l := Nat.ne_of_gt l1.1
  have hd2 : dl ≠ fl := Nat.ne_of_gt l1.2
  have hd3 : l ≠ dl := Nat.ne_of_lt l1.1
  have hd4 : fl ≠ dl := Nat.ne_of_lt l1.2
  refine' kd_range (σ := LS) (n := k9.toNat) (fun c => [(dl, PySem.W.listOf c.vs.toArray c.n), (l, poolO fl c.i c.ti c.mx c.tm np)]) [(fl, PySem.W.listOf fvs.toArray nf)] (fun c => [(("text" : Str), .str c.x c.tx), (("given" : Str), gv c.a c.ta)])
    (fun led c => (True → DatAll led c.vs (c.ds.map rowD)) ∧ 0 ≤ c.i ∧ 0 ≤ c.mx ∧ c.mx < 1009) ["number", "word"]
    (fun pre c => (True → Pass b 0 (lst c.x) none [] c.a c.ds) ∧ (∀ ch ∈ lst c.x, ch < 128) ∧ c.x.length ≤ 18 * pre.length ∧ c.ds.length ≤ pre.length ∧ c.vs.length = c.ds.length ∧ (∀ r ∈ c.ds, ∀ ch ∈ r.2, ch < 128)) [dl, l, fl] ⟨"", _, none, 0, [], 0, [], i9, ti9, m9, tm9⟩ rfl hrg hsm hsz F9 N9 ?g1 ?g2 ⟨(fun _ => .nil), c3, c4, c5⟩ ?g3 ⟨(fun _ => start_pass b), start_lt, Nat.le_refl _, Nat.le_refl _, rfl, (fun _ h => nomatch h)⟩ ?g4 ?g5
  case g1 => exact fun p hp => hp
  case g2 => exact fun c => rfl
  case g3 =>
    intro p hp
    rcases List.mem_cons.mp hp with rfl | hp
    · rfl
    · rw [List.mem_singleton.mp hp]; rfl
  case g4 =>
    rintro ⟨x, tx, a, ta, vs, n, ds, i, ti, mx, tm⟩ tl pre k t u h tk own hk' hlt hsep hoff ⟨f1, f2, f3, f4⟩ ⟨p1, p2, p3, p4, p5, p7⟩ F N
    dsimp only at f1 f2 f3 f4 p1 p2 p3 p4 p5 p7 F N
    simp only [List.cons_append, List.nil_append] at N
    have ho1 : ∀ q ∈ tl ++ own, q.1 ≠ dl := fun q hq => hoff q hq dl (.head _)
    have ho2 : ∀ q ∈ tl ++ own, q.1 ≠ l := fun q hq => hoff q hq l (.tail _ (.head _))
    have ho3 : ∀ q ∈ tl ++ own, q.1 ≠ fl := fun q hq => hoff q hq fl (.tail _ (.tail _ (.head _)))
    have hlen : pre.length ≤ 8 := by omega
    refine te ?_
    open_k0
    · rename_i num tn ig tig mgg tmg h9 z1 d1 d2 d3 d4 d5 z2 F8 N8 z3 z4
      obtain ⟨nn, rfl⟩ : ∃ nn : Nat, num = (nn : Int) := ⟨num.toNat, by omega⟩
      by_cases hn : (nn : Int) < 16
      · walk1
        iterate 31 (all_goals first | walk1 | (dsimp only; walk1))
        rename_i kp tp ip tip mp tmp hp tkp Fp Np cp1 cp2 cp3 cp4 cp5
        have key : ∀ (P : Str) (t : Tok), P ∈ pres → qk (Value.str P t) { sS with heap := hp, toks := tkp } := by
          intro P tP hP
          have hPl := pres_len hP
          open_k0
          have hfm : (nn : Int).fmod 16 = (nn : Int) := by rw [Int.fmod_eq_emod_of_nonneg _ (by decide)]; exact Int.emod_eq_of_lt (by omega) hn
          have hadr := addr_low hP (k := (nn : Int).fmod 16) (by rw [hfm]; omega) (by rw [hfm]; exact hn)
          have hadl := addr_len hP (k := (nn : Int).fmod 16) (by rw [hfm]; omega) (by rw [hfm]; exact hn)
          rw [show ((nn : Int).fmod 16).toNat = nn from by rw [hfm]; rfl] at hadr
          walk1
          open_k0
          rename_i xg z6 ig2 tig2 mg2 tmg2 z7 z8 g1 g2 g3 g4 g5 z9 z10 z11 z12 F1 N1
          open_x
          refine' kd_end (x := ("step" : Str)) ⟨x ++ (("@" : Str) ++ P ++ Txt.upper (Txt.item ("0123456789abcdef" : Str) ((nn : Int).fmod 16))) ++ xg, _, some nn, _, vs, n, ds, ig2, tig2, mg2, tmg2⟩ [] hsep F1 N1 ?w1 ?w2 rfl (fun _ h => nomatch h) ?w4 ?w5 ?w6 ⟨?w7, g2, g3, g4⟩ ⟨law_addr p1 hadr g1, law_lt p2 (addr_lt hadr) (gaps_lt g1), ?w8, ?w9, p5, p7⟩
          case w1 =>
            intro p hp
            rcases List.mem_cons.mp hp with rfl | hp
            · exact .tail _ (.head _)
            · rcases List.mem_cons.mp hp with rfl | hp
              · exact .tail _ (.tail _ (.head _))
              · rcases List.mem_cons.mp hp with rfl | hp
                · exact .tail _ (.tail _ (.tail _ (.head _)))
                · exact .tail _ (.tail _ (.tail _ (.tail _ (List.mem_append.mpr (.inl hp)))))
          case w2 => exact fun p hp => .tail _ (.tail _ (.tail _ (.tail _ (List.mem_append.mpr (.inr hp)))))
          case w4 => intro q hq; cases hq
          case w5 =>
            intro p hp
            rcases List.mem_cons.mp hp with rfl | hp
            · rfl
            · rw [List.mem_singleton.mp hp]; rfl
          case w6 =>
            intro z h1 h2 h3
            have h4 : z ≠ ("text" : Str) := h2 _ (.head _)
            have h5 : z ≠ ("given" : Str) := h2 _ (.tail _ (.head _))
            simp only [List.contains_cons, List.contains_nil, Bool.or_false, Bool.or_eq_false_iff, beq_eq_false_iff_ne, ne_eq] at h3
            simp [h1, h3, h4, h5, kstB]
          case w7 =>
            refine fun _ => (f1 trivial).mono fun p hp => ?_
            rcases List.mem_append.mp hp with hp | hp
            · exact List.mem_append.mpr (.inl hp)
            · exact List.mem_append.mpr (.inr hp)
          case w8 =>
            have e1 : (x ++ (("@" : Str) ++ P ++ Txt.upper (Txt.item ("0123456789abcdef" : Str) ((nn : Int).fmod 16))) ++ xg).length = x.length + ((("@" : Str) ++ P ++ Txt.upper (Txt.item ("0123456789abcdef" : Str) ((nn : Int).fmod 16)))).length + xg.length := by rw [← lst_length, lst_append, lst_append, List.length_append, List.length_append, lst_length, lst_length, lst_length]
            have e2 : ((("@" : Str) ++ P ++ Txt.upper (Txt.item ("0123456789abcdef" : Str) ((nn : Int).fmod 16)))).length ≤ 4 := hadl
            dsimp only
            rw [List.length_append, List.length_singleton, e1]
            omega
          case w9 => dsimp only; rw [List.length_append, List.length_singleton]; omega
        have hc : kp = 0 ∨ kp = 1 ∨ kp = 2 := by omega
        rcases hc with rfl | rfl | rfl
        · walk1
          exact key _ _ (.head _)
        · walk1
          exact key _ _ (.tail _ (.head _))
        · walk1
          exact key _ _ (.tail _ (.tail _ (.head _)))
      · walk1
        open_k0
        have hadr2 := addr_high (n := nn) (by omega) (by omega)
        have hadl2 := high_len (n := nn) (by omega) (by omega)
        walk1
        open_k0
        rename_i xg z6 ig2 tig2 mg2 tmg2 z7 z8 g1 g2 g3 g4 g5 z9 z10 z11 z12 F1 N1
        open_x
        refine' kd_end (x := ("step" : Str)) ⟨x ++ (("@1" : Str) ++ Str.ofString (toString ((nn : Int) - 16))) ++ xg, _, some nn, _, vs, n, ds, ig2, tig2, mg2, tmg2⟩ [] hsep F1 N1 ?y1 ?y2 rfl (fun _ h => nomatch h) ?y4 ?y5 ?y6 ⟨?y7, g2, g3, g4⟩ ⟨law_addr p1 hadr2 g1, law_lt p2 (addr_lt hadr2) (gaps_lt g1), ?y8, ?y9, p5, p7⟩
        case y1 =>
          intro p hp
          rcases List.mem_cons.mp hp with rfl | hp
          · exact .head _
          · rcases List.mem_cons.mp hp with rfl | hp
            · exact .tail _ (.head _)
            · rcases List.mem_cons.mp hp with rfl | hp
              · exact .tail _ (.tail _ (.head _))
              · exact .tail _ (.tail _ (.tail _ (List.mem_append.mpr (.inl hp))))
        case y2 => exact fun p hp => .tail _ (.tail _ (.tail _ (List.mem_append.mpr (.inr hp))))
        case y4 => intro q hq; cases hq
        case y5 =>
          intro p hp
          rcases List.mem_cons.mp hp with rfl | hp
          · rfl
          · rw [List.mem_singleton.mp hp]; rfl
        case y6 =>
          intro z h1 h2 h3
          have h4 : z ≠ ("text" : Str) := h2 _ (.head _)
          have h5 : z ≠ ("given" : Str) := h2 _ (.tail _ (.head _))
          simp only [List.contains_cons, List.contains_nil, Bool.or_false, Bool.or_eq_false_iff, beq_eq_false_iff_ne, ne_eq] at h3
          simp [h1, h3, h4, h5, kstB]
        case y7 =>
          refine fun _ => (f1 trivial).mono fun p hp => ?_
          rcases List.mem_append.mp hp with hp | hp
          · exact List.mem_append.mpr (.inl hp)
          · exact List.mem_append.mpr (.inr hp)
        case y8 =>
          have e1 : (x ++ (("@1" : Str) ++ Str.ofString (toString ((nn : Int) - 16))) ++ xg).length = x.length + ((("@1" : Str) ++ Str.ofString (toString ((nn : Int) - 16)))).length + xg.length := by rw [← lst_length, lst_append, lst_append, List.length_append, List.length_append, lst_length, lst_length, lst_length]
          have e2 : ((("@1" : Str) ++ Str.ofString (toString ((nn : Int) - 16)))).length ≤ 4 := hadl2
          dsimp only
          rw [List.length_append, List.length_singleton, e1]
          omega
        case y9 => dsimp only; rw [List.length_append, List.length_singleton]; omega
    · rename Str => xw
      rename WordOk _ _ => hword
      walk1
      open_k0
      walk1
      open_k0
      rename_i D z1 l9 z2 z13 z3 z4 z5 xg z6 ig tig mgg tmg z7 z8 g1 g2 g3 g4 g5 z9 z10 z11 z12 F1 N1
      open_x
      rw [List.push_toArray] at N1
      refine' kd_end (x := ("step" : Str)) ⟨x ++ xw ++ xg, _, none, 0, vs ++ [.ref D], n + 1, ds ++ [(a, lst (strike (Txt.lower xw)))], ig, tig, mgg, tmg⟩ [(D, { cls := .type "tuple", data := .seq #[gv a ta, .str (strike (Txt.lower xw)) _] })] hsep F1 N1 ?j1 ?j2 rfl ?j3 ?j4 ?j5 ?j6 ⟨?j7, g2, g3, g4⟩ ⟨law_word p1 hword g1, law_lt p2 (word_plain hword).2.2 (gaps_lt g1), ?j8, ?j9, ?j0, row_ok p7 hword⟩
      case j1 =>
        intro p hp
        rcases List.mem_cons.mp hp with rfl | hp
        · exact .tail _ (.head _)
        · rcases List.mem_cons.mp hp with rfl | hp
          · exact .tail _ (.tail _ (.head _))
          · rcases List.mem_cons.mp hp with rfl | hp
            · exact .tail _ (.tail _ (.tail _ (.head _)))
            · rcases List.mem_cons.mp hp with rfl | hp
              · exact .head _
              · exact .tail _ (.tail _ (.tail _ (.tail _ (List.mem_append.mpr (.inl hp)))))
      case j2 => exact fun p hp => .tail _ (.tail _ (.tail _ (.tail _ (List.mem_append.mpr (.inr hp)))))
      case j3 =>
        intro q hq b hb e
        rw [List.mem_singleton.mp hq] at e
        rcases List.mem_cons.mp hb with rfl | hb
        · exact Nat.ne_of_lt l9.1 e
        · rcases List.mem_cons.mp hb with rfl | hb
          · exact Nat.ne_of_lt l9.2.1 e
          · rw [List.mem_singleton.mp hb] at e; exact Nat.ne_of_lt l9.2.2.1 e
      case j4 =>
        intro q hq p hp
        rw [List.mem_singleton.mp hq]
        exact Nat.ne_of_lt (allLt_mem l9.2.2.2 _ (List.mem_append.mpr (.inr hp)))
      case j5 =>
        intro p hp
        rcases List.mem_cons.mp hp with rfl | hp
        · rfl
        · rw [List.mem_singleton.mp hp]; rfl
      case j6 =>
        intro z h1 h2 h3
        have h4 : z ≠ ("text" : Str) := h2 _ (.head _)
        have h5 : z ≠ ("given" : Str) := h2 _ (.tail _ (.head _))
        simp only [List.contains_cons, List.contains_nil, Bool.or_false, Bool.or_eq_false_iff, beq_eq_false_iff_ne, ne_eq] at h3
        simp [h1, h3, h4, h5, kstB]
      case j7 =>
        refine fun _ => rows_more (f1 trivial) (List.mem_append.mpr (.inr (.head _))) fun p hp => ?_
        rcases List.mem_append.mp hp with hp | hp
        · exact List.mem_append.mpr (.inl hp)
        · exact List.mem_append.mpr (.inr (.tail _ hp))
      case j8 =>
        have e1 : (x ++ xw ++ xg).length = x.length + xw.length + xg.length := by rw [← lst_length, lst_append, lst_append, List.length_append, List.length_append, lst_length, lst_length, lst_length]
        dsimp only
        rw [List.length_append, List.length_singleton, e1]
        omega
      case j9 => dsimp only; rw [List.length_append, List.length_append, List.length_singleton, List.length_singleton]; omega
      case j0 => dsimp only; rw [List.length_append, List.length_append, List.length_singleton, List.length_singleton, p5]
  case g5 =>
    rintro ⟨x, tx, a, ta, vs, n, ds, i, ti, mx, tm⟩ tl u h tk hoff ⟨f1, f2, f3, f4⟩ ⟨p1, p2, p3, p4, p5, p7⟩ F N
    rw [rangeKs_length] at p3 p4
    dsimp only at f1 f2 f3 f4 p1 p2 p3 p4 p5 p7 F N
    simp only [List.cons_append, List.nil_append] at N
    have ho1 : ∀ q ∈ tl, q.1 ≠ dl := fun q hq => hoff q hq dl (.head _)
    have ho2 : ∀ q ∈ tl, q.1 ≠ l := fun q hq => hoff q hq l (.tail _ (.head _))
    have ho3 : ∀ q ∈ tl, q.1 ≠ fl := fun q hq => hoff q hq fl (.tail _ (.tail _ (.head _)))
    have hlen : x.length ≤ 144 := by omega
    have hlen2 : ds.length ≤ 8 := by omega
    open_k0
    walk1
    open_k0
    rename_i Z1 y1 w1 Z2 y2 w2 Z3 y3 w3 Z4 y4 w4 Z5 y5 w5 lq1 yq1 FX NX wq1 hX tkX htkX Z6 y6 w6 Z7 y7 w7 Z8 y8 w8 Z9 y9 w9 lq2 yq2 wq2 hY1 hY2 tkY htkY k1 ta1 ia1 tia1 ma1 tma1 ha1 tka1 d1 d2 d3 d4 d5 k2 ta2 i2 ti2 m2 tm2 h2 tk2 F2 N2 e1 e2 e3 e4 e5
    have hf : 0 ≤ k1 * k2 ∧ k1 * k2 < 9 := by
      have hc : k1 = 0 ∨ k1 = 1 := by omega
      rcases hc with rfl | rfl <;> omega
    refine' faults_item (b := b) N2 ?i1 ?i2 ?i3 ?i4 ?i5 ?i6 ?i7 ?i8 ?i9 ?i0 hf.1 hf.2 ?im
    case i1 => k_mem
    case i2 => k_mem
    case i3 => k_mem
    case i4 => k_mem
    case i5 => k_mem
    case i6 => k_mem
    case i7 => k_mem
    case i8 => k_mem
    case i9 => k_mem
    case i0 => k_mem
    case im =>
      intro T r k o t1 t2 t3 hT hF
      have hne9 : ∀ oa ob : Obj, oa.cls = .type "tuple" → ob.cls = .type "list" → oa.cls ≠ ob.cls := fun oa ob e1 e2 e => by
        rw [e1, e2] at e; have e' := Value.type.inj e; revert e'; decide
      have hT1 : T ≠ l := cls_ne N2 hT (ob := poolO fl i2 ti2 m2 tm2 np) (by k_mem) (hne9 _ _ rfl rfl)
      have hT2 : T ≠ dl := cls_ne N2 hT (ob := PySem.W.listOf vs.toArray n) (by k_mem) (hne9 _ _ rfl rfl)
      have N3 := news_sub N2 (b := (T, tupO r k o t1 t2 t3) :: (dl, PySem.W.listOf vs.toArray n) :: (l, poolO fl i2 ti2 m2 tm2 np) :: (fl, PySem.W.listOf fvs.toArray nf) :: tl) (fun p hp => by
        rcases List.mem_cons.mp hp with rfl | hp
        · exact hT
        · exact .tail _ (.tail _ (.tail _ (.tail _ (.tail _ (.tail _ (.tail _ (.tail _ (.tail _ (.tail _ (.tail _ hp)))))))))))
      clear N2 hT w1 w2 w3 w4 w5 wq1 w6 w7 w8 w9 wq2 FX NX
      have hk1 : (k2 : Int) < 9 := e2
      rcases hF with _ | ⟨fs, fr, fk, fq, fc, fo⟩
      · have hR : True → Reads b 0 (lst (x ++ ("" : Str))) none [] (.ok ds) := fun _ => reads_ok p1
        have hRc := row_lt p2 start_lt
        have hRl : (x ++ ("" : Str)).length ≤ 1000 := by rw [← lst_length, lst_append, show lst ("" : Str) = [] from by decide +kernel, List.append_nil, lst_length]; omega
        open_k0
        refine' read_spec ?R1 ?R2 ?R3 ?R4 ?R5 ?R6 ?R7 ?R8 ?R9 ?RA ?RB ?RC ?RD
        case R1 => k_asm
        case R2 => k_asm
        case R3 => k_asm
        case R4 => k_asm
        case R5 => k_asm
        case R6 => exact rfl
        case R7 => ktr_room
        case R8 => ktr_units
        case R9 => assumption
        case RA => assumption
        case RB => assumption
        case RD => intro _ _ _ _ _ _ h9; cases h9
        case RC =>
          intro rl n9 vs9 tl9 rows9 h9 tk9 z9 F9 N9 D9 l9 c9
          cases z9
          have mT : ∀ q ∈ [(T, tupO "" "" 0 t1 t2 t3), (dl, PySem.W.listOf vs.toArray n), (l, poolO fl i2 ti2 m2 tm2 np), (fl, PySem.W.listOf fvs.toArray nf)] ++ tl, q ∈ (rl, PySem.W.listOf vs9.toArray n9) :: (tl9 ++ (T, tupO "" "" 0 t1 t2 t3) :: (dl, PySem.W.listOf vs.toArray n) :: (l, poolO fl i2 ti2 m2 tm2 np) :: (fl, PySem.W.listOf fvs.toArray nf) :: tl) := fun q hq => .tail _ (List.mem_append.mpr (.inr hq))
          have hrl : rl ≠ l := fun e => l9 (l, poolO fl i2 ti2 m2 tm2 np) (List.mem_append.mpr (.inr (.tail _ (.tail _ (.head _))))) e.symm
          have N4 := news_sub N9 (b := (dl, PySem.W.listOf vs.toArray n) :: (l, poolO fl i2 ti2 m2 tm2 np) :: (fl, PySem.W.listOf fvs.toArray nf) :: (rl, PySem.W.listOf vs9.toArray n9) :: (tl9 ++ tl)) (fun q hq => by
            rcases List.mem_cons.mp hq with rfl | hq
            · exact mT _ (.tail _ (.head _))
            · rcases List.mem_cons.mp hq with rfl | hq
              · exact mT _ (.tail _ (.tail _ (.head _)))
              · rcases List.mem_cons.mp hq with rfl | hq
                · exact mT _ (.tail _ (.tail _ (.tail _ (.head _))))
                · rcases List.mem_cons.mp hq with rfl | hq
                  · exact .head _
                  · rcases List.mem_append.mp hq with hq | hq
                    · exact .tail _ (List.mem_append.mpr (.inl hq))
                    · exact mT _ (.tail _ (.tail _ (.tail _ (.tail _ hq)))))
          have hpl : (poolO fl i2 ti2 m2 tm2 np).cls = .type "list" := rfl
          have hq2 : ∀ q ∈ tl9 ++ tl, q.1 ≠ l := fun q hq => by
            rcases List.mem_append.mp hq with hq' | hq'
            · exact cls_ne N4 (.tail _ (.tail _ (.tail _ (.tail _ hq)))) (.tail _ (.head _)) (hne9 _ _ (c9 q hq') hpl)
            · exact ho2 q hq'
          clear N9 mT
          have sub1 : ∀ (o : Obj), ∀ p ∈ tl9, p ∈ (dl, PySem.W.listOf vs.toArray n) :: (l, o) :: (fl, PySem.W.listOf fvs.toArray nf) :: (rl, PySem.W.listOf vs9.toArray n9) :: (tl9 ++ tl) := fun o p hp => .tail _ (.tail _ (.tail _ (.tail _ (List.mem_append.mpr (.inl hp)))))
          have sub2 : ∀ (o : Obj), ∀ p ∈ [(fl, PySem.W.listOf fvs.toArray nf)] ++ tl, p ∈ (dl, PySem.W.listOf vs.toArray n) :: (l, o) :: (fl, PySem.W.listOf fvs.toArray nf) :: (rl, PySem.W.listOf vs9.toArray n9) :: (tl9 ++ tl) := fun o p hp => by
            rcases List.mem_cons.mp hp with rfl | hp
            · exact .tail _ (.tail _ (.head _))
            · exact .tail _ (.tail _ (.tail _ (.tail _ (List.mem_append.mpr (.inr hp)))))
          have hkq := rows_kqd p7
          open_k0
          rename News _ _ _ _ => N5
          refine' kqd_ne N5 (.tail _ (.tail _ (.tail _ (.head _)))) rfl rfl D9 (sub1 _) (.head _) rfl rfl (f1 trivial) (sub2 _) hkq hkq ?u1 ?u2
          case u1 => ke_room
          case u2 =>
            simp only [decide_true, Bool.not_true]
            open_k0
            have hl9 : ds.length ≤ 1000 := by omega
            refine' counted_spec (rows := ds) (vs := vs) ?C1 ?C2 ?C3 ?C4 ?C5 ?C6 ?C7 ?C8 ?Cm ?Cr hl9 ?CA ?CB
            case C1 => k_asm
            case C2 => k_asm
            case C3 => k_asm
            case C4 => k_asm
            case C5 => k_asm
            case C6 => exact rfl
            case C7 => ktr_room
            case C8 => ktr_units
            case Cm => exact .head _
            case Cr => exact fun _ => (f1 trivial).mono (sub2 _)
            case CA =>
              intro pl nC vsC tlC hC tkC zC outC eC FC NC DC cC
              have hkC := spots_kqd (place_lt p7 (fun _ h => by cases h) eC)
              have N6 := news_sub NC (b := (pl, PySem.W.listOf vsC.toArray nC) :: (rl, PySem.W.listOf vs9.toArray n9) :: (tlC ++ tl9)) (fun q hq => by
                rcases List.mem_cons.mp hq with rfl | hq
                · exact .head _
                · rcases List.mem_cons.mp hq with rfl | hq
                  · exact .tail _ (List.mem_append.mpr (.inr (.tail _ (.tail _ (.tail _ (.head _))))))
                  · rcases List.mem_append.mp hq with hq | hq
                    · exact .tail _ (List.mem_append.mpr (.inl hq))
                    · exact .tail _ (List.mem_append.mpr (.inr (sub1 _ _ hq))))
              clear NC
              open_k0
              refine' placed_spec (rows := ds) (vs := vs9) ?P1 ?P2 ?P3 ?P4 ?P5 ?P6 ?P7 ?P8 ?Pm ?Pr hl9 ?PA ?PB
              case P1 => k_asm
              case P2 => k_asm
              case P3 => k_asm
              case P4 => k_asm
              case P5 => k_asm
              case P6 => exact rfl
              case P7 => ktr_room
              case P8 => ktr_units
              case Pm => exact .tail _ (.head _)
              case Pr => exact fun _ => D9.mono (fun q hq => .tail _ (.tail _ (List.mem_append.mpr (.inr hq))))
              case PB => intro _ _ _ _ eP; cases eC.symm.trans eP
              case PA =>
                intro pp nP vsP tlP hP tkP zP outP eP FP NP DP cP
                cases eC.symm.trans eP
                open_k0
                rename News _ _ _ _ => N7
                refine' kqd_eq N7 (.head _) rfl rfl DP (fun q hq => .tail _ (List.mem_append.mpr (.inl hq))) (.tail _ (List.mem_append.mpr (.inr (.head _)))) rfl rfl DC (fun q hq => .tail _ (List.mem_append.mpr (.inr (.tail _ (.tail _ (List.mem_append.mpr (.inl hq))))))) hkC hkC ?v1 ?v2
                case v1 => ke_room
                case v2 =>
                  simp only [decide_true]
                  open_k0
            case CB =>
              intro hC tkC eC FC NC
              have N6 := news_sub NC (b := (rl, PySem.W.listOf vs9.toArray n9) :: tl9) (fun q hq => by
                rcases List.mem_cons.mp hq with rfl | hq
                · exact .tail _ (.tail _ (.tail _ (.head _)))
                · exact sub1 _ _ hq)
              clear NC
              open_k0
              refine' placed_spec (rows := ds) (vs := vs9) ?O1 ?O2 ?O3 ?O4 ?O5 ?O6 ?O7 ?O8 ?Om ?Or hl9 ?OA ?OB
              case O1 => k_asm
              case O2 => k_asm
              case O3 => k_asm
              case O4 => k_asm
              case O5 => k_asm
              case O6 => exact rfl
              case O7 => ktr_room
              case O8 => ktr_units
              case Om => exact .head _
              case Or => exact fun _ => D9.mono (fun q hq => .tail _ hq)
              case OA => intro _ _ _ _ _ _ _ _ eP; cases eC.symm.trans eP
              case OB =>
                intro ex9 g9 h9 tk9 eP F9 U9 R9
                refine' caught_D ?S1 F9 U9 R9 ?S2 ?S3 ?S4 ?S5
                case S1 => k_asm
                case S2 => k_asm
                case S3 => k_asm
                case S4 => rfl
                case S5 =>
                  intro h' tk oe ws dx es nn sl tk1 ti1 F N c1 c2 c3 c4 c5
                  open_k0
      · have hR : True → Reads b 0 (lst (x ++ r)) none [] (.err k (x.length + o)) := fun _ => reads_bad p1 fs fr
        have hRc := row_lt p2 fc
        have hRl : (x ++ r).length ≤ 1000 := by rw [← lst_length, lst_append, List.length_append, lst_length, lst_length]; omega
        open_k0
        refine' read_spec ?r1 ?r2 ?r3 ?r4 ?r5 ?r6 ?r7 ?r8 ?r9 ?rA ?rB ?rC ?rD
        case r1 => k_asm
        case r2 => k_asm
        case r3 => k_asm
        case r4 => k_asm
        case r5 => k_asm
        case r6 => exact rfl
        case r7 => ktr_room
        case r8 => ktr_units
        case r9 => assumption
        case rA => assumption
        case rB => assumption
        case rC => intro _ _ _ _ _ _ _ h9; cases h9
        case rD =>
          intro ex9 g9 h9 tk9 k9' i9' z9 F9 U9 R9
          cases z9
          refine' caught_D ?s1 F9 U9 R9 ?s2 ?s3 ?s4 ?s5
          case s1 => k_asm
          case s2 => k_asm
          case s3 => k_asm
          case s4 => rfl
          case s5 =>
            intro h' tk oe ws dx es nn sl tk1 ti1 F N c1 c2 c3 c4 c5
            open_k0
            rename News _ _ _ _ => N9
            refine' tup_eq N9 (.tail _ (.head _)) (.head _) ?z1 fo ?z2 ?z3
            case z1 => omega
            case z2 => ke_room
            case z3 =>
              open_k0)

end Mine
set_option maxRecDepth 100000 in
set_option maxHeartbeats 8000000 in
theorem PySem.Challenge.cw_nn0295_01_holds : PySem.Challenge.rw_nn0295_01.Holds :=
  Mine.main
