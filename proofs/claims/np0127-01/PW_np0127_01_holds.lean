import PyProof.Rows.All
import Wide.All
import OpenK.AllK
import Wide.FinOn
import Lean
import PySem.Challenge.RW_np0127_01
open PySem PySem.W PyProof.Rows
set_option Elab.async false
-- part B0
section
namespace Mine
set_option maxRecDepth 100000
set_option maxHeartbeats 8000000
open_top hd for PySem.Challenge.rw_np0127_01
end Mine
end
-- part C0
section
namespace Mine
set_option maxRecDepth 100000
set_option maxHeartbeats 8000000

/-- a text by its signs' numbers -/
def txt (T : List Nat) : Str := ⟨T.toArray⟩
theorem txt_length (T : List Nat) : (txt T).length = T.length := by simp [txt, Str.length]
theorem txt_cps (T : List Nat) : (txt T).cps.toList = T := by simp [txt]
theorem txt_of (x : Str) : x = txt x.cps.toList := by
  cases x with | mk c => simp [txt]
theorem txt_inj {S T : List Nat} (h : txt S = txt T) : S = T := by
  have := congrArg (fun x : Str => x.cps.toList) h
  simpa [txt] using this

theorem indices_clip (i j : Int) (n : Nat) (h0 : 0 ≤ i) (h1 : 0 ≤ j) :
    PySem.Builtin.Str.strSliceIndices (some i) (some j) 1 n = PySem.Builtin.Str.strSliceIndices (some (min i n)) (some (min j n)) 1 n := by
  have a : ¬ i < 0 := by omega
  have b : ¬ j < 0 := by omega
  have c : ¬ min i (n : Int) < 0 := by omega
  have d : ¬ min j (n : Int) < 0 := by omega
  simp only [PySem.Builtin.Str.strSliceIndices, a, b, c, d, if_false, show (1 : Int) > 0 by decide, if_true]
  rw [show min (min i (n : Int)) (n : Int) = min i n by omega, show min (min j (n : Int)) (n : Int) = min j n by omega]

theorem slice_txt {T : List Nat} {i j : Int} (h0 : 0 ≤ i) (h1 : i ≤ j) : PySem.Txt.slice (txt T) (some i) (some j) = txt ((T.drop i.toNat).take (j - i).toNat) := by
  have e : PySem.Txt.slice (txt T) (some i) (some j) = PySem.Txt.slice (txt T) (some (min i T.length)) (some (min j T.length)) := by
    unfold PySem.Txt.slice
    rw [indices_clip i j _ h0 (by omega), txt_length]
  rw [e]
  have h := slice_closes (x := txt T) (i := min i T.length) (j := min j T.length) (by rw [txt_cps]; omega)
  rw [beq_iff_eq] at h
  rw [h, txt_cps]
  show txt _ = txt _
  congr 1
  apply List.ext_getElem?
  intro k
  simp only [List.getElem?_take, List.getElem?_drop]
  by_cases hk : k < (j - i).toNat
  · rw [if_pos hk]
    by_cases h2 : k < (min j T.length - min i T.length).toNat
    · rw [if_pos h2]
      congr 1
      omega
    · rw [if_neg h2]
      symm
      apply List.getElem?_eq_none
      omega
  · rw [if_neg hk, if_neg (by omega)]

theorem slice_txt_from {T : List Nat} {i : Int} (h0 : 0 ≤ i) (h1 : i ≤ T.length) : PySem.Txt.slice (txt T) (some i) none = txt (T.drop i.toNat) := by
  have h := slice_closes_from (x := txt T) (i := i) (by rw [txt_cps]; omega)
  rw [beq_iff_eq] at h
  rw [h, txt_cps]
  show txt _ = txt _
  rw [List.take_of_length_le]
  rw [List.length_drop]; omega

theorem slice_txt_to {T : List Nat} {j : Int} (h0 : 0 ≤ j) : PySem.Txt.slice (txt T) none (some j) = txt (T.take j.toNat) := by
  have e : PySem.Txt.slice (txt T) none (some j) = PySem.Txt.slice (txt T) (some 0) (some j) := rfl
  rw [e, slice_txt (by omega) h0]
  simp

section
variable {prog : Program} {w : World} {A : Around} {E : Value → Shared → Prop} {s : Shared} {value slice : PySem.Expr} {T : List Nat} {t : Tok} {Q : Value → Shared → Prop}

theorem my_item {i : Int} {u : Tok} (h0 : 0 ≤ i) (h1 : i < T.length) (hT : T.length ≤ 1000) (h : Q (.str (txt [T.getD i.toNat 0]) s.toks) { s with toks := s.toks + 1 })
    (hs : subscripted slice false (.str (txt T) t) (.int i u) = operate [.str (txt T) t, .int i u] (getItem (.str (txt T) t) (.int i u)) := by with_unfolding_all rfl)
    (ht : ∀ r, letTemporaryGo value (.str (txt T) t) r = pure () := by intro _; with_unfolding_all rfl) :
    wpAny (model prog w) A (subscriptTail value slice (.str (txt T) t) (.int i u)) Q E s := by
  refine item_str (fitsSsize_of (N := 9223372036854775808) (by omega) (by omega) (Int.le_refl _)) (by rw [txt_length]; omega) (by rw [txt_length]; omega) (fun _ => ?_) hs ht
  rw [item_at (n := i.toNat) h0 (by rw [txt_length]; omega) rfl]
  have : (⟨#[(txt T).cps.getD i.toNat 0]⟩ : Str) = txt [T.getD i.toNat 0] := by
    simp [txt]
  rw [this]
  exact h

theorem my_len (hT : T.length ≤ 1000) (h : Q (.int T.length (s.toks + 1)) { s with toks := s.toks + 1 + 1 }) : wpAny (model prog w) A (call (.builtin "len") [.str (txt T) t]) Q E s := by
  refine P.len_str (by rw [txt_length]; omega) ?_
  rw [txt_length]
  exact h
end
end Mine
namespace Mine
/-- the walk halts before this -/
def Stop (P : Prop) : Prop := P
theorem Stop.at {P : Prop} (h : Stop P) : P := h
abbrev prog : Program := PySem.Challenge.rw_np0127_01.row.prog

/-- a call of one of the law's defs hands back a value that Post allows, whatever the caller -/
abbrev Cl (d : Nat) (w : World) (loose : List Str) (mean : ExcName → Option Value) (mg mb : Str → Option Value) (f : Addr) (news : List (Addr × Obj)) (vs : List Value) (Post : List (Addr × Obj) → Value → Prop) : Prop :=
  ∀ (dp un : Nat) (gd : Option (List Code)) (cn : Str) (cs : Scope) (a : Addr) (ccd : Value) (cl : List (Str × Addr)) (outer : List Env) (A₀ : Around) (base h₀ : Heap) (L : Addr) (m : Str → Option Value) (s : Shared) (Q E : Value → Shared → Prop),
    Below A₀ base outer h₀ → Fr h₀ L s.heap m → (hd.heap_39 w.params).In h₀ → News h₀ L s.heap news → Top hd.view_39 loose mean mg mb h₀ → cs.kind = .function →
    dp + d < recursionLimit → un + 8 * d < cLine →
    (∀ (v : Value) (h' : Heap) (tk' : Nat) (add : List (Addr × Obj)), Post add v → Fr h₀ L h' m → News h₀ L h' (add ++ news) → Q v { s with heap := h', toks := tk' }) →
    wpAny (model PySem.Challenge.rw_np0127_01.row.prog w) (ktrTop dp un gd cn cs L a ccd cl outer) (call (.ref f) vs) Q E s
end Mine
end
-- part P1
section
namespace Mine

/-- what digit gives for the sign of the number n -/
def dig (n : Nat) : Int :=
  if 48 ≤ n ∧ n ≤ 57 then (n : Int) - 48 else if 97 ≤ n ∧ n ≤ 122 then (n : Int) - 87 else if 65 ≤ n ∧ n ≤ 90 then (n : Int) - 55 else -1

/-- what a scan of at most k signs takes: how many, and their number -/
def scan (b lim : Int) : Nat → List Nat → Int → Nat × Int
  | 0, _, v => (0, v)
  | _ + 1, [], v => (0, v)
  | k + 1, c :: r, v => if v ≤ lim ∧ 0 ≤ dig c ∧ dig c < b then ((scan b lim k r (v * b + dig c)).1 + 1, (scan b lim k r (v * b + dig c)).2) else (0, v)

theorem scan_zero {b lim v : Int} {l : List Nat} : scan b lim 0 l v = (0, v) := by rw [scan]
theorem scan_nil {b lim v : Int} {k : Nat} : scan b lim k [] v = (0, v) := by cases k <;> rw [scan]
theorem scan_on {b lim v : Int} {k c : Nat} {r : List Nat} (h : v ≤ lim ∧ 0 ≤ dig c ∧ dig c < b) :
    scan b lim (k + 1) (c :: r) v = ((scan b lim k r (v * b + dig c)).1 + 1, (scan b lim k r (v * b + dig c)).2) := by
  rw [scan, if_pos h]
theorem scan_off {b lim v : Int} {k c : Nat} {r : List Nat} (h : ¬ (v ≤ lim ∧ 0 ≤ dig c ∧ dig c < b)) : scan b lim (k + 1) (c :: r) v = (0, v) := by
  rw [scan, if_neg h]

/-- between the turns of a scan from the place a: j signs are taken, v is their number -/
structure Inv (b lim top : Int) (T : List Nat) (a k j : Nat) (v : Int) : Prop where
  hj : j ≤ k
  hl : a + j ≤ T.length
  lo : 0 ≤ v
  hi : v ≤ top
  e1 : (scan b lim k (T.drop a) 0).1 = j + (scan b lim (k - j) (T.drop (a + j)) v).1
  e2 : (scan b lim k (T.drop a) 0).2 = (scan b lim (k - j) (T.drop (a + j)) v).2

theorem Inv.start {b lim top : Int} {T : List Nat} {a k : Nat} (ha : a ≤ T.length) (ht : 0 ≤ top) : Inv b lim top T a k 0 0 :=
  ⟨Nat.zero_le _, ha, Int.le_refl _, ht, by simp, by simp⟩

theorem drop_at {T : List Nat} {a : Nat} (h : a < T.length) : T.drop a = T.getD a 0 :: T.drop (a + 1) := by
  rw [List.drop_eq_getElem_cons h, List.getD_eq_getElem?_getD, List.getElem?_eq_getElem h]
  rfl

theorem Inv.step {b lim top : Int} {T : List Nat} {a k j : Nat} {v d : Int} (I : Inv b lim top T a k j v) (hj : j < k) (hl : a + j < T.length) (hv : v ≤ lim)
    (hd : d = dig (T.getD (a + j) 0)) (h0 : 0 ≤ d) (h1 : d < b) (hb : 0 ≤ b) (ht : ∀ x, 0 ≤ x → x ≤ lim → x * b + b ≤ top + 1) : Inv b lim top T a k (j + 1) (v * b + d) := by
  obtain ⟨_, _, lo, hi, e1, e2⟩ := I
  have hk : k - j = (k - (j + 1)) + 1 := by omega
  have hdr : T.drop (a + j) = T.getD (a + j) 0 :: T.drop (a + (j + 1)) := drop_at hl
  rw [hk, hdr, scan_on ⟨hv, hd ▸ h0, hd ▸ h1⟩, ← hd] at e1 e2
  refine ⟨hj, by omega, ?_, ?_, ?_, e2⟩
  · have := Int.mul_nonneg lo hb
    omega
  · have := ht v lo hv
    omega
  · rw [e1]
    dsimp only
    omega

theorem Inv.stop {b lim top : Int} {T : List Nat} {a k j : Nat} {v : Int} (I : Inv b lim top T a k j v)
    (h : k ≤ j ∨ T.length ≤ a + j ∨ lim < v ∨ dig (T.getD (a + j) 0) < 0 ∨ b ≤ dig (T.getD (a + j) 0)) :
    (scan b lim k (T.drop a) 0).1 = j ∧ (scan b lim k (T.drop a) 0).2 = v := by
  obtain ⟨hj, hl, lo, hi, e1, e2⟩ := I
  have key : scan b lim (k - j) (T.drop (a + j)) v = (0, v) := by
    by_cases hk : k ≤ j
    · rw [show k - j = 0 by omega]
      exact scan_zero
    · by_cases hT : T.length ≤ a + j
      · rw [List.drop_eq_nil_of_le hT, scan_nil]
      · rw [show k - j = (k - (j + 1)) + 1 by omega, drop_at (by omega)]
        exact scan_off (by omega)
  rw [e1, e2, key]
  exact ⟨rfl, rfl⟩

/-- what hex_sign gives: the text and the place -/
def hexMost (c : Nat) : Nat := if c = 117 then 4 else if c = 85 then 8 else 2
theorem hex3 (c : Nat) : (c = 117 ∧ hexMost c = 4) ∨ (c = 85 ∧ hexMost c = 8) ∨ (¬ c = 117 ∧ ¬ c = 85 ∧ hexMost c = 2) := by
  unfold hexMost
  by_cases h1 : c = 117
  · left; exact ⟨h1, by rw [if_pos h1]⟩
  · right
    by_cases h2 : c = 85
    · left; exact ⟨h2, by rw [if_neg h1, if_pos h2]⟩
    · right; exact ⟨h1, h2, by rw [if_neg h1, if_neg h2]⟩
def hexTxt (T : List Nat) (n : Nat) : List Nat :=
  if (scan 16 69631 (hexMost (T.getD n 0)) (T.drop (n + 1)) 0).1 = 0 then [T.getD n 0] else [(scan 16 69631 (hexMost (T.getD n 0)) (T.drop (n + 1)) 0).2.toNat]
def hexEnd (T : List Nat) (n : Nat) : Int := n + 1 + (scan 16 69631 (hexMost (T.getD n 0)) (T.drop (n + 1)) 0).1
def octTxt (T : List Nat) (n : Nat) : List Nat := [(scan 8 31 3 (T.drop n) 0).2.toNat]
def octEnd (T : List Nat) (n : Nat) : Int := n + (scan 8 31 3 (T.drop n) 0).1

def InvP (b lim top : Int) (T : List Nat) (a k : Nat) (p v : Int) : Prop := ∃ j : Nat, p = ((a + j : Nat) : Int) ∧ Inv b lim top T a k j v
theorem InvP.start {b lim top : Int} {T : List Nat} {a k : Nat} {p : Int} (hp : p = (a : Int)) (ha : a ≤ T.length) (ht : 0 ≤ top) : InvP b lim top T a k p 0 :=
  ⟨0, hp, Inv.start ha ht⟩
theorem InvP.next {b lim top : Int} {T : List Nat} {a k j : Nat} {v : Int} (I : Inv b lim top T a k j v) (hj : j < k) (hl : a + j < T.length) (hv : v ≤ lim)
    (h0 : 0 ≤ dig (T.getD (a + j) 0)) (h1 : dig (T.getD (a + j) 0) < b) (hb : 0 ≤ b) (ht : ∀ x, 0 ≤ x → x ≤ lim → x * b + b ≤ top + 1) :
    InvP b lim top T a k (((a + j : Nat) : Int) + 1) (v * b + dig (T.getD (a + j) 0)) :=
  ⟨j + 1, by omega, Inv.step I hj hl hv rfl h0 h1 hb ht⟩

abbrev tupO (s : Str) (t1 : Tok) (i : Int) (t2 : Tok) (c : Nat) : Obj := { cls := .type "tuple", data := .seq #[.str s t1, .int i t2] c }
theorem hex_fin0 {T : List Nat} {n j : Nat} {v : Int} {D : Addr} {t1 t2 : Tok} {c : Nat} (I : Inv 16 69631 1114111 T (n + 1) (hexMost (T.getD n 0)) j v)
    (h : hexMost (T.getD n 0) ≤ j ∨ T.length ≤ n + 1 + j ∨ 69631 < v ∨ dig (T.getD (n + 1 + j) 0) < 0 ∨ 16 ≤ dig (T.getD (n + 1 + j) 0)) (hj : j = 0) :
    [(D, tupO (txt [T.getD n 0]) t1 ((n + 1 + j : Nat) : Int) t2 c)] = [(D, tupO (txt (hexTxt T n)) t1 (hexEnd T n) t2 c)] := by
  obtain ⟨e1, e2⟩ := I.stop h
  unfold hexTxt hexEnd
  rw [e1, if_pos hj]
  rfl
theorem hex_fin1 {T : List Nat} {n j : Nat} {v : Int} {D : Addr} {t1 t2 : Tok} {c : Nat} (I : Inv 16 69631 1114111 T (n + 1) (hexMost (T.getD n 0)) j v)
    (h : hexMost (T.getD n 0) ≤ j ∨ T.length ≤ n + 1 + j ∨ 69631 < v ∨ dig (T.getD (n + 1 + j) 0) < 0 ∨ 16 ≤ dig (T.getD (n + 1 + j) 0)) (hj : ¬ j = 0) :
    [(D, tupO (txt [v.toNat]) t1 ((n + 1 + j : Nat) : Int) t2 c)] = [(D, tupO (txt (hexTxt T n)) t1 (hexEnd T n) t2 c)] := by
  obtain ⟨e1, e2⟩ := I.stop h
  unfold hexTxt hexEnd
  rw [e1, e2, if_neg hj]
  rfl
theorem oct_fin {T : List Nat} {n j : Nat} {v : Int} {D : Addr} {t1 t2 : Tok} {c : Nat} (I : Inv 8 31 255 T n 3 j v)
    (h : 3 ≤ j ∨ T.length ≤ n + j ∨ 31 < v ∨ dig (T.getD (n + j) 0) < 0 ∨ 8 ≤ dig (T.getD (n + j) 0)) :
    [(D, tupO (txt [v.toNat]) t1 ((n + j : Nat) : Int) t2 c)] = [(D, tupO (txt (octTxt T n)) t1 (octEnd T n) t2 c)] := by
  obtain ⟨e1, e2⟩ := I.stop h
  unfold octTxt octEnd
  rw [e1, e2]
  rfl

def blanks : List Nat → Nat
  | [] => 0
  | c :: r => if c = 32 ∨ c = 9 then blanks r + 1 else 0
def named (c : Nat) : Int := if c = 97 then 0 else if c = 98 then 1 else if c = 102 then 2 else if c = 110 then 3 else if c = 114 then 4 else if c = 116 then 5 else if c = 118 then 6 else -1
def bsTxt (T : List Nat) (n : Nat) : List Nat :=
  match T.drop (n + 1) with
  | [] => [92]
  | c :: _ => if 0 ≤ named c then [[7, 8, 12, 10, 13, 9, 11].getD (named c).toNat 0] else if c = 10 then [32]
    else if c = 120 ∨ c = 117 ∨ c = 85 then hexTxt T (n + 1) else if 48 ≤ c ∧ c ≤ 55 then octTxt T (n + 1) else [c]
def bsEnd (T : List Nat) (n : Nat) : Int :=
  match T.drop (n + 1) with
  | [] => n + 1
  | c :: _ => if 0 ≤ named c then n + 2 else if c = 10 then n + 2 + (blanks (T.drop (n + 2)) : Int)
    else if c = 120 ∨ c = 117 ∨ c = 85 then hexEnd T (n + 1) else if 48 ≤ c ∧ c ≤ 55 then octEnd T (n + 1) else n + 2
end Mine
end
-- part D1
section
namespace Mine
set_option maxRecDepth 100000
set_option maxHeartbeats 8000000
theorem ord_txt {prog : Program} {w : World} {A : Around} {E : Value → Shared → Prop} {s : Shared} {n : Nat} {t : Tok} {Q : Value → Shared → Prop}
    (h : Q (.int n (s.toks)) { s with toks := s.toks + 1 }) : wpAny (model prog w) A (call (.builtin "ord") [.str (txt [n]) t]) Q E s := P.ord_of_char h
local macro_rules | `(tactic| walk_at "call builtin:ord") => `(tactic| (k_here; refine ord_txt ?_))
local macro_rules | `(tactic| walk_at "call builtin:len") => `(tactic| (k_here; refine my_len (by first | omega | (simp only [List.length_cons, List.length_nil]; omega)) ?_; (try simp only [List.length_cons, List.length_nil])))

theorem digit_ok {w : World} {loose : List Str} {mean : ExcName → Option Value} {mg mb : Str → Option Value} {news : List (Addr × Obj)} {n : Nat} {t : Tok} :
  Cl 1 w loose mean mg mb 21 news [.str (txt [n]) t] (fun add v => add = [] ∧ ∃ t, v = .int (dig n) t) := by
  dsimp only [Cl]
  w_top off
  k_fill
  intros
  rename_i hret
  refine wpAny_call ?_
  k_dflt cell_enter
  k_steps
  all_goals first
    | (refine hret _ _ _ [] ⟨rfl, _, congrArg (fun i => Value.int i _) ?_⟩ (by k_asm) (by k_asm); (unfold dig; (repeat' split) <;> omega))
    | (exfalso; simp at *; done)
end Mine
end
-- part C1
section
namespace Mine
set_option maxRecDepth 100000
set_option maxHeartbeats 8000000
theorem lit_ : Str.ofString "" = txt [] := by decide +kernel
theorem lit_u : Str.ofString "u" = txt [117] := by decide +kernel
theorem lit_U : Str.ofString "U" = txt [85] := by decide +kernel
theorem lit_x : Str.ofString "x" = txt [120] := by decide +kernel
theorem lit_nl : Str.ofString "\n" = txt [10] := by decide +kernel
theorem lit_sp : Str.ofString " " = txt [32] := by decide +kernel
theorem lit_tab : Str.ofString "\t" = txt [9] := by decide +kernel
theorem lit_bs : Str.ofString "\\" = txt [92] := by decide +kernel
section
variable {prog : Program} {w : World} {A : Around} {E : Value → Shared → Prop} {s : Shared} {T : List Nat} {t u : Tok} {Q : Value → Shared → Prop}
theorem eq_one {c k : Nat} {y : Str} (hy : y = txt [k]) (h : Q (.bool (decide (c = k))) s) : wpAny (model prog w) A (compareOp .Eq (.str (txt [c]) t) (.str y u)) Q E s := by
  refine eq_str ?_
  subst hy
  have e : (txt [c] == txt [k]) = decide (c = k) := by
    by_cases h : c = k
    · subst h; simp
    · rw [decide_eq_false h]
      rw [beq_eq_false_iff_ne]
      intro h9
      have := txt_inj h9
      simp at this
      exact h this
  rw [e]
  exact h
theorem eq_emp {S : List Nat} {y : Str} (hy : y = txt []) (h : Q (.bool (decide (S = []))) s) : wpAny (model prog w) A (compareOp .Eq (.str (txt S) t) (.str y u)) Q E s := by
  refine eq_str ?_
  subst hy
  have e : (txt S == txt []) = decide (S = []) := by
    by_cases h : S = []
    · subst h; simp
    · rw [decide_eq_false h]
      rw [beq_eq_false_iff_ne]
      intro h9
      exact h (txt_inj h9)
  rw [e]
  exact h
theorem my_chr {i : Int} (h0 : 0 ≤ i) (h1 : i ≤ 1114111) (h : Q (.str (txt [i.toNat]) s.toks) { s with toks := s.toks + 1 }) : wpAny (model prog w) A (call (.builtin "chr") [.int i t]) Q E s :=
  chr_of_range h0 h1 h
theorem my_slice_ss {value slice : PySem.Expr} {h₀ : Heap} {L : Addr} {m : Str → Option Value} {news : List (Addr × Obj)} {i j : Int} {a k : Nat} {S : List Nat} {ui uj : Tok}
    (hF : Fr h₀ L s.heap m) (hN : News h₀ L s.heap news) (hS : (T.drop a).take k = S) (hi : i = a) (hj : j = a + k) (hT : T.length ≤ 1000)
    (h : ∀ (h' : Heap) (t' : Tok) (k' : Nat), Fr h₀ L h' m → News h₀ L h' news → Q (.str (txt S) t') { s with heap := h', toks := k' })
    (hs : subscripted slice false (.str (txt T) t) (.ref s.heap.objs.size) = operate [.ref s.heap.objs.size, .str (txt T) t] (getItem (.str (txt T) t) (.ref s.heap.objs.size)) := by with_unfolding_all rfl)
    (ht : ∀ r, letTemporaryGo value (.str (txt T) t) r = pure () := by intro _; with_unfolding_all rfl) :
    wpAny (model prog w) A (subscriptTail value slice (.str (txt T) t) (.ref s.heap.objs.size)) Q E
      { s with heap := s.heap.push { cls := .type "slice", data := .fields #[.int i ui, .int j uj, .none] } } := by
  refine slice_strN_ss hF hN (fun h' t' k' F' N' => ?_) hs ht (by rw [txt_length, sizeLine_eq]; omega)
  rw [slice_txt (by omega) (by omega), show i.toNat = a by omega, show (j - i).toNat = k by omega, hS]
  exact h h' t' k' F' N'
theorem my_slice_sn {value slice : PySem.Expr} {h₀ : Heap} {L : Addr} {m : Str → Option Value} {news : List (Addr × Obj)} {i : Int} {a : Nat} {S : List Nat} {ui : Tok}
    (hF : Fr h₀ L s.heap m) (hN : News h₀ L s.heap news) (hS : T.drop a = S) (hi : i = a) (ha : a ≤ T.length) (hT : T.length ≤ 1000)
    (h : ∀ (h' : Heap) (t' : Tok) (k' : Nat), Fr h₀ L h' m → News h₀ L h' news → Q (.str (txt S) t') { s with heap := h', toks := k' })
    (hs : subscripted slice false (.str (txt T) t) (.ref s.heap.objs.size) = operate [.ref s.heap.objs.size, .str (txt T) t] (getItem (.str (txt T) t) (.ref s.heap.objs.size)) := by with_unfolding_all rfl)
    (ht : ∀ r, letTemporaryGo value (.str (txt T) t) r = pure () := by intro _; with_unfolding_all rfl) :
    wpAny (model prog w) A (subscriptTail value slice (.str (txt T) t) (.ref s.heap.objs.size)) Q E
      { s with heap := s.heap.push { cls := .type "slice", data := .fields #[.int i ui, .none, .none] } } := by
  refine slice_strN_sn hF hN (fun h' t' k' F' N' => ?_) hs ht (by rw [txt_length, sizeLine_eq]; omega)
  rw [slice_txt_from (by omega) (by omega), show i.toNat = a by omega, hS]
  exact h h' t' k' F' N'
theorem my_slice_ns {value slice : PySem.Expr} {h₀ : Heap} {L : Addr} {m : Str → Option Value} {news : List (Addr × Obj)} {j : Int} {k : Nat} {S : List Nat} {uj : Tok}
    (hF : Fr h₀ L s.heap m) (hN : News h₀ L s.heap news) (hS : T.take k = S) (hj : j = k) (hT : T.length ≤ 1000)
    (h : ∀ (h' : Heap) (t' : Tok) (k' : Nat), Fr h₀ L h' m → News h₀ L h' news → Q (.str (txt S) t') { s with heap := h', toks := k' })
    (hs : subscripted slice false (.str (txt T) t) (.ref s.heap.objs.size) = operate [.ref s.heap.objs.size, .str (txt T) t] (getItem (.str (txt T) t) (.ref s.heap.objs.size)) := by with_unfolding_all rfl)
    (ht : ∀ r, letTemporaryGo value (.str (txt T) t) r = pure () := by intro _; with_unfolding_all rfl) :
    wpAny (model prog w) A (subscriptTail value slice (.str (txt T) t) (.ref s.heap.objs.size)) Q E
      { s with heap := s.heap.push { cls := .type "slice", data := .fields #[.none, .int j uj, .none] } } := by
  refine slice_strN_ns hF hN (fun h' t' k' F' N' => ?_) hs ht (by rw [txt_length, sizeLine_eq]; omega)
  rw [slice_txt_to (by omega), show j.toNat = k by omega, hS]
  exact h h' t' k' F' N'
end
end Mine
end
-- part P2
section
namespace Mine
set_option maxRecDepth 100000

theorem lit_esc : Str.ofString "\u0007\u0008\u000c\n\u000d\t\u000b" = txt [7, 8, 12, 10, 13, 9, 11] := by decide +kernel
theorem lit_names : Str.ofString "abfnrtv" = txt [97, 98, 102, 110, 114, 116, 118] := by decide +kernel

theorem find_out {T : List Nat} {c : Nat} (h : ¬ c ∈ T) : PySem.Txt.find (txt T) (txt [c]) = -1 := by
  have e := PySem.StrLaws.found_one (txt T) c
  rw [txt_cps, decide_eq_false h] at e
  have e2 : PySem.Builtin.Str.occurrences (txt T) (txt [c]) 0 (txt T).length 1 = [] := by
    have : (PySem.Builtin.Str.occurrences (txt T) ⟨#[c]⟩ 0 (txt T).length 1).isEmpty = true := by simpa using e
    exact List.isEmpty_iff.mp this
  unfold PySem.Txt.find
  rw [e2]

theorem find_named (c : Nat) : PySem.Txt.find (Str.ofString "abfnrtv") (txt [c]) = named c := by
  by_cases h : c ∈ [97, 98, 102, 110, 114, 116, 118]
  · simp only [List.mem_cons, List.not_mem_nil, or_false] at h
    rcases h with rfl | rfl | rfl | rfl | rfl | rfl | rfl <;> decide +kernel
  · rw [lit_names, find_out h]
    simp only [List.mem_cons, List.not_mem_nil, or_false, not_or] at h
    unfold named
    simp only [h, if_false]

theorem named_lt (c : Nat) : named c < 7 := by
  unfold named
  (repeat' split) <;> omega

theorem beq_txt1 (c k : Nat) : (txt [k] == txt [c]) = decide (c = k) := by
  by_cases h : c = k
  · subst h; simp
  · rw [decide_eq_false h, beq_eq_false_iff_ne]
    intro h9
    have := txt_inj h9
    simp at this
    exact h this.symm

theorem lit_0 : Str.ofString "0" = txt [48] := by decide +kernel
theorem lit_1 : Str.ofString "1" = txt [49] := by decide +kernel
theorem lit_2 : Str.ofString "2" = txt [50] := by decide +kernel
theorem lit_3 : Str.ofString "3" = txt [51] := by decide +kernel
theorem lit_4 : Str.ofString "4" = txt [52] := by decide +kernel
theorem lit_5 : Str.ofString "5" = txt [53] := by decide +kernel
theorem lit_6 : Str.ofString "6" = txt [54] := by decide +kernel
theorem lit_7 : Str.ofString "7" = txt [55] := by decide +kernel

theorem any3 (c : Nat) : ([Str.ofString "x", Str.ofString "u", Str.ofString "U"].any fun x => x == txt [c]) = decide (c = 120 ∨ c = 117 ∨ c = 85) := by
  rw [lit_x, lit_u, lit_U]
  simp only [List.any_cons, List.any_nil, beq_txt1, Bool.or_false]
  by_cases h1 : c = 120 <;> by_cases h2 : c = 117 <;> by_cases h3 : c = 85 <;> simp [h1, h2, h3]

theorem any8 (c : Nat) : ([Str.ofString "0", Str.ofString "1", Str.ofString "2", Str.ofString "3", Str.ofString "4", Str.ofString "5", Str.ofString "6", Str.ofString "7"].any fun x => x == txt [c]) = decide (48 ≤ c ∧ c ≤ 55) := by
  rw [lit_0, lit_1, lit_2, lit_3, lit_4, lit_5, lit_6, lit_7]
  simp only [List.any_cons, List.any_nil, beq_txt1, Bool.or_false]
  by_cases h : 48 ≤ c ∧ c ≤ 55
  · rw [decide_eq_true h]
    have : c = 48 ∨ c = 49 ∨ c = 50 ∨ c = 51 ∨ c = 52 ∨ c = 53 ∨ c = 54 ∨ c = 55 := by omega
    rcases this with rfl | rfl | rfl | rfl | rfl | rfl | rfl | rfl <;> decide
  · rw [decide_eq_false h]
    simp only [Bool.or_eq_false_iff, decide_eq_false_iff_not]
    omega

theorem anyB (T : List Nat) (a : Nat) : ([Str.ofString " ", Str.ofString "\t"].any fun x => x == txt ((T.drop a).take 1)) = decide (a < T.length ∧ (T.getD a 0 = 32 ∨ T.getD a 0 = 9)) := by
  rw [lit_sp, lit_tab]
  by_cases h : a < T.length
  · rw [drop_at h]
    simp only [List.take_succ_cons, List.take_zero, List.any_cons, List.any_nil, beq_txt1, Bool.or_false]
    by_cases h1 : T.getD a 0 = 32 <;> by_cases h2 : T.getD a 0 = 9 <;> simp [h, h1, h2]
  · rw [List.drop_eq_nil_of_le (by omega)]
    rw [decide_eq_false (by omega)]
    decide

theorem anyB_lt {T : List Nat} {a : Nat} (hb : ([Str.ofString " ", Str.ofString "\t"].any fun x => x == txt ((T.drop a).take 1)) = true) : a < T.length := by
  rw [anyB, decide_eq_true_eq] at hb
  exact hb.1

def BlP (T : List Nat) (a : Nat) (p : Int) : Prop := ∃ j : Nat, p = ((a + j : Nat) : Int) ∧ a + j ≤ T.length ∧ j + blanks (T.drop (a + j)) = blanks (T.drop a)
theorem BlP.start {T : List Nat} {a : Nat} {p : Int} (hp : p = (a : Int)) (ha : a ≤ T.length) : BlP T a p := ⟨0, hp, ha, by simp⟩
theorem BlP.next {T : List Nat} {a j : Nat} (h : j + blanks (T.drop (a + j)) = blanks (T.drop a)) (hb : ([Str.ofString " ", Str.ofString "\t"].any fun x => x == txt ((T.drop (a + j)).take 1)) = true) :
    BlP T a (((a + j : Nat) : Int) + 1) := by
  rw [anyB, decide_eq_true_eq] at hb
  refine ⟨j + 1, by omega, by omega, ?_⟩
  rw [drop_at hb.1, blanks, if_pos hb.2] at h
  rw [← h]
  show j + 1 + blanks (T.drop (a + j + 1)) = _
  omega
theorem bl_stop {T : List Nat} {a j : Nat} (h : j + blanks (T.drop (a + j)) = blanks (T.drop a)) (hb : ([Str.ofString " ", Str.ofString "\t"].any fun x => x == txt ((T.drop (a + j)).take 1)) = false) :
    blanks (T.drop a) = j := by
  rw [anyB, decide_eq_false_iff_not] at hb
  have e : blanks (T.drop (a + j)) = 0 := by
    by_cases hl : a + j < T.length
    · rw [drop_at hl, blanks, if_neg (fun q => hb ⟨hl, q⟩)]
    · rw [List.drop_eq_nil_of_le (by omega), blanks]
  omega

section
variable {T : List Nat} {n c : Nat} {r : List Nat} {D : Addr} {t1 t2 : Tok} {k : Nat}
theorem bs_0 (hd : T.drop (n + 1) = []) : [(D, tupO (Str.ofString "\\") t1 ((n : Int) + 1) t2 k)] = [(D, tupO (txt (bsTxt T n)) t1 (bsEnd T n) t2 k)] := by
  unfold bsTxt bsEnd
  rw [hd, lit_bs]
theorem bs_1 (hd : T.drop (n + 1) = c :: r) (h1 : 0 ≤ PySem.Txt.find (Str.ofString "abfnrtv") (txt [c])) :
    [(D, tupO (txt [[7, 8, 12, 10, 13, 9, 11].getD (PySem.Txt.find (Str.ofString "abfnrtv") (txt [c])).toNat 0]) t1 ((n : Int) + 2) t2 k)] = [(D, tupO (txt (bsTxt T n)) t1 (bsEnd T n) t2 k)] := by
  rw [find_named] at h1 ⊢
  unfold bsTxt bsEnd
  rw [hd]
  dsimp only
  rw [if_pos h1, if_pos h1]
theorem bs_1b (hd : T.drop (n + 1) = c :: r) (h1 : 0 ≤ PySem.Txt.find (Str.ofString "abfnrtv") (txt [c])) :
    [(D, tupO (PySem.Txt.item (Str.ofString "\u0007\u0008\u000c\n\u000d\t\u000b") (PySem.Txt.find (Str.ofString "abfnrtv") (txt [c]))) t1 ((n : Int) + 2) t2 k)] = [(D, tupO (txt (bsTxt T n)) t1 (bsEnd T n) t2 k)] := by
  have e : PySem.Txt.item (Str.ofString "\u0007\u0008\u000c\n\u000d\t\u000b") (PySem.Txt.find (Str.ofString "abfnrtv") (txt [c])) = txt [[7, 8, 12, 10, 13, 9, 11].getD (PySem.Txt.find (Str.ofString "abfnrtv") (txt [c])).toNat 0] := by
    have h7 : PySem.Txt.find (Str.ofString "abfnrtv") (txt [c]) < 7 := by rw [find_named]; exact named_lt c
    rw [lit_esc, item_at (n := (PySem.Txt.find (Str.ofString "abfnrtv") (txt [c])).toNat) h1 (by rw [txt_length]; simp only [List.length_cons, List.length_nil]; omega) rfl]
    simp [txt]
  rw [e]
  exact bs_1 hd h1
theorem bs_2 {j : Nat} (hd : T.drop (n + 1) = c :: r) (h1 : ¬ 0 ≤ PySem.Txt.find (Str.ofString "abfnrtv") (txt [c])) (h2 : c = 10)
    (h : j + blanks (T.drop (n + 2 + j)) = blanks (T.drop (n + 2))) (hb : ([Str.ofString " ", Str.ofString "\t"].any fun x => x == txt ((T.drop (n + 2 + j)).take 1)) = false) :
    [(D, tupO (Str.ofString " ") t1 ((n + 2 + j : Nat) : Int) t2 k)] = [(D, tupO (txt (bsTxt T n)) t1 (bsEnd T n) t2 k)] := by
  rw [find_named] at h1
  have e := bl_stop h hb
  unfold bsTxt bsEnd
  rw [hd]
  dsimp only
  rw [if_neg h1, if_neg h1, if_pos h2, if_pos h2, lit_sp, e]
  have : ((n + 2 + j : Nat) : Int) = (n : Int) + 2 + (j : Int) := by omega
  rw [this]
theorem bs_3 (hd : T.drop (n + 1) = c :: r) (h1 : ¬ 0 ≤ PySem.Txt.find (Str.ofString "abfnrtv") (txt [c])) (h2 : ¬ c = 10)
    (h3 : ([Str.ofString "x", Str.ofString "u", Str.ofString "U"].any fun x => x == txt [c]) = true) :
    [(D, tupO (txt (hexTxt T (n + 1))) t1 (hexEnd T (n + 1)) t2 k)] = [(D, tupO (txt (bsTxt T n)) t1 (bsEnd T n) t2 k)] := by
  rw [find_named] at h1
  rw [any3, decide_eq_true_eq] at h3
  unfold bsTxt bsEnd
  rw [hd]
  dsimp only
  rw [if_neg h1, if_neg h1, if_neg h2, if_neg h2, if_pos h3, if_pos h3]
theorem bs_4 (hd : T.drop (n + 1) = c :: r) (h1 : ¬ 0 ≤ PySem.Txt.find (Str.ofString "abfnrtv") (txt [c])) (h2 : ¬ c = 10)
    (h3 : ([Str.ofString "x", Str.ofString "u", Str.ofString "U"].any fun x => x == txt [c]) = false)
    (h4 : ([Str.ofString "0", Str.ofString "1", Str.ofString "2", Str.ofString "3", Str.ofString "4", Str.ofString "5", Str.ofString "6", Str.ofString "7"].any fun x => x == txt [c]) = true) :
    [(D, tupO (txt (octTxt T (n + 1))) t1 (octEnd T (n + 1)) t2 k)] = [(D, tupO (txt (bsTxt T n)) t1 (bsEnd T n) t2 k)] := by
  rw [find_named] at h1
  rw [any3, decide_eq_false_iff_not] at h3
  rw [any8, decide_eq_true_eq] at h4
  unfold bsTxt bsEnd
  rw [hd]
  dsimp only
  rw [if_neg h1, if_neg h1, if_neg h2, if_neg h2, if_neg h3, if_neg h3, if_pos h4, if_pos h4]
theorem bs_5 (hd : T.drop (n + 1) = c :: r) (h1 : ¬ 0 ≤ PySem.Txt.find (Str.ofString "abfnrtv") (txt [c])) (h2 : ¬ c = 10)
    (h3 : ([Str.ofString "x", Str.ofString "u", Str.ofString "U"].any fun x => x == txt [c]) = false)
    (h4 : ([Str.ofString "0", Str.ofString "1", Str.ofString "2", Str.ofString "3", Str.ofString "4", Str.ofString "5", Str.ofString "6", Str.ofString "7"].any fun x => x == txt [c]) = false) :
    [(D, tupO (txt [c]) t1 ((n : Int) + 2) t2 k)] = [(D, tupO (txt (bsTxt T n)) t1 (bsEnd T n) t2 k)] := by
  rw [find_named] at h1
  rw [any3, decide_eq_false_iff_not] at h3
  rw [any8, decide_eq_false_iff_not] at h4
  unfold bsTxt bsEnd
  rw [hd]
  dsimp only
  rw [if_neg h1, if_neg h1, if_neg h2, if_neg h2, if_neg h3, if_neg h3, if_neg h4, if_neg h4]
end

theorem news_pick {h₀ h : Heap} {L : Addr} {l news : List (Addr × Obj)} {x : Addr × Obj} (N : News h₀ L h l) (hx : x ∈ l) (hn : ∀ p ∈ news, p ∈ l) : News h₀ L h ([x] ++ news) := by
  intro p hp
  rcases List.mem_cons.mp hp with rfl | hp
  · exact N _ hx
  · exact N _ (hn _ hp)
section
variable {prog : Program} {w : World} {A : Around} {E : Value → Shared → Prop} {s : Shared} {T : List Nat} {t u : Tok} {Q : Value → Shared → Prop}
theorem my_itemL {value slice : PySem.Expr} {x : Str} {i : Int} (hx : x = txt T) (h0 : 0 ≤ i) (h1 : i < T.length) (hT : T.length ≤ 1000) (h : Q (.str (txt [T.getD i.toNat 0]) s.toks) { s with toks := s.toks + 1 })
    (hs : subscripted slice false (.str x t) (.int i u) = operate [.str x t, .int i u] (getItem (.str x t) (.int i u)) := by with_unfolding_all rfl)
    (ht : ∀ r, letTemporaryGo value (.str x t) r = pure () := by intro _; with_unfolding_all rfl) :
    wpAny (model prog w) A (subscriptTail value slice (.str x t) (.int i u)) Q E s := by
  subst hx
  exact my_item h0 h1 hT h hs ht
theorem eq_one_emp {c : Nat} (h : Q (.bool false) s) : wpAny (model prog w) A (compareOp .Eq (.str (txt [c]) t) (.str (Str.ofString "") u)) Q E s := by
  refine eq_emp lit_ ?_
  exact h
theorem eq_emp_emp (h : Q (.bool true) s) : wpAny (model prog w) A (compareOp .Eq (.str (txt []) t) (.str (Str.ofString "") u)) Q E s := by
  refine eq_emp lit_ ?_
  exact h
end
end Mine
end
-- part D2
section
namespace Mine
set_option maxRecDepth 100000
set_option maxHeartbeats 8000000
local macro_rules | `(tactic| walk_at "exec While BoolOp") => `(tactic| (k_dflt (walk_at "mine w1")))
local macro_rules | `(tactic| walk_at "KswEnd") => `(tactic| (k_dflt (walk_at "mineKsw")))
local macro_rules | `(tactic| walk_at "compareOp Eq str str") => `(tactic| (k_here; (refine eq_one (by first | exact lit_u | exact lit_U) ?_)))
local macro_rules | `(tactic| walk_at "subscriptTail Name Name str int") => `(tactic| (k_here; (refine my_item (by omega) (by omega) (by omega) ?_); (try simp only [Int.toNat_natCast])))
local macro_rules | `(tactic| walk_at "call builtin:len") => `(tactic| (k_here; refine my_len (by omega) ?_))
local macro_rules | `(tactic| walk_at "call builtin:chr") => `(tactic| (k_here; refine my_chr (by omega) (by omega) ?_))
local macro_rules | `(tactic| walk_at "call ref") => `(tactic| (k_dflt (walk_at "mine w2")))

theorem fr_congr {h₀ h : Heap} {L : Addr} {m m' : Str → Option Value} (F : Fr h₀ L h m) (e : ∀ y, m y = m' y) : Fr h₀ L h m' := by
  have e' : m = m' := funext e
  rw [← e']
  exact F
/-- where the three ways to hex_sign's «most» meet -/
def HexJ (g : Heap) (L : Addr) (news : List (Addr × Obj)) (m₀ : Str → Option Value) (s : Shared) (T : List Nat) (n : Nat) (f : Flow) (s' : Shared) : Prop :=
  f = .next ∧ ∃ h' tk mo t, s' = { s with heap := h', toks := tk } ∧ Fr g L h' (fun y => if y = Str.ofString "most" then some (.int mo t) else m₀ y) ∧ News g L h' news ∧ mo = (n : Int) + 1 + (hexMost (T.getD n 0) : Int)
structure HexMark : Prop where
section
variable {M : Model} {A : Around} {E : Value → Shared → Prop} {s : Shared} {c : Sem Flow} {Q : Flow → Shared → Prop} {g h' : Heap} {L : Addr} {news : List (Addr × Obj)} {m₀ : Str → Option Value} {T : List Nat} {n tk : Nat} {mo : Int} {t : Tok}
theorem hexJ_set (F : Fr g L h' (fun y => if y = Str.ofString "most" then some (.int mo t) else m₀ y)) (N : News g L h' news)
    (e : mo = (n : Int) + 1 + (hexMost (T.getD n 0) : Int)) : HexJ g L news m₀ s T n .next { s with heap := h', toks := tk } := ⟨rfl, h', tk, mo, t, rfl, F, N, e⟩
theorem hexJ_keep (F : Fr g L h' m₀) (N : News g L h' news) (hm : m₀ (Str.ofString "most") = some (.int mo t))
    (e : mo = (n : Int) + 1 + (hexMost (T.getD n 0) : Int)) : HexJ g L news m₀ s T n .next { s with heap := h', toks := tk } :=
  ⟨rfl, h', tk, mo, t, rfl, fr_congr F (fun y => by
    by_cases h : y = Str.ofString "most"
    · rw [if_pos h, h]; exact hm
    · rw [if_neg h]), N, e⟩
theorem meet_hex (_F : Fr g L s.heap m₀) (_N : News g L s.heap news) (h : HexMark → wpAny M A c (HexJ g L news m₀ s T n) E s)
    (hk : ∀ h' tk mo t, Fr g L h' (fun y => if y = Str.ofString "most" then some (.int mo t) else m₀ y) → News g L h' news → mo = (n : Int) + 1 + (hexMost (T.getD n 0) : Int) → Q .next { s with heap := h', toks := tk }) : wpAny M A c Q E s := by
  refine wpAny_mono (h ⟨⟩) (fun f s' hJ => ?_) fun _ _ e => e
  obtain ⟨rfl, h', tk, mo, t, rfl, F, N, e⟩ := hJ
  exact hk h' tk mo t F N e
end
local macro_rules | `(tactic| walk_at "exec If Compare") => `(tactic| (k_here; (with_reducible show wpAny _ _ (exec (PySem.Stmt.If _ _ (_ :: _) _) _) _ _ _); (fail_if_success (rename HexMark => hM)); refine Stop.at ?_))
theorem hex_ok {w : World} {loose : List Str} {mean : ExcName → Option Value} {mg mb : Str → Option Value} {news : List (Addr × Obj)} {T : List Nat} {n : Nat} {t u : Tok}
  (hx : T.length ≤ 64) (hn : n < T.length) :
  Cl 2 w loose mean mg mb 28 news [.str (txt T) t, .int n u] (fun add v => ∃ D t1 t2 c, v = .ref D ∧ add = [(D, ({ cls := .type "tuple", data := .seq #[.str (txt (hexTxt T n)) t1, .int (hexEnd T n) t2] c } : Obj))]) := by
  have hK := hex3 (T.getD n 0)
  dsimp only [Cl]
  k_with_none
  k_with "mine w1" => (k_here;  (rename Fr _ _ _ _ => F9); (rename News _ _ _ _ => N9);  (with_unfolding_all refine' ksw_while (fun _ => news) (fun c : Int × Int × Tok × Tok => [(Str.ofString "place", .int c.1 c.2.2.1), (Str.ofString "value", .int c.2.1 c.2.2.2)]) (fun _ => True) [Str.ofString "step"] (fun c => InvP 16 69631 1114111 T (n + 1) (hexMost (List.getD T n 0)) c.1 c.2.1) (fun c => ((n : Int) + 20 - c.1).toNat) (_, _, _, _) F9 N9 trivial ?kk ?kp ?_);  (case kk => kst_all);  (case kp => exact InvP.start (by first | rfl | (dsimp only; omega)) (by omega) (by omega));  (intro c' u' h' tk' hf' hI' F' N'); (obtain ⟨p', v', q', r'⟩ := c'); (try dsimp only at hI' F' N'); (obtain ⟨j', hp', hI'⟩ := hI'); (subst hp'); (have hI1 := Inv.hj hI'); (have hI2 := Inv.hl hI'); (have hI3 := Inv.lo hI'); (have hI4 := Inv.hi hI'); (try dsimp only); (try k_fold); (try k_sweep))
  k_with "mineKsw" => ((rename News _ _ _ _ => nE'); (refine' ksw_end (⟨_, _, _, _⟩ : Int × Int × Tok × Tok) ?F nE' (fun _ h => h) trivial ?kk ?kr ?kp ?km);  (case F => k_asm); (case kk => kst_all); (case kr => (intro z h2 h3; (have h4 : ¬ z = Str.ofString "step" := (fun e => absurd h3 (by rw [e]; simp))); (have h5 := h2 _ (.head _)); (have h6 := h2 _ (.tail _ (.head _))); (dsimp only at h5 h6); (simp only [kstB, h3, h4, h5, h6, if_false, Bool.false_eq_true]))); (case kp => refine InvP.next (by assumption) ?_ ?_ ?_ ?_ ?_ ?_ ?_; (all_goals first | omega | (intro x h0 h1; omega))); (case km => (dsimp only; omega)))
  k_with "mine w2" => (k_here; (with_reducible show wpAny _ _ (call (Value.ref _) [Value.str (txt [_]) _]) _ _ _);  (with_unfolding_all refine' digit_ok _ _ _ _ _ _ _ _ _ _ _ _ _ _ _ _ _ ?k1 ?k2 ?k3 ?k4 ?k5 ?k6 ?k7 ?k8 ?_);  (case k1 => k_asm); (case k2 => k_asm); (case k3 => k_asm); (case k4 => k_asm); (case k5 => k_asm); (case k6 => first | exact rfl | assumption); (case k7 => ktr_room); (case k8 => ktr_units);  (intro v' h' tk' add' hP' F' N'); (obtain ⟨eA', t', eV'⟩ := hP'); (subst eA'); (subst eV'); (try dsimp only [List.nil_append] at N'); (try dsimp only); (try k_fold); (try k_sweep))
  w_top off
  k_fill
  intros
  rename_i hret
  refine wpAny_call ?_
  k_dflt cell_enter
  k_steps
  unfold Stop
  rename Fr _ _ _ _ => F9
  rename News _ _ _ _ => N9
  with_unfolding_all refine meet_hex (T := T) (n := n) F9 N9 (fun hM9 => ?_) (fun h' tk mo t F' N' e' => ?_)
  · (try k_fold)
    k_steps
    all_goals first
      | (refine hexJ_set (by assumption) (by assumption) (by omega); done)
      | (refine hexJ_keep (by assumption) (by assumption) (by with_unfolding_all rfl) (by omega); done)
      | w_report
  · clear F9 N9
    (try k_fold)
    k_steps
    all_goals first
    | (refine hret (.ref _) _ _ [(_, _)] ⟨_, _, _, _, rfl, hex_fin0 (by assumption) (by omega) (by omega)⟩ (by k_asm) (by k_asm); done)
    | (refine hret (.ref _) _ _ [(_, _)] ⟨_, _, _, _, rfl, hex_fin1 (by assumption) (by omega) (by omega)⟩ (by k_asm) (by k_asm); done)
    | w_report
end Mine
end
-- part D3
section
namespace Mine
set_option maxRecDepth 100000
set_option maxHeartbeats 8000000
local macro_rules | `(tactic| walk_at "exec While BoolOp") => `(tactic| (k_dflt (walk_at "mine w1")))
local macro_rules | `(tactic| walk_at "KswEnd") => `(tactic| (k_dflt (walk_at "mineKsw")))
local macro_rules | `(tactic| walk_at "compareOp Eq str str") => `(tactic| (k_here; (refine eq_one (by first | exact lit_u | exact lit_U) ?_)))
local macro_rules | `(tactic| walk_at "subscriptTail Name Name str int") => `(tactic| (k_here; (refine my_item (by omega) (by omega) (by omega) ?_); (try simp only [Int.toNat_natCast])))
local macro_rules | `(tactic| walk_at "call builtin:len") => `(tactic| (k_here; refine my_len (by omega) ?_))
local macro_rules | `(tactic| walk_at "call builtin:chr") => `(tactic| (k_here; refine my_chr (by omega) (by omega) ?_))
local macro_rules | `(tactic| walk_at "call ref") => `(tactic| (k_dflt (walk_at "mine w2")))

theorem oct_ok {w : World} {loose : List Str} {mean : ExcName → Option Value} {mg mb : Str → Option Value} {news : List (Addr × Obj)} {T : List Nat} {n : Nat} {t u : Tok}
  (hx : T.length ≤ 64) (hn : n < T.length) :
  Cl 2 w loose mean mg mb 35 news [.str (txt T) t, .int n u] (fun add v => ∃ D t1 t2 c, v = .ref D ∧ add = [(D, ({ cls := .type "tuple", data := .seq #[.str (txt (octTxt T n)) t1, .int (octEnd T n) t2] c } : Obj))]) := by
  dsimp only [Cl]
  k_with_none
  k_with "mine w1" => (k_here;  (rename Fr _ _ _ _ => F9); (rename News _ _ _ _ => N9);  (with_unfolding_all refine' ksw_while (fun _ => news) (fun c : Int × Int × Tok × Tok => [(Str.ofString "place", .int c.1 c.2.2.1), (Str.ofString "value", .int c.2.1 c.2.2.2)]) (fun _ => True) [Str.ofString "step"] (fun c => InvP 8 31 255 T n 3 c.1 c.2.1) (fun c => ((n : Int) + 20 - c.1).toNat) (_, _, _, _) F9 N9 trivial ?kk ?kp ?_);  (case kk => kst_all);  (case kp => exact InvP.start (by first | rfl | (dsimp only; omega)) (by omega) (by omega));  (intro c' u' h' tk' hf' hI' F' N'); (obtain ⟨p', v', q', r'⟩ := c'); (try dsimp only at hI' F' N'); (obtain ⟨j', hp', hI'⟩ := hI'); (subst hp'); (have hI1 := Inv.hj hI'); (have hI2 := Inv.hl hI'); (have hI3 := Inv.lo hI'); (have hI4 := Inv.hi hI'); (try dsimp only); (try k_fold); (try k_sweep))
  k_with "mineKsw" => ((rename News _ _ _ _ => nE'); (refine' ksw_end (⟨_, _, _, _⟩ : Int × Int × Tok × Tok) ?F nE' (fun _ h => h) trivial ?kk ?kr ?kp ?km);  (case F => k_asm); (case kk => kst_all); (case kr => (intro z h2 h3; (have h4 : ¬ z = Str.ofString "step" := (fun e => absurd h3 (by rw [e]; simp))); (have h5 := h2 _ (.head _)); (have h6 := h2 _ (.tail _ (.head _))); (dsimp only at h5 h6); (simp only [kstB, h3, h4, h5, h6, if_false, Bool.false_eq_true]))); (case kp => refine InvP.next (by assumption) ?_ ?_ ?_ ?_ ?_ ?_ ?_; (all_goals first | omega | (intro x h0 h1; omega))); (case km => (dsimp only; omega)))
  k_with "mine w2" => (k_here; (with_reducible show wpAny _ _ (call (Value.ref _) [Value.str (txt [_]) _]) _ _ _);  (with_unfolding_all refine' digit_ok _ _ _ _ _ _ _ _ _ _ _ _ _ _ _ _ _ ?k1 ?k2 ?k3 ?k4 ?k5 ?k6 ?k7 ?k8 ?_);  (case k1 => k_asm); (case k2 => k_asm); (case k3 => k_asm); (case k4 => k_asm); (case k5 => k_asm); (case k6 => first | exact rfl | assumption); (case k7 => ktr_room); (case k8 => ktr_units);  (intro v' h' tk' add' hP' F' N'); (obtain ⟨eA', t', eV'⟩ := hP'); (subst eA'); (subst eV'); (try dsimp only [List.nil_append] at N'); (try dsimp only); (try k_fold); (try k_sweep))
  w_top off
  k_fill
  intros
  rename_i hret
  refine wpAny_call ?_
  k_dflt cell_enter
  k_steps
  all_goals first
    | (refine hret (.ref _) _ _ [(_, _)] ⟨_, _, _, _, rfl, oct_fin (by assumption) (by omega)⟩ (by k_asm) (by k_asm); done)
    | w_report
end Mine
end
-- part D4
section
namespace Mine
set_option maxRecDepth 100000
set_option maxHeartbeats 8000000
local macro_rules | `(tactic| walk_at "subscriptTail Name Slice str ref") => `(tactic| (k_here; k_dflt (first | walk_at "mine slice1" | walk_at "mine slice2")))
local macro_rules | `(tactic| walk_at "subscriptTail Name Name str int") => `(tactic| (k_here; k_dflt (refine my_itemL lit_esc (by omega) (by simp only [List.length_cons, List.length_nil]; omega) (by decide) ?_)))
local macro_rules | `(tactic| walk_at "compareOp Eq str str") => `(tactic| (k_here; first | (refine eq_one_emp ?_) | (refine eq_emp_emp ?_) | (refine eq_one lit_nl ?_)))
local macro_rules | `(tactic| walk_at "exec While Compare") => `(tactic| (k_here; k_dflt (walk_at "mine while")))
local macro_rules | `(tactic| walk_at "KswEnd") => `(tactic| (k_dflt (walk_at "mineKsw")))
local macro_rules | `(tactic| walk_at "call ref") => `(tactic| (k_here; k_dflt (walk_at "mine call")))
theorem bs_ok1 {w : World} {loose : List Str} {mean : ExcName → Option Value} {mg mb : Str → Option Value} {news : List (Addr × Obj)} {T : List Nat} {n : Nat} {t u : Tok}
  (hx : T.length ≤ 64) (c : Nat) (r : List Nat) (hd : T.drop (n + 1) = c :: r) :
  Cl 3 w loose mean mg mb 42 news [.str (txt T) t, .int n u] (fun add v => ∃ D t1 t2 c, v = .ref D ∧ add = [(D, ({ cls := .type "tuple", data := .seq #[.str (txt (bsTxt T n)) t1, .int (bsEnd T n) t2] c } : Obj))]) := by
  have hS : (T.drop (n + 1)).take 1 = [c] := by rw [hd]; rfl
  have hl1 : n + 1 < T.length := by
    have := congrArg List.length hd
    simp only [List.length_drop, List.length_cons] at this
    omega
  have hf7 : PySem.Txt.find (Str.ofString "abfnrtv") (txt [c]) < 7 := by rw [find_named]; exact named_lt c
  dsimp only [Cl]
  k_with_none
  k_with "mine slice1" => ((rename Fr _ _ _ _ => F'); (rename News _ _ _ _ => N'); (refine' my_slice_ss (s := ⟨_, _, _, _, _⟩) F' N' ?hS ?hi ?hj ?hT ?_; (case hS => assumption); (case hi => omega); (case hj => omega); (case hT => omega)); (intro h'' t'' k'' F'' N''); (try k_sweep))
  k_with "mine slice2" => ((rename Fr _ _ _ _ => F'); (rename News _ _ _ _ => N'); (refine' my_slice_ss (s := ⟨_, _, _, _, _⟩) (k := 1) F' N' ?hS ?hi ?hj ?hT ?_; (case hS => exact rfl); (case hi => exact rfl); (case hj => omega); (case hT => omega)); (intro h'' t'' k'' F'' N''); (try k_sweep))
  k_with "mine while" => (  (rename Fr _ _ _ _ => F9); (rename News _ _ _ _ => N9);  (with_unfolding_all refine' ksw_while (fun _ => news) (fun c : Int × Tok => [(Str.ofString "behind", .int c.1 c.2)]) (fun _ => True) [] (fun c => BlP T (n + 2) c.1) (fun c => ((List.length T : Int) - c.1).toNat) (_, _) F9 N9 trivial ?kk ?kp ?_);  (case kk => kst_all);  (case kp => exact BlP.start (by first | rfl | (dsimp only; omega)) (by omega));  (intro c' u' h' tk' hf' hI' F' N'); (obtain ⟨p', q'⟩ := c'); (try dsimp only at hI' F' N'); (obtain ⟨j', hp', hI1, hI2⟩ := hI'); (subst hp'); (try dsimp only); (try k_fold); (try k_sweep))
  k_with "mineKsw" => ((rename News _ _ _ _ => nE'); (refine' ksw_end (⟨_, _⟩ : Int × Tok) ?F nE' ?hn trivial ?kk ?kr ?kp ?km);  (case F => k_asm); (case hn => (intro p hp; (repeat (first | exact hp | refine List.Mem.tail _ ?_)))); (case kk => kst_all);  (case kr => (intro z h2 h3; (have h5 := h2 _ (.head _)); (dsimp only at h5); (simp only [kstB, h5, if_false, List.contains_nil, Bool.false_eq_true])));  (case kp => exact BlP.next (by assumption) (by assumption));  (case km => ((have hb9 := anyB_lt (by assumption)); dsimp only; omega)))
  k_with "mine call" => (  (first | with_unfolding_all refine' hex_ok (by assumption) (by assumption) _ _ _ _ _ _ _ _ _ _ _ _ _ _ _ _ _ ?k1 ?k2 ?k3 ?k4 ?k5 ?k6 ?k7 ?k8 ?_ | with_unfolding_all refine' oct_ok (by assumption) (by assumption) _ _ _ _ _ _ _ _ _ _ _ _ _ _ _ _ _ ?k1 ?k2 ?k3 ?k4 ?k5 ?k6 ?k7 ?k8 ?_);  (case k1 => k_asm); (case k2 => k_asm); (case k3 => k_asm); (case k4 => k_asm); (case k5 => k_asm); (case k6 => first | exact rfl | assumption); (case k7 => ktr_room); (case k8 => ktr_units);  (intro v' h' tk' add' hP' F' N'); (obtain ⟨D', t1', t2', c', eV', eA'⟩ := hP'); (subst eA'); (subst eV'); (try dsimp only [List.cons_append, List.nil_append] at N'); (try dsimp only); (try k_fold); (try k_sweep))
  k_with "mine end" => ((refine' hret (.ref _) _ _ [(_, _)] ⟨_, _, _, _, rfl, ?eq⟩ ?F (news_pick ?N ?hx ?hn));  (case F => k_asm); (case N => k_asm); (case hx => k_mem); (case hn => (intro p hp; (repeat (first | exact hp | refine List.Mem.tail _ ?_))));  (case eq => first | exact bs_0 hd | exact bs_1 hd (by assumption) | exact bs_1b hd (by assumption) | exact bs_2 hd (by assumption) (by assumption) (by assumption) (by assumption) | exact bs_3 hd (by assumption) (by assumption) (by assumption) | exact bs_4 hd (by assumption) (by assumption) (by assumption) (by assumption) | exact bs_5 hd (by assumption) (by assumption) (by assumption) (by assumption)))
  w_top off
  k_fill
  intros
  rename_i hret
  refine wpAny_call ?_
  k_dflt cell_enter
  k_steps
  all_goals first
    | walk_at "mine end"
    | w_report
theorem bs_ok0 {w : World} {loose : List Str} {mean : ExcName → Option Value} {mg mb : Str → Option Value} {news : List (Addr × Obj)} {T : List Nat} {n : Nat} {t u : Tok}
  (hx : T.length ≤ 64) (hn : n < T.length) (hd : T.drop (n + 1) = []) :
  Cl 3 w loose mean mg mb 42 news [.str (txt T) t, .int n u] (fun add v => ∃ D t1 t2 c, v = .ref D ∧ add = [(D, ({ cls := .type "tuple", data := .seq #[.str (txt (bsTxt T n)) t1, .int (bsEnd T n) t2] c } : Obj))]) := by
  have hS : (T.drop (n + 1)).take 1 = [] := by rw [hd]; rfl
  dsimp only [Cl]
  k_with_none
  k_with "mine slice1" => ((rename Fr _ _ _ _ => F'); (rename News _ _ _ _ => N'); (refine' my_slice_ss (s := ⟨_, _, _, _, _⟩) F' N' ?hS ?hi ?hj ?hT ?_; (case hS => assumption); (case hi => omega); (case hj => omega); (case hT => omega)); (intro h'' t'' k'' F'' N''); (try k_sweep))
  k_with "mine slice2" => ((rename Fr _ _ _ _ => F'); (rename News _ _ _ _ => N'); (refine' my_slice_ss (s := ⟨_, _, _, _, _⟩) (k := 1) F' N' ?hS ?hi ?hj ?hT ?_; (case hS => exact rfl); (case hi => exact rfl); (case hj => omega); (case hT => omega)); (intro h'' t'' k'' F'' N''); (try k_sweep))
  k_with "mine while" => (  (rename Fr _ _ _ _ => F9); (rename News _ _ _ _ => N9);  (with_unfolding_all refine' ksw_while (fun _ => news) (fun c : Int × Tok => [(Str.ofString "behind", .int c.1 c.2)]) (fun _ => True) [] (fun c => BlP T (n + 2) c.1) (fun c => ((List.length T : Int) - c.1).toNat) (_, _) F9 N9 trivial ?kk ?kp ?_);  (case kk => kst_all);  (case kp => exact BlP.start (by first | rfl | (dsimp only; omega)) (by omega));  (intro c' u' h' tk' hf' hI' F' N'); (obtain ⟨p', q'⟩ := c'); (try dsimp only at hI' F' N'); (obtain ⟨j', hp', hI1, hI2⟩ := hI'); (subst hp'); (try dsimp only); (try k_fold); (try k_sweep))
  k_with "mineKsw" => ((rename News _ _ _ _ => nE'); (refine' ksw_end (⟨_, _⟩ : Int × Tok) ?F nE' ?hn trivial ?kk ?kr ?kp ?km);  (case F => k_asm); (case hn => (intro p hp; (repeat (first | exact hp | refine List.Mem.tail _ ?_)))); (case kk => kst_all);  (case kr => (intro z h2 h3; (have h5 := h2 _ (.head _)); (dsimp only at h5); (simp only [kstB, h5, if_false, List.contains_nil, Bool.false_eq_true])));  (case kp => exact BlP.next (by assumption) (by assumption));  (case km => ((have hb9 := anyB_lt (by assumption)); dsimp only; omega)))
  k_with "mine call" => (  (first | with_unfolding_all refine' hex_ok (by assumption) (by assumption) _ _ _ _ _ _ _ _ _ _ _ _ _ _ _ _ _ ?k1 ?k2 ?k3 ?k4 ?k5 ?k6 ?k7 ?k8 ?_ | with_unfolding_all refine' oct_ok (by assumption) (by assumption) _ _ _ _ _ _ _ _ _ _ _ _ _ _ _ _ _ ?k1 ?k2 ?k3 ?k4 ?k5 ?k6 ?k7 ?k8 ?_);  (case k1 => k_asm); (case k2 => k_asm); (case k3 => k_asm); (case k4 => k_asm); (case k5 => k_asm); (case k6 => first | exact rfl | assumption); (case k7 => ktr_room); (case k8 => ktr_units);  (intro v' h' tk' add' hP' F' N'); (obtain ⟨D', t1', t2', c', eV', eA'⟩ := hP'); (subst eA'); (subst eV'); (try dsimp only [List.cons_append, List.nil_append] at N'); (try dsimp only); (try k_fold); (try k_sweep))
  k_with "mine end" => ((refine' hret (.ref _) _ _ [(_, _)] ⟨_, _, _, _, rfl, ?eq⟩ ?F (news_pick ?N ?hx ?hn));  (case F => k_asm); (case N => k_asm); (case hx => k_mem); (case hn => (intro p hp; (repeat (first | exact hp | refine List.Mem.tail _ ?_))));  (case eq => first | exact bs_0 hd | exact bs_1 hd (by assumption) | exact bs_1b hd (by assumption) | exact bs_2 hd (by assumption) (by assumption) (by assumption) (by assumption) | exact bs_3 hd (by assumption) (by assumption) (by assumption) | exact bs_4 hd (by assumption) (by assumption) (by assumption) (by assumption) | exact bs_5 hd (by assumption) (by assumption) (by assumption) (by assumption)))
  w_top off
  k_fill
  intros
  rename_i hret
  refine wpAny_call ?_
  k_dflt cell_enter
  k_steps
  all_goals first
    | walk_at "mine end"
    | w_report
end Mine
end
-- part P3
section
namespace Mine
set_option maxRecDepth 100000
/-- the worth of a digit by its place among the digits -/
def dvI (i : Int) : Int := if i < 16 then i else i - 6
@[irreducible] def valF (b : Int) (D : List Nat) : List Nat → Int → Int
  | [], v => v
  | c :: r, v => valF b D r (v * b + dvI (PySem.Txt.find (txt D) (txt [c])))

def VP (b : Int) (D P : List Nat) (pre : List Int) (v : Int) : Prop := valF b D (P.drop pre.length) v = valF b D P 0
theorem VP.start {b : Int} {D P : List Nat} : VP b D P [] 0 := rfl
theorem codes_txt (P : List Nat) : KStt.codes (txt P) = P.map fun (c : Nat) => (c : Int) := by
  unfold KStt.codes
  rw [txt_cps]
theorem codes_drop {P : List Nat} {pre post : List Int} {n : Nat} (h : KStt.codes (txt P) = pre ++ (n : Int) :: post) : P.drop pre.length = n :: P.drop (pre ++ [(n : Int)]).length := by
  rw [codes_txt] at h
  have hl := congrArg List.length h
  simp only [List.length_map, List.length_append, List.length_cons] at hl
  have hlt : pre.length < P.length := by omega
  rw [drop_at hlt, List.length_append]
  have : P.getD pre.length 0 = n := by
    have e := congrArg (fun l : List Int => l[pre.length]?) h
    simp only [List.getElem?_map, List.getElem?_append_right (Nat.le_refl _), Nat.sub_self, List.getElem?_cons_zero] at e
    rw [List.getElem?_eq_getElem hlt] at e
    simp only [Option.map_some, Option.some.injEq] at e
    rw [List.getD_eq_getElem?_getD, List.getElem?_eq_getElem hlt]
    simp only [Option.getD_some]
    omega
  rw [this]
  rfl
theorem codes_mem {P : List Nat} {pre post : List Int} {n : Nat} (h : KStt.codes (txt P) = pre ++ (n : Int) :: post) : n ∈ P := by
  have := codes_drop h
  have h2 : n ∈ P.drop pre.length := by rw [this]; exact .head _
  exact List.mem_of_mem_drop h2
theorem VP.next {b : Int} {D P : List Nat} {pre post : List Int} {n : Nat} {v d : Int} (h : VP b D P pre v) (hc : KStt.codes (txt P) = pre ++ (n : Int) :: post)
    (hd : d = dvI (PySem.Txt.find (txt D) (txt [n]))) : VP b D P (pre ++ [(n : Int)]) (v * b + d) := by
  unfold VP at h ⊢
  rw [codes_drop hc, valF] at h
  rw [hd]
  exact h
theorem VP.done {b : Int} {D P : List Nat} {v : Int} (h : VP b D P (KStt.codes (txt P)) v) : v = valF b D P 0 := by
  unfold VP at h
  rw [codes_txt, List.length_map, List.drop_length, valF] at h
  exact h
theorem find_in {D : List Nat} {c : Nat} (h : c ∈ D) : 0 ≤ PySem.Txt.find (txt D) (txt [c]) := by
  have e := PySem.StrLaws.found_one (txt D) c
  rw [txt_cps, decide_eq_true h] at e
  unfold PySem.Txt.find
  cases ho : PySem.Builtin.Str.occurrences (txt D) (txt [c]) 0 (txt D).length 1 with
  | nil =>
    have : (PySem.Builtin.Str.occurrences (txt D) ⟨#[c]⟩ 0 (txt D).length 1).isEmpty = true := by
      show (PySem.Builtin.Str.occurrences (txt D) (txt [c]) 0 (txt D).length 1).isEmpty = true
      rw [ho]; rfl
    rw [this] at e
    simp at e
  | cons i r =>
    dsimp only
    omega
end Mine
end
-- part C2
section
namespace Mine
set_option maxRecDepth 100000
set_option maxHeartbeats 8000000
open PySem.Calls PySem.Spec PyProof.Rows.LCg
/-- a comprehension over a text -/
def SrcS (prog : Program) (w : World) (A : Around) (h₀ : Heap) (L : Addr) (m : Str → Option Value) (env : Env) (elt : PySem.Expr) (x : Str) (scope : Scope) (cl : List (Str × Addr)) (Fin : Shared → List Value → List (Addr × Obj) → Prop) (xv : Value) (s₁ : Shared) : Prop :=
  ∃ (T : List Nat) (t : Tok) (news : List (Addr × Obj)), xv = .str (txt T) t ∧ A.handled = none ∧ Fr h₀ L s₁.heap m ∧ News h₀ L s₁.heap news ∧ T.length ≤ 1000 ∧
    ∀ g : Heap, CompRest prog w A h₀ L m env elt x scope cl { s₁ with heap := g } (fun _ => True) (PySem.SignAt (txt T)) (Fin { s₁ with heap := g }) T.length 0 [] news

section
variable {prog : Program} {w : World} {A : Around} {E : Value → Shared → Prop} {s : Shared} {h₀ : Heap} {L : Addr} {m : Str → Option Value} {env : Env}
theorem SrcS.intro {elt : PySem.Expr} {x : Str} {scope : Scope} {cl : List (Str × Addr)} {Fin : Shared → List Value → List (Addr × Obj) → Prop} {T : List Nat} {t : Tok} {news : List (Addr × Obj)} {s₁ : Shared}
    (hh : A.handled = none) (F : Fr h₀ L s₁.heap m) (N : News h₀ L s₁.heap news) (hT : T.length ≤ 1000)
    (h : ∀ g : Heap, CompRest prog w A h₀ L m env elt x scope cl { s₁ with heap := g } (fun _ => True) (PySem.SignAt (txt T)) (Fin { s₁ with heap := g }) T.length 0 [] news) :
    SrcS prog w A h₀ L m env elt x scope cl Fin (.str (txt T) t) s₁ := ⟨T, t, news, rfl, hh, F, N, hT, h⟩

theorem stritem_st {I : Addr} {kind : String} {x : Str} {t : Tok} : ∀ i (h h' : Heap) (o : Obj) (nw : List (Addr × Obj)), h.IsStrIter I kind x t i → h.get? I = some o → h'.get? I = some o → (∀ b o, h₀.get? b = some o → h'.get? b = some o) → News h₀ L h' nw → True → h'.IsStrIter I kind x t i :=
  fun i h h' o nw st e e' _ _ _ => by
    obtain ⟨o', q, r⟩ := st
    rw [e] at q
    cases q
    exact ⟨o, e', r⟩

theorem ListComp_S {elt iter : PySem.Expr} {x : Str} {px : Pos} {scope : Scope} {cl : List (Str × Addr)} {pos : Pos} {Q : Value → Shared → Prop} (F₀ : Fr h₀ L s.heap m)
    (hclos : closureFor scope env = pure cl) (hcell : ∀ y ∈ scope.names, y.2 ≠ .cell) (hkind : scope.kind = .function)
    (hnames : ∀ y ∈ scope.names, y.2 = .local → scope.names.lookup y.1 = some .local) (hx : scope.names.lookup x = some .local)
    (h : wpAny (model prog w) A (eval iter env) (SrcS prog w A h₀ L m env elt x scope cl (fun s₂ => FinE h₀ L m s₂ Q)) E s)
    (hs : ∀ x, foldedSetIterable iter env x = pure x := by intro _; rfl) :
    wpAny (model prog w) A (eval (.ListComp elt [⟨.Name x px, iter, [], 0⟩] scope pos) env) Q E s := by
  rw [eval_ListComp]
  refine wpAny_comprehension_free (use := none) rfl hs hclos hkind hnames (wpAny_mono h (fun xv s₁ h₁ => ?_) fun _ _ e => e)
  obtain ⟨T, t, news, rfl, hh, F, N, hT, R⟩ := h₁
  have hsz : (txt T).cps.size = T.length := by simp [txt]
  have up : ∀ (o : Obj) b x, s₁.heap.get? b = some x → (s₁.heap.push o).get? b = some x := fun o b x e => Heap.get?_push_of_some _ e
  have fin : ∀ D C h tk m' ys news', Fr h₀ L h m → News h₀ L h ((D, lst ys) :: news') → Off1 D news' → h.Ns C m' → h₀.get? C = none → h₀.get? D = none → C ≠ L → D ≠ L → C ≠ D → (∀ p ∈ news', p.1 ≠ C) → ∀ g : Heap, FinE h₀ L m { s₁ with heap := g } Q ys news' →
      compPost (model prog w) A E none Q (.ref D) C (.ok .next) { { s₁ with heap := g } with heap := h, toks := tk } := by
    intro D C h tk m' ys news' F' N' o1 hn hC₀ hD₀ hCL hDL hCD offC g fin
    refine ⟨m', hn, fun h'' hs'' => fin D h'' tk (F'.change hs'' hCL hC₀) (fun p hp => ?_) o1⟩
    refine ⟨hs''.extBut _ _ ?_ (N' p hp).1, (N' p hp).2⟩
    rcases List.mem_cons.mp hp with rfl | hp
    · exact Ne.symm hCD
    · exact offC p hp
  cases ha : (txt T).cps.all (· < 128)
  · refine wpAny_pyIter_wide ha ?_
    have R' := R (s₁.heap.push { cls := .type "str_iterator", data := .fields #[.str (txt T) t, .int 0 0] })
    rw [← hsz] at R'
    refine block_U (Walks.strWide hh s₁.heap.objs.size (txt T) t) (by rw [hsz, sizeLine_eq]; omega) (fun i h st => by obtain ⟨o, e, _⟩ := st; exact ⟨o, e⟩) stritem_st hcell hkind hx ⟨_, Heap.get?_push_size _ rfl, rfl, rfl⟩ (fun b hb => ?_)
      (F.keeps (up _)) (N.grown (up _)) (Nat.ne_of_lt F.ns.lt) (next_is_new F) (fun p hp => Nat.ne_of_lt (Heap.lt_size (N p hp).1)) trivial R' ?_
    · rw [List.mem_singleton.mp hb]
      show s₁.heap.objs.size < (s₁.heap.push _).objs.size
      rw [Heap.size_push]; exact Nat.lt_succ_self _
    · intro D C h tk m' ys news' F' N' o1 hn hC₀ hD₀ hCL hDL hCD offC f
      exact fin D C h tk m' ys news' F' N' o1 hn hC₀ hD₀ hCL hDL hCD offC _ f
  · refine wpAny_pyIter_ascii ha ?_
    have R' := R (s₁.heap.push { cls := .type "str_ascii_iterator", data := .fields #[.str (txt T) t, .int 0 0] })
    rw [← hsz] at R'
    refine block_U (Walks.strAscii hh s₁.heap.objs.size (txt T) t) (by rw [hsz, sizeLine_eq]; omega) (fun i h st => by obtain ⟨o, e, _⟩ := st; exact ⟨o, e⟩) stritem_st hcell hkind hx ⟨_, Heap.get?_push_size _ rfl, rfl, rfl⟩ (fun b hb => ?_)
      (F.keeps (up _)) (N.grown (up _)) (Nat.ne_of_lt F.ns.lt) (next_is_new F) (fun p hp => Nat.ne_of_lt (Heap.lt_size (N p hp).1)) trivial R' ?_
    · rw [List.mem_singleton.mp hb]
      show s₁.heap.objs.size < (s₁.heap.push _).objs.size
      rw [Heap.size_push]; exact Nat.lt_succ_self _
    · intro D C h tk m' ys news' F' N' o1 hn hC₀ hD₀ hCL hDL hCD offC f
      exact fin D C h tk m' ys news' F' N' o1 hn hC₀ hD₀ hCL hDL hCD offC _ f

theorem bools_snoc {b : Bool} : ∀ {vs : List Value} {bs : List Bool}, LSm.BoolsAre vs bs → LSm.BoolsAre (vs ++ [.bool b]) (bs ++ [b])
  | _, _, .nil => .cons _ .nil
  | _, _, .cons _ r => .cons _ (bools_snoc r)

theorem comp_bools {elt : PySem.Expr} {x : Str} {scope : Scope} {cl : List (Str × Addr)} {s : Shared} {Fin : List Value → List (Addr × Obj) → Prop} {news : List (Addr × Obj)} {T : List Nat} (g : Nat → Bool)
    (turn : ∀ c t I oI C oC D m₂ ys h tk (E' : Value → Shared → Prop), NsObj oC m₂ → m₂ x = some (.str (txt [c]) t) → Fr h₀ L h m → News h₀ L h ((I, oI) :: (C, oC) :: (D, lst ys) :: news) → Off3 I C D news →
      wpAny (model prog w) A (eval elt (compEnvC scope cl C env)) (CompEnd h₀ L m { s with heap := h, toks := tk } I oI C oC D (lst ys) (fun _ => True) (fun y news' => news' = news ∧ y = .bool (g c))) E' { s with heap := h, toks := tk })
    (fin : ∀ ys, LSm.BoolsAre ys (T.map g) → Fin ys news) : CompRest prog w A h₀ L m env elt x scope cl s (fun _ => True) (PySem.SignAt (txt T)) Fin T.length 0 [] news := by
  have key : ∀ (j i : Nat) (ys : List Value), i + j = T.length → LSm.BoolsAre ys ((T.take i).map g) → CompRest prog w A h₀ L m env elt x scope cl s (fun _ => True) (PySem.SignAt (txt T)) Fin j i ys news := by
    intro j
    induction j with
    | zero =>
      intro i ys hi hy
      obtain rfl : i = T.length := by omega
      rw [List.take_length] at hy
      exact CompRest.zero (fin ys hy)
    | succ j ih =>
      intro i ys hi hy
      refine CompRest.succ ?_
      intro v I oI C oC D m₂ h tk E' hv hC hx F N off ne
      obtain ⟨c, u, hc, rfl⟩ := hv
      have hc' : T[i]? = some c := by simpa [txt] using hc
      refine wpAny_mono (turn c u I oI C oC D m₂ ys h tk E' hC hx F N off) (fun y s₂ hq => ?_) fun _ _ e => e
      obtain ⟨h', tk', nw, e, F', N', off', hS, hn, hy'⟩ := hq
      subst hn
      subst hy'
      refine ⟨h', tk', nw, e, F', N', off', hS, ?_⟩
      refine ih (i + 1) _ (by omega) ?_
      rw [List.take_add_one, hc', List.map_append]
      exact bools_snoc hy
  exact key T.length 0 [] (by omega) (by simpa using LSm.BoolsAre.nil)
theorem compEnd_same {I C D : Addr} {s₁ : Shared} {oI oC oD : Obj} {y v : Value} {h' : Heap} {tk : Nat} {news : List (Addr × Obj)} (F : Fr h₀ L h' m) (N : News h₀ L h' ((I, oI) :: (C, oC) :: (D, oD) :: news)) (off : Off3 I C D news) (hy : y = v) :
    CompEnd h₀ L m s₁ I oI C oC D oD (fun _ => True) (fun y news' => news' = news ∧ y = v) y { s₁ with heap := h', toks := tk } :=
  CompEnd.intro F N news (fun _ hp => hp) off trivial ⟨rfl, hy⟩
end
theorem contains_one (D : List Nat) (c : Nat) : PySem.Txt.contains (txt D) (txt [c]) = decide (c ∈ D) := by
  have e := PySem.StrLaws.found_one (txt D) c
  rw [txt_cps] at e
  exact e
end Mine
end
-- part D5
section
namespace Mine
set_option maxRecDepth 100000
set_option maxHeartbeats 8000000
theorem dvI_lt {i : Int} (h : i < 16) : dvI i = i := if_pos h
theorem dvI_ge {i : Int} (h : ¬ i < 16) : dvI i = i - 6 := if_neg h

local macro_rules | `(tactic| walk_at "call builtin:len") => `(tactic| (k_here; k_dflt (refine my_len (by omega) ?_)))
local macro_rules | `(tactic| walk_at "exec For Name Name cons nil") => `(tactic| (k_here; k_dflt (walk_at "mine for")))
local macro_rules | `(tactic| walk_at "pyIter str") => `(tactic| (k_here; k_dflt (walk_at "mine str")))

local macro_rules | `(tactic| walk_at "InvEndN") => `(tactic| (k_dflt (walk_at "mine inv")))
theorem val_ok {w : World} {loose : List Str} {mean : ExcName → Option Value} {mg mb : Str → Option Value} {news : List (Addr × Obj)} {P D : List Nat} {y : Str} {t u : Tok}
  (hP : P.length ≤ 64) (hy : y = txt D) (hD : 1 ≤ D.length) (hD2 : D.length ≤ 100) (hin : ∀ c ∈ P, c ∈ D) :
  Cl 1 w loose mean mg mb 63 news [.str (txt P) t, .str y u] (fun add v => add = [] ∧ ∃ t, v = .int (valF (if (16 : Int) < (D.length : Int) then 16 else (D.length : Int)) D P 0) t) := by
  subst hy
  dsimp only [Cl]
  k_with_none
  k_with "mine for" => ((rename Fr _ _ _ _ => lF'); (with_unfolding_all refine' For_invVF lF' ?k1 ?k2 ?_; (case k1 => exact rfl); (case k2 => exact rfl); k_whole))
  k_with "mine str" => ((rename Fr _ _ _ _ => F9); (rename News _ _ _ _ => N9);  (with_unfolding_all refine' KStt.kst_text (fun _ => news) (fun c : Int × Tok => [(Str.ofString "total", .int c.1 c.2)]) (fun _ => True) [Str.ofString "place"] (fun pre c => VP (if (16 : Int) < (List.length D : Int) then 16 else (List.length D : Int)) D P pre c.1) (_, _) ?kh F9 N9 trivial ?kk ?kp ?_ ?_);  (case kh => exact rfl); (case kk => kst_all); (case kp => exact VP.start))
  k_with "mine inv" => ((rename News _ _ _ _ => nE'); (refine' kst_end (⟨_, _⟩ : Int × Tok) ?F nE' ?hn ?ho ?ha trivial ?kk ?kr ?kp);  (case F => k_asm); (case hn => exact fun p hp => List.mem_append_left _ hp); (case ho => exact fun p hp => List.mem_append_right _ hp); (case ha => exact rfl); (case kk => kst_all);  (case kr => (intro z h1 h2 h3; (have h4 : ¬ z = Str.ofString "place" := (fun e => absurd h3 (by rw [e]; simp))); (have h5 := h2 _ (.head _)); (dsimp only at h5); (simp only [kstB, h1, h3, h4, h5, if_false, Bool.false_eq_true])));  (case kp => exact VP.next (by assumption) (by assumption) (by (first | exact (dvI_lt (by assumption)).symm | exact (dvI_ge (by assumption)).symm))))
  w_top off
  k_fill
  intros
  rename_i hret
  refine wpAny_call ?_
  k_dflt cell_enter
  k_steps
  all_goals first
    | (refine hret _ _ _ [] ⟨rfl, _, congrArg (fun i => Value.int i _) (VP.done (by assumption))⟩ (by k_asm) (by k_asm); done)
    | (exfalso; (have hc9 := find_in (hin _ (codes_mem (by assumption)))); (unfold txt at *; omega))
    | w_report
end Mine
end
-- part D6
section
namespace Mine
set_option maxRecDepth 100000
set_option maxHeartbeats 8000000
section
open PySem.Calls PyProof.V PySem.Spec
variable {prog : Program} {w : World} {A : Around} {E : Value → Shared → Prop} {s : Shared} {env : Env} {h₀ : Heap} {x : Str} {body : List Stmt} {Q : Flow → Shared → Prop}
theorem my_range {σ : Type} {led : List (Addr × Obj)} {r : Addr} {a₀ b₀ : Int} {t₀ u₀ v₀ : Tok} {n : Nat} {m₀ : Str → Option Value} (ps : σ → List (Str × Value)) (stored : List Str) (P : List Int → σ → Prop) (c₀ : σ)
    (hh : A.handled = none) (hr : IsRange s.heap r a₀ b₀ 1 t₀ u₀ v₀) (hsmall : Builtin.Range.small a₀ b₀ 1 = true) (hn : Builtin.Range.rangeSize a₀ b₀ 1 = (n : Int)) (F : Fr h₀ env.locals s.heap m₀) (N : News h₀ env.locals s.heap led) (hk : ∀ p ∈ ps c₀, m₀ p.1 = some p.2) (hp : P [] c₀)
    (turn : ∀ (c : σ) (pre : List Int) (k : Int) t (u : Str → Option Value) h tk own, k = a₀ + (pre.length : Int) → pre.length < n → OwnOff own (led.map (·.1)) → P pre c →
      Fr h₀ env.locals h (fun y => if y = x then some (.int k t) else kstB (fun z => if stored.contains z then u z else m₀ z) (ps c) y) → News h₀ env.locals h (led ++ own) →
      wpAny (model prog w) A (execs body env) (InvPostN h₀ env.locals (KstS (fun _ => led) ps (fun _ => True) x stored m₀ P (pre ++ [k])) own (led.map (·.1)) { s with heap := h, toks := tk } Q) E { s with heap := h, toks := tk })
    (done : ∀ (c : σ) (u : Str → Option Value) h tk, P (rangeKs a₀ n) c → Fr h₀ env.locals h (fun y => if y = x then u y else kstB (fun z => if stored.contains z then u z else m₀ z) (ps c) y) → News h₀ env.locals h led → Q .next { s with heap := h, toks := tk }) :
    wpAny (model prog w) A (pyIter (.ref r)) (fun it s₂ => LoopAtV prog w A h₀ env x body Q E it s₂) E s :=
  kst_range (fun _ => led) ps (fun _ => True) stored P c₀ hh hr hsmall hn F N trivial hk hp (fun c pre k t u h tk own e l o _ p F' N' => turn c pre k t u h tk own e l o p F' N') (fun c u h tk _ p F' N' => done c u h tk p F' N')
end
/-- the longest beginning of at most k signs that are all digits and whose number is within the bound -/
@[irreducible] def lgF (b : Int) (D : List Nat) (bd : Int) (R : List Nat) : Nat → Nat
  | 0 => 0
  | k + 1 => if k + 1 ≤ R.length ∧ (∀ c ∈ R.take (k + 1), c ∈ D) ∧ valF b D (R.take (k + 1)) 0 ≤ bd then k + 1 else lgF b D bd R k

theorem all_in {D P : List Nat} (h : List.all (List.map (fun c => decide (c ∈ D)) P) id = true) : ∀ c ∈ P, c ∈ D := by
  intro c hc
  rw [List.all_map, List.all_eq_true] at h
  simpa using h c hc
theorem all_in_false {D P : List Nat} (h : List.all (List.map (fun c => decide (c ∈ D)) P) id = false) : ¬ ∀ c ∈ P, c ∈ D := by
  intro hc
  have : List.all (List.map (fun c => decide (c ∈ D)) P) id = true := by
    rw [List.all_map, List.all_eq_true]
    intro c h9
    simpa using hc c h9
  rw [this] at h
  cases h
section
variable {b bd : Int} {D R : List Nat} {pre : List Int} {k : Int}
theorem lg_yes (h1 : ((R.take (pre.length + 1)).length : Int) = ((pre.length + 1 : Nat) : Int)) (h2 : List.all (List.map (fun c => decide (c ∈ D)) (R.take (pre.length + 1))) id = true)
    (h3 : valF b D (R.take (pre.length + 1)) 0 ≤ bd) : ((pre.length + 1 : Nat) : Int) = (lgF b D bd R (pre ++ [k]).length : Int) := by
  rw [List.length_append, List.length_singleton, lgF, if_pos ⟨by rw [List.length_take] at h1; omega, all_in h2, h3⟩]
theorem lg_no1 (h1 : ¬ ((R.take (pre.length + 1)).length : Int) = ((pre.length + 1 : Nat) : Int)) : (lgF b D bd R pre.length : Int) = (lgF b D bd R (pre ++ [k]).length : Int) := by
  rw [List.length_append, List.length_singleton, lgF, if_neg (fun h => h1 (by rw [List.length_take]; omega))]
theorem lg_no2 (h2 : List.all (List.map (fun c => decide (c ∈ D)) (R.take (pre.length + 1))) id = false) : (lgF b D bd R pre.length : Int) = (lgF b D bd R (pre ++ [k]).length : Int) := by
  rw [List.length_append, List.length_singleton, lgF, if_neg (fun h => all_in_false h2 h.2.1)]
theorem lg_no3 (h3 : ¬ valF b D (R.take (pre.length + 1)) 0 ≤ bd) : (lgF b D bd R pre.length : Int) = (lgF b D bd R (pre ++ [k]).length : Int) := by
  rw [List.length_append, List.length_singleton, lgF, if_neg (fun h => h3 h.2.2)]
end
theorem all_K {prog : Program} {w : World} {A : Around} {E : Value → Shared → Prop} {s : Shared} {h₀ : Heap} {L l : Addr} {m : Str → Option Value} {news : List (Addr × Obj)} {vs : List Value} {bs : List Bool} {n : Nat} {Q : Value → Shared → Prop}
    (F : Fr h₀ L s.heap m) (N : News h₀ L s.heap news) (hh : A.handled = none) (hl : (l, ({ cls := .type "list", data := .seq vs.toArray n } : Obj)) ∈ news) (hb : LSm.BoolsAre vs bs)
    (h : ∀ h' tk, Fr h₀ L h' m → News h₀ L h' news → Q (.bool (bs.all id)) { s with heap := h', toks := tk }) : wpAny (model prog w) A (call (.builtin "all") [.ref l]) Q E s :=
  LSm.all_bools F N hh (News.isList N hl) hb h

local macro_rules | `(tactic| walk_at "call builtin:len") => `(tactic| (k_here; k_dflt (refine my_len (by (try simp only [List.length_take]); omega) ?_)))
local macro_rules | `(tactic| walk_at "subscriptTail Name Slice str ref") => `(tactic| (k_here; k_dflt (walk_at "mine slice_ns")))
local macro_rules | `(tactic| walk_at "pyIter ref") => `(tactic| (k_here; refine Stop.at ?_))

local macro_rules | `(tactic| walk_at "InvEndN") => `(tactic| (k_dflt (walk_at "mine inv")))
local macro_rules | `(tactic| walk_at "eval ListComp") => `(tactic| (k_here; k_dflt (walk_at "mine comp")))
local macro_rules | `(tactic| walk_at "SrcS") => `(tactic| (k_here; k_dflt (walk_at "mine src")))
local macro_rules | `(tactic| walk_at "CompEnd") => `(tactic| (k_dflt (refine compEnd_same (by k_asm) (by k_asm) (by k_asm) (congrArg Value.bool (contains_one _ _)))))
local macro_rules | `(tactic| walk_at "call builtin:all") => `(tactic| (k_here; k_dflt (walk_at "mine all")))
local macro_rules | `(tactic| walk_at "call ref") => `(tactic| (k_here; k_dflt (walk_at "mine call")))

theorem lg_ok {w : World} {loose : List Str} {mean : ExcName → Option Value} {mg mb : Str → Option Value} {news : List (Addr × Obj)} {R D : List Nat} {y : Str} {t u tm tb : Tok} {m : Nat} {bd : Int}
  (hR : R.length ≤ 64) (hy : y = txt D) (hD : 1 ≤ D.length) (hD2 : D.length ≤ 100) (hm : m ≤ 8) :
  Cl 2 w loose mean mg mb 68 news [.str (txt R) t, .str y u, .int m tm, .int bd tb] (fun add v => add = [] ∧ ∃ t, v = .int (lgF (if (16 : Int) < (D.length : Int) then 16 else (D.length : Int)) D bd R m) t) := by
  subst hy
  dsimp only [Cl]
  k_with_none
  k_with "mine enterC" => ((refine' code_defC ?k1 ?k2 ?k3 ?k4 ?k5 ?kA ?kF ?kK ?k6 ?k7 ?k8 ?k9 ?kB ?kD ?_ ?c2 ?c3 ?c4); (case kA => exact rfl); (case kF => exact rfl); (case kK => assumption); (case k1 => k_asm); (case k2 => k_asm); (case k3 => k_asm); (case k4 => k_asm); (case k5 => k_asm); (case k6 => k_is); (case k7 => k_is); (case k8 => ktr_room); (case k9 => exact BindsTo.of_eq rfl); (case kB => exact rfl); (case kD => decide +kernel); (case c2 => exact rfl); (case c3 => exact rfl); (case c4 => exact rfl); k_whole;  (intro g' L' h' tk' cells' FG' F' N' Y' B' X' T' l1); (try k_lt l1); k_cells Y'; (try simp only [List.cons_append, List.nil_append] at N'); (try dsimp only); (try k_lift B'); (try k_fold))
  k_with "mine range" => ((rename Fr _ _ _ _ => F9); (rename News _ _ _ _ => N9); (rename IsRange _ _ _ _ _ _ _ _ => rgX);  (with_unfolding_all refine' my_range (n := m) (fun c : Int × Tok => [(Str.ofString "best", .int c.1 c.2)]) [Str.ofString "part"] (fun pre c => c.1 = (lgF (if (16 : Int) < (List.length D : Int) then 16 else (List.length D : Int)) D bd R pre.length : Int)) (_, _) ?kh rgX ?ks ?kn F9 N9 ?kk ?kp ?_ ?_);  (case kh => exact rfl); (case ks => exact small_one (by omega) (by omega) (by omega) (by omega)); (case kn => (rw [rangeSize_nat]; omega)); (case kk => kst_all); (case kp => exact (by rw [List.length_nil, lgF]; rfl)))
  k_with "mine turn" => ((intro c' pre' k' t' u' h' tk' own' hk' hlt' hoff' hP' F' N'); (obtain ⟨v', q'⟩ := c'); (have hk2 : k' = ((List.length pre' + 1 : Nat) : Int) := by omega); (subst hk2); (clear hk'); (try dsimp only at hP' F' N'); (subst hP'); (try dsimp only); (try k_fold); (try k_sweep))
  k_with "mine done" => ((intro c' u' h' tk' hP' F' N'); (obtain ⟨v', q'⟩ := c'); (try dsimp only at hP' F' N'); (subst hP'); (try dsimp only); (try k_fold); (try k_sweep))
  k_with "mine slice_ns" => ((rename Fr _ _ _ _ => F'); (rename News _ _ _ _ => N'); (refine' my_slice_ns (s := ⟨_, _, _, _, _⟩) F' N' ?hS ?hj ?hT ?_; (case hS => exact rfl); (case hj => exact rfl); (case hT => omega)); (intro h'' t'' k'' F'' N''); (try k_sweep))
  k_with "mine comp" => (refine ListComp_S (F₀ := by k_asm) (by with_unfolding_all rfl) (by decide) (by rfl) (by decide) (by rfl) ?_)
  k_with "mine src" => ((refine' SrcS.intro ?hh ?F ?N ?hT ?_); (case hh => exact rfl); (case F => k_asm); (case N => k_asm); (case hT => (simp only [List.length_take]; omega)); (intro g'); (refine comp_bools (fun c => decide (c ∈ D)) (fun cc' tt' I' oI' C' oC' DD' m2' ys' h' tk' E' hC' hx' F' N' off' => ?_) (fun ys' hb' => ?_)))
  k_with "mine all" => ((refine' all_K ?F ?N ?hh ?hl ?hb ?_); (case F => k_asm); (case N => k_asm); (case hh => exact rfl); (case hl => k_mem); (case hb => assumption); (intro h' tk' F' N'); (try k_sweep))
  k_with "mine call" => (  (with_unfolding_all refine' val_ok ?hP rfl ?hD ?hD2 ?hin _ _ _ _ _ _ _ _ _ _ _ _ _ _ _ _ _ ?k1 ?k2 ?k3 ?k4 ?k5 ?k6 ?k7 ?k8 ?_);  (case hP => (simp only [List.length_take]; omega)); (case hD => assumption); (case hD2 => assumption); (case hin => exact all_in (by assumption));  (case k1 => k_asm); (case k2 => k_asm); (case k3 => k_asm); (case k4 => k_asm); (case k5 => k_asm); (case k6 => first | exact rfl | assumption); (case k7 => ktr_room); (case k8 => ktr_units);  (intro v' h' tk' add' hP' F' N'); (obtain ⟨eA', t', eV'⟩ := hP'); (subst eA'); (subst eV'); (try dsimp only [List.cons_append, List.nil_append] at N'); (try dsimp only); (try k_fold); (try k_sweep))
  k_with "mine inv" => ((rename News _ _ _ _ => nE'); (refine' kst_end (⟨_, _⟩ : Int × Tok) ?F nE' ?hn ?ho ?ha trivial ?kk ?kr ?kp);  (case F => k_asm); (case hn => (intro p hp; (simp only [List.mem_append, List.mem_cons, List.cons_append] at hp ⊢); grind)); (case ho => (intro p hp; (simp only [List.mem_append, List.mem_cons, List.cons_append] at hp ⊢); grind)); (case ha => exact rfl); (case kk => kst_all);  (case kr => (intro z h1 h2 h3; (have h4 : ¬ z = Str.ofString "part" := (fun e => absurd h3 (by rw [e]; simp))); (have h5 := h2 _ (.head _)); (dsimp only at h5); (simp only [kstB, h1, h3, h4, h5, if_false, Bool.false_eq_true])));  (case kp => first | exact lg_yes (by assumption) (by assumption) (by assumption) | exact lg_no1 (by assumption) | exact lg_no2 (by assumption) | exact lg_no3 (by assumption)))
  w_top off
  k_fill
  intros
  rename_i hret
  refine wpAny_call ?_
  k_dflt (walk_at "mine enterC")
  k_steps
  unfold Stop
  walk_at "mine range"
  · walk_at "mine turn"
    k_steps
    all_goals walk_at "mine inv"
  · walk_at "mine done"
    k_steps
    rename News _ _ _ _ => nE
    refine hret _ _ _ [] ⟨rfl, _, congrArg (fun i => Value.int i _) ?_⟩ (by k_asm) (fun p hp => nE p (List.mem_cons_of_mem _ hp))
    rw [rangeKs_length]
end Mine
end
-- part P4
section
namespace Mine
set_option maxRecDepth 100000
def D8 : List Nat := [48, 49, 50, 51, 52, 53, 54, 55]
def D22 : List Nat := [48, 49, 50, 51, 52, 53, 54, 55, 56, 57, 97, 98, 99, 100, 101, 102, 65, 66, 67, 68, 69, 70]
theorem lit_D8 : Str.ofString "01234567" = txt D8 := by decide +kernel
theorem lit_D22 : Str.ofString "0123456789abcdefABCDEF" = txt D22 := by decide +kernel

theorem mem_D8 (c : Nat) : c ∈ D8 ↔ 0 ≤ dig c ∧ dig c < 8 := by
  unfold D8 dig
  simp only [List.mem_cons, List.not_mem_nil, or_false]
  constructor
  · intro h
    rw [if_pos (by omega)]
    omega
  · intro h
    by_cases h1 : 48 ≤ c ∧ c ≤ 57
    · rw [if_pos h1] at h; omega
    · rw [if_neg h1] at h
      by_cases h2 : 97 ≤ c ∧ c ≤ 122
      · rw [if_pos h2] at h; omega
      · rw [if_neg h2] at h
        by_cases h3 : 65 ≤ c ∧ c ≤ 90
        · rw [if_pos h3] at h; omega
        · rw [if_neg h3] at h; omega
theorem mem_D22 (c : Nat) : c ∈ D22 ↔ 0 ≤ dig c ∧ dig c < 16 := by
  unfold D22 dig
  simp only [List.mem_cons, List.not_mem_nil, or_false]
  by_cases h1 : 48 ≤ c ∧ c ≤ 57
  · rw [if_pos h1]; omega
  · rw [if_neg h1]
    by_cases h2 : 97 ≤ c ∧ c ≤ 122
    · rw [if_pos h2]; omega
    · rw [if_neg h2]
      by_cases h3 : 65 ≤ c ∧ c ≤ 90
      · rw [if_pos h3]; omega
      · rw [if_neg h3]; omega
theorem dv_D8 : ∀ c ∈ D8, dvI (PySem.Txt.find (txt D8) (txt [c])) = dig c := by
  intro c hc
  unfold D8 at hc
  simp only [List.mem_cons, List.not_mem_nil, or_false] at hc
  rcases hc with rfl | rfl | rfl | rfl | rfl | rfl | rfl | rfl <;> decide +kernel
theorem dv_D22 : ∀ c ∈ D22, dvI (PySem.Txt.find (txt D22) (txt [c])) = dig c := by
  intro c hc
  unfold D22 at hc
  simp only [List.mem_cons, List.not_mem_nil, or_false] at hc
  rcases hc with rfl | rfl | rfl | rfl | rfl | rfl | rfl | rfl | rfl | rfl | rfl | rfl | rfl | rfl | rfl | rfl | rfl | rfl | rfl | rfl | rfl | rfl <;> decide +kernel

section
variable {b lim bd : Int} {D : List Nat}
theorem valF_ge (hb : 1 ≤ b) (hm : ∀ c, c ∈ D ↔ 0 ≤ dig c ∧ dig c < b) (hv : ∀ c ∈ D, dvI (PySem.Txt.find (txt D) (txt [c])) = dig c) :
    ∀ (l : List Nat) (v : Int), 0 ≤ v → (∀ c ∈ l, c ∈ D) → v ≤ valF b D l v
  | [], _, _, _ => by rw [valF]; exact Int.le_refl _
  | c :: r, v, h0, hl => by
    have hc := hl c (.head _)
    have hd := (hm c).mp hc
    rw [valF, hv c hc]
    have h1 : v ≤ v * b := by
      have := Int.mul_le_mul_of_nonneg_left hb h0
      rwa [Int.mul_one] at this
    have h2 : v ≤ v * b + dig c := by omega
    exact Int.le_trans h2 (valF_ge hb hm hv r _ (by omega) fun x hx => hl x (.tail _ hx))

/-- a beginning of k signs is all digits and within the bound -/
def Good (b bd : Int) (D : List Nat) (R : List Nat) (v : Int) (k : Nat) : Prop := k ≤ R.length ∧ (∀ c ∈ R.take k, c ∈ D) ∧ valF b D (R.take k) v ≤ bd

structure ScanIs (b lim bd : Int) (D R : List Nat) (v : Int) (m s : Nat) (V : Int) : Prop where
  hm : s ≤ m
  hl : s ≤ R.length
  hin : ∀ c ∈ R.take s, c ∈ D
  hV : V = valF b D (R.take s) v
  hb : s = 0 ∨ valF b D (R.take s) v ≤ bd
  hn : ∀ k, s < k → k ≤ m → ¬ Good b bd D R v k

theorem scan_is (hb : 1 ≤ b) (hm : ∀ c, c ∈ D ↔ 0 ≤ dig c ∧ dig c < b) (hv : ∀ c ∈ D, dvI (PySem.Txt.find (txt D) (txt [c])) = dig c) :
    ∀ (m j : Nat) (R : List Nat) (v : Int), 0 ≤ v → v < b ^ j → (∀ i, j ≤ i → i < j + m → ∀ x : Int, 0 ≤ x → x < b ^ i → (x ≤ lim → x * b + (b - 1) ≤ bd) ∧ (lim < x → bd < x * b)) →
      ScanIs b lim bd D R v m (scan b lim m R v).1 (scan b lim m R v).2
  | 0, j, R, v, h0, hj, H => by
    rw [scan_zero]
    exact ⟨Nat.le_refl _, Nat.zero_le _, fun c hc => by simp at hc, by rw [List.take_zero, valF], .inl rfl, fun k h1 h2 => by omega⟩
  | m + 1, j, [], v, h0, hj, H => by
    rw [scan_nil]
    exact ⟨Nat.zero_le _, Nat.zero_le _, fun c hc => by simp at hc, by rw [List.take_zero, valF], .inl rfl, fun k h1 h2 h => by have := h.1; simp at this; omega⟩
  | m + 1, j, c :: r, v, h0, hj, H => by
    have Hj := H j (Nat.le_refl _) (by omega) v h0 hj
    by_cases h : v ≤ lim ∧ 0 ≤ dig c ∧ dig c < b
    · rw [scan_on h]
      have hcD : c ∈ D := (hm c).mpr h.2
      have hv' : v * b + dig c ≤ bd := by have := Hj.1 h.1; omega
      have hvb : 0 ≤ v * b := Int.mul_nonneg h0 (by omega)
      have hlt : v * b + dig c < b ^ (j + 1) := by
        rw [Int.pow_succ]
        have h1 : (v + 1) * b ≤ b ^ j * b := Int.mul_le_mul_of_nonneg_right (by omega) (by omega)
        have h2 : (v + 1) * b = v * b + b := by rw [Int.add_mul, Int.one_mul]
        omega
      have IH := scan_is hb hm hv m (j + 1) r (v * b + dig c) (by omega) hlt (fun i h1 h2 => H i (by omega) (by omega))
      obtain ⟨a1, a2, a3, a4, a5, a6⟩ := IH
      have step : ∀ k, valF b D ((c :: r).take (k + 1)) v = valF b D (r.take k) (v * b + dig c) := by
        intro k
        rw [List.take_succ_cons, valF, hv c hcD]
      refine ⟨by dsimp only; omega, by simp only [List.length_cons]; omega, ?_, ?_, ?_, ?_⟩
      · intro x hx
        dsimp only at hx
        rw [List.take_succ_cons] at hx
        rcases List.mem_cons.mp hx with rfl | hx
        · exact hcD
        · exact a3 x hx
      · dsimp only
        rw [step]
        exact a4
      · right
        dsimp only
        rw [step]
        rcases a5 with h5 | h5
        · rw [h5, List.take_zero, valF]; exact hv'
        · exact h5
      · intro k h1 h2 hg
        dsimp only at h1
        obtain ⟨k, rfl⟩ : ∃ k', k = k' + 1 := ⟨k - 1, by omega⟩
        refine a6 k (by omega) (by omega) ⟨?_, ?_, ?_⟩
        · have := hg.1; simp only [List.length_cons] at this; omega
        · intro x hx
          exact hg.2.1 x (by rw [List.take_succ_cons]; exact .tail _ hx)
        · have := hg.2.2
          rwa [step] at this
    · rw [scan_off h]
      refine ⟨Nat.zero_le _, Nat.zero_le _, fun c hc => by simp at hc, by rw [List.take_zero, valF], .inl rfl, ?_⟩
      intro k h1 h2 hg
      obtain ⟨k, rfl⟩ : ∃ k', k = k' + 1 := ⟨k - 1, by omega⟩
      have hcD : c ∈ D := hg.2.1 c (by rw [List.take_succ_cons]; exact .head _)
      have hd := (hm c).mp hcD
      have hl : lim < v := by
        by_cases hq : v ≤ lim
        · exact absurd ⟨hq, hd⟩ h
        · omega
      have h3 := Hj.2 hl
      have hvb : 0 ≤ v * b := Int.mul_nonneg h0 (by omega)
      have h4 := hg.2.2
      rw [List.take_succ_cons, valF, hv c hcD] at h4
      have h5 := valF_ge hb hm hv (r.take k) (v * b + dig c) (by omega) (fun x hx => hg.2.1 x (by rw [List.take_succ_cons]; exact .tail _ hx))
      omega

theorem lgF_eq {R : List Nat} {s : Nat} (hs : s = 0 ∨ Good b bd D R 0 s) : ∀ m, s ≤ m → (∀ k, s < k → k ≤ m → ¬ Good b bd D R 0 k) → lgF b D bd R m = s
  | 0, h, _ => by
    have : s = 0 := by omega
    subst this
    rw [lgF]
  | m + 1, h, hn => by
    rw [lgF]
    by_cases he : s = m + 1
    · subst he
      rw [if_pos]
      rcases hs with h0 | hg
      · omega
      · exact hg
    · rw [if_neg (show ¬ (m + 1 ≤ R.length ∧ (∀ c ∈ R.take (m + 1), c ∈ D) ∧ valF b D (R.take (m + 1)) 0 ≤ bd) from hn (m + 1) (by omega) (Nat.le_refl _))]
      exact lgF_eq hs m (by omega) fun k h1 h2 => hn k h1 (by omega)

theorem lg_scan (hb : 1 ≤ b) (hm : ∀ c, c ∈ D ↔ 0 ≤ dig c ∧ dig c < b) (hv : ∀ c ∈ D, dvI (PySem.Txt.find (txt D) (txt [c])) = dig c) (m : Nat) (R : List Nat)
    (H : ∀ i, i < m → ∀ x : Int, 0 ≤ x → x < b ^ i → (x ≤ lim → x * b + (b - 1) ≤ bd) ∧ (lim < x → bd < x * b)) :
    lgF b D bd R m = (scan b lim m R 0).1 ∧ valF b D (R.take (lgF b D bd R m)) 0 = (scan b lim m R 0).2 ∧ (∀ c ∈ R.take (lgF b D bd R m), c ∈ D) ∧ lgF b D bd R m ≤ R.length ∧ 0 ≤ valF b D (R.take (lgF b D bd R m)) 0 ∧ (0 < lgF b D bd R m → valF b D (R.take (lgF b D bd R m)) 0 ≤ bd) := by
  have S := scan_is (lim := lim) (bd := bd) hb hm hv m 0 R 0 (Int.le_refl _) (by simp) (fun i _ h2 => H i (by omega))
  obtain ⟨a1, a2, a3, a4, a5, a6⟩ := S
  have e : lgF b D bd R m = (scan b lim m R 0).1 := lgF_eq (s := (scan b lim m R 0).1) (by
    rcases a5 with h | h
    · exact .inl h
    · exact .inr ⟨a2, a3, h⟩) m a1 a6
  rw [e]
  refine ⟨rfl, a4.symm, a3, a2, valF_ge hb hm hv _ 0 (Int.le_refl _) a3, fun h => ?_⟩
  rcases a5 with h5 | h5
  · omega
  · exact h5
end

theorem H8 : ∀ i, i < 3 → ∀ x : Int, 0 ≤ x → x < 8 ^ i → (x ≤ 31 → x * 8 + (8 - 1) ≤ 255) ∧ (31 < x → 255 < x * 8) := by
  intro i hi x h0 h1
  omega
theorem H16_2 : ∀ i, i < 2 → ∀ x : Int, 0 ≤ x → x < 16 ^ i → (x ≤ 69631 → x * 16 + (16 - 1) ≤ 255) ∧ (69631 < x → 255 < x * 16) := by
  intro i hi x h0 h1
  have : i = 0 ∨ i = 1 := by omega
  rcases this with rfl | rfl <;> omega
theorem H16_4 : ∀ i, i < 4 → ∀ x : Int, 0 ≤ x → x < 16 ^ i → (x ≤ 69631 → x * 16 + (16 - 1) ≤ 65535) ∧ (69631 < x → 65535 < x * 16) := by
  intro i hi x h0 h1
  have : i = 0 ∨ i = 1 ∨ i = 2 ∨ i = 3 := by omega
  rcases this with rfl | rfl | rfl | rfl <;> omega
theorem H16_8 : ∀ i, i < 8 → ∀ x : Int, 0 ≤ x → x < 16 ^ i → (x ≤ 69631 → x * 16 + (16 - 1) ≤ 1114111) ∧ (69631 < x → 1114111 < x * 16) := by
  intro i hi x h0 h1
  omega
end Mine
end
-- part P5
section
namespace Mine
set_option maxRecDepth 100000
theorem isStrOf_at (k : Str) : ∀ {vs : List Value} {ys : List Str}, StrsAre vs ys → ∀ (j : Nat) (h1 : j < vs.length) (h2 : j < ys.length), isStrOf k vs[j] = (ys[j] == k)
  | _, _, .cons n t _, 0, _, _ => rfl
  | _, _, .cons n t r, j + 1, h1, h2 => isStrOf_at k r j (Nat.lt_of_succ_lt_succ h1) (Nat.lt_of_succ_lt_succ h2)
section
variable {prog : Program} {w : World} {A : Around} {E : Value → Shared → Prop} {s : Shared} {h₀ : Heap} {L : Addr} {m : Str → Option Value} {news : List (Addr × Obj)} {Q : Value → Shared → Prop}
theorem index_strs {D : Addr} {its : List Value} {n : Nat} {ys : List Str} {k : Str} {t : Tok} {j : Nat} (N : News h₀ L s.heap news) (hm : (D, ({ cls := .type "list", data := .seq its.toArray n } : Obj)) ∈ news)
    (hi : StrsAre its ys) (hz : ys.length ≤ 1000) (hj : j < ys.length) (hit : ys[j] = k) (hno : ∀ i (h : i < j), ys[i]'(Nat.lt_trans h hj) ≠ k)
    (h : Q (.int j s.toks) { s with toks := s.toks + 1 }) : wpAny (model prog w) A (call (.builtin "list.index") [.ref D, .str k t]) Q E s := by
  have hlen := hi.length
  refine call_meets PySem.F.slot_list_index ⟨_, (N _ hm).1, rfl⟩ PySem.F.entry_list_index (PySem.F.args_list_index_2 _ _)
    (MeetsSeq.list_index D its.toArray n (.str k t) (isStrOf k) (fun y hy => eq_isStrOf k t hi y (by simpa using hy)) j (by simp; omega) (by omega) ?_ ?_) ⟨(N _ hm).1, h⟩
  · show isStrOf k its[j] = true
    rw [isStrOf_at k hi j (by omega) hj, hit]
    simp
  · intro i his hlt
    show isStrOf k its[i] = false
    rw [isStrOf_at k hi i (by simpa using his) (by omega)]
    exact beq_eq_false_iff_ne.mpr (hno i hlt)
end

theorem any7 (c : Nat) : ([Str.ofString "a", Str.ofString "b", Str.ofString "f", Str.ofString "n", Str.ofString "r", Str.ofString "t", Str.ofString "v"].any fun x => x == txt [c]) = decide (0 ≤ named c) := by
  rw [show Str.ofString "a" = txt [97] by decide +kernel, show Str.ofString "b" = txt [98] by decide +kernel, show Str.ofString "f" = txt [102] by decide +kernel, show Str.ofString "n" = txt [110] by decide +kernel,
    show Str.ofString "r" = txt [114] by decide +kernel, show Str.ofString "t" = txt [116] by decide +kernel, show Str.ofString "v" = txt [118] by decide +kernel]
  simp only [List.any_cons, List.any_nil, beq_txt1, Bool.or_false]
  unfold named
  by_cases h : c = 97 ∨ c = 98 ∨ c = 102 ∨ c = 110 ∨ c = 114 ∨ c = 116 ∨ c = 118
  · rcases h with rfl | rfl | rfl | rfl | rfl | rfl | rfl <;> decide
  · simp only [not_or] at h
    obtain ⟨h1, h2, h3, h4, h5, h6, h7⟩ := h
    simp [h1, h2, h3, h4, h5, h6, h7]
theorem named_cases {c : Nat} (h : 0 ≤ named c) : c = 97 ∨ c = 98 ∨ c = 102 ∨ c = 110 ∨ c = 114 ∨ c = 116 ∨ c = 118 := by
  unfold named at h
  by_cases h1 : c = 97 <;> by_cases h2 : c = 98 <;> by_cases h3 : c = 102 <;> by_cases h4 : c = 110 <;> by_cases h5 : c = 114 <;> by_cases h6 : c = 116 <;> by_cases h7 : c = 118 <;> simp_all
theorem any2 (c : Nat) : ([Str.ofString " ", Str.ofString "\t"].any fun x => x == txt [c]) = decide (c = 32 ∨ c = 9) := by
  rw [lit_sp, lit_tab]
  simp only [List.any_cons, List.any_nil, beq_txt1, Bool.or_false]
  by_cases h1 : c = 32 <;> by_cases h2 : c = 9 <;> simp [h1, h2]

section
variable {prog : Program} {w : World} {A : Around} {E : Value → Shared → Prop} {s : Shared} {h₀ : Heap} {L : Addr} {m : Str → Option Value} {news : List (Addr × Obj)} {Q : Value → Shared → Prop}
theorem index_named {D : Addr} {n : Nat} {c : Nat} {t t0 t1 t2 t3 t4 t5 t6 : Tok} (N : News h₀ L s.heap news)
    (hm : (D, ({ cls := .type "list", data := .seq #[.str (Str.ofString "a") t0, .str (Str.ofString "b") t1, .str (Str.ofString "f") t2, .str (Str.ofString "n") t3, .str (Str.ofString "r") t4, .str (Str.ofString "t") t5, .str (Str.ofString "v") t6] n } : Obj)) ∈ news)
    (hc : ([Str.ofString "a", Str.ofString "b", Str.ofString "f", Str.ofString "n", Str.ofString "r", Str.ofString "t", Str.ofString "v"].any fun x => x == txt [c]) = true)
    (h0 : c = 97 → Q (.int 0 s.toks) { s with toks := s.toks + 1 }) (h1 : c = 98 → Q (.int 1 s.toks) { s with toks := s.toks + 1 }) (h2 : c = 102 → Q (.int 2 s.toks) { s with toks := s.toks + 1 }) (h3 : c = 110 → Q (.int 3 s.toks) { s with toks := s.toks + 1 })
    (h4 : c = 114 → Q (.int 4 s.toks) { s with toks := s.toks + 1 }) (h5 : c = 116 → Q (.int 5 s.toks) { s with toks := s.toks + 1 }) (h6 : c = 118 → Q (.int 6 s.toks) { s with toks := s.toks + 1 }) :
    wpAny (model prog w) A (call (.builtin "list.index") [.ref D, .str (txt [c]) t]) Q E s := by
  rw [any7, decide_eq_true_eq] at hc
  have hS := StrsAre.cons (Str.ofString "a") t0 (.cons (Str.ofString "b") t1 (.cons (Str.ofString "f") t2 (.cons (Str.ofString "n") t3 (.cons (Str.ofString "r") t4 (.cons (Str.ofString "t") t5 (.cons (Str.ofString "v") t6 .nil))))))
  rcases named_cases hc with rfl | rfl | rfl | rfl | rfl | rfl | rfl
  · exact index_strs (j := 0) N hm hS (by decide) (by decide) (by decide +kernel) (by decide +kernel) (h0 rfl)
  · exact index_strs (j := 1) N hm hS (by decide) (by decide) (by decide +kernel) (by decide +kernel) (h1 rfl)
  · exact index_strs (j := 2) N hm hS (by decide) (by decide) (by decide +kernel) (by decide +kernel) (h2 rfl)
  · exact index_strs (j := 3) N hm hS (by decide) (by decide) (by decide +kernel) (by decide +kernel) (h3 rfl)
  · exact index_strs (j := 4) N hm hS (by decide) (by decide) (by decide +kernel) (by decide +kernel) (h4 rfl)
  · exact index_strs (j := 5) N hm hS (by decide) (by decide) (by decide +kernel) (by decide +kernel) (h5 rfl)
  · exact index_strs (j := 6) N hm hS (by decide) (by decide) (by decide +kernel) (by decide +kernel) (h6 rfl)
theorem index_xuU {D : Addr} {n : Nat} {c : Nat} {t t0 t1 t2 : Tok} (N : News h₀ L s.heap news)
    (hm : (D, ({ cls := .type "list", data := .seq #[.str (Str.ofString "x") t0, .str (Str.ofString "u") t1, .str (Str.ofString "U") t2] n } : Obj)) ∈ news)
    (hc : ([Str.ofString "x", Str.ofString "u", Str.ofString "U"].any fun x => x == txt [c]) = true)
    (h0 : c = 120 → Q (.int 0 s.toks) { s with toks := s.toks + 1 }) (h1 : c = 117 → Q (.int 1 s.toks) { s with toks := s.toks + 1 }) (h2 : c = 85 → Q (.int 2 s.toks) { s with toks := s.toks + 1 }) :
    wpAny (model prog w) A (call (.builtin "list.index") [.ref D, .str (txt [c]) t]) Q E s := by
  rw [any3, decide_eq_true_eq] at hc
  have hS := StrsAre.cons (Str.ofString "x") t0 (.cons (Str.ofString "u") t1 (.cons (Str.ofString "U") t2 .nil))
  rcases hc with rfl | rfl | rfl
  · exact index_strs (j := 0) N hm hS (by decide) (by decide) (by decide +kernel) (by decide +kernel) (h0 rfl)
  · exact index_strs (j := 1) N hm hS (by decide) (by decide) (by decide +kernel) (by decide +kernel) (h1 rfl)
  · exact index_strs (j := 2) N hm hS (by decide) (by decide) (by decide +kernel) (by decide +kernel) (h2 rfl)
end

theorem BlP.next2 {R : List Nat} {j : Nat} (h : j + blanks (R.drop (1 + j)) = blanks (R.drop 1)) (hl : 1 + j < R.length) (hb : ([Str.ofString " ", Str.ofString "\t"].any fun x => x == txt [R.getD (1 + j) 0]) = true) :
    BlP R 1 (((1 + j : Nat) : Int) + 1) := by
  refine BlP.next h ?_
  rw [any2, decide_eq_true_eq] at hb
  rw [anyB, decide_eq_true_eq]
  exact ⟨hl, hb⟩
theorem bl_stop2 {R : List Nat} {j : Nat} (h : j + blanks (R.drop (1 + j)) = blanks (R.drop 1)) (hb : ([Str.ofString " ", Str.ofString "\t"].any fun x => x == txt [R.getD (1 + j) 0]) = false) :
    blanks (R.drop 1) = j := by
  refine bl_stop h ?_
  rw [any2, decide_eq_false_iff_not] at hb
  rw [anyB, decide_eq_false_iff_not]
  exact fun q => hb q.2
theorem bl_stop3 {R : List Nat} {j : Nat} (h : j + blanks (R.drop (1 + j)) = blanks (R.drop 1)) (hl : R.length ≤ 1 + j) : blanks (R.drop 1) = j := by
  refine bl_stop h ?_
  rw [anyB, decide_eq_false_iff_not]
  omega

section
variable {T : List Nat} {n c : Nat} {r : List Nat} {D : Addr} {t1 t2 : Tok} {k : Nat}
theorem drop_next (hd : T.drop (n + 1) = c :: r) : T.drop (n + 2) = r ∧ T.getD (n + 1) 0 = c := by
  have hl : n + 1 < T.length := by
    have := congrArg List.length hd
    simp only [List.length_drop, List.length_cons] at this
    omega
  have h := drop_at hl
  rw [hd] at h
  injection h with h1 h2
  exact ⟨h2.symm, h1.symm⟩

theorem due_1 {i : Nat} {x : Int} (hd : T.drop (n + 1) = c :: r) (hi : named c = i) (hx : [7, 8, 12, 10, 13, 9, 11][i]? = some x.toNat) :
    [(D, tupO (txt [x.toNat]) t1 ((n : Int) + 2) t2 k)] = [(D, tupO (txt (bsTxt T n)) t1 (bsEnd T n) t2 k)] := by
  unfold bsTxt bsEnd
  rw [hd]
  dsimp only
  rw [if_pos (by omega), if_pos (by omega), hi]
  have e : [7, 8, 12, 10, 13, 9, 11].getD (i : Int).toNat 0 = x.toNat := by
    rw [Int.toNat_natCast, List.getD_eq_getElem?_getD, hx]
    rfl
  rw [e]
theorem due_2 {j : Nat} (hd : T.drop (n + 1) = c :: r) (h1 : ¬ 0 ≤ named c) (h2 : c = 10) (hb : blanks ((c :: r).drop 1) = j) :
    [(D, tupO (Str.ofString " ") t1 ((n : Int) + 1 + ((1 + j : Nat) : Int)) t2 k)] = [(D, tupO (txt (bsTxt T n)) t1 (bsEnd T n) t2 k)] := by
  unfold bsTxt bsEnd
  rw [hd, (drop_next hd).1]
  dsimp only
  rw [if_neg h1, if_neg h1, if_pos h2, if_pos h2, lit_sp]
  have : (n : Int) + 1 + ((1 + j : Nat) : Int) = (n : Int) + 2 + (blanks r : Int) := by
    have : blanks r = j := hb
    omega
  rw [this]

structure LgScan (b lim bd : Int) (D : List Nat) (m : Nat) (R : List Nat) : Prop where
  e1 : lgF b D bd R m = (scan b lim m R 0).1
  e2 : valF b D (R.take (lgF b D bd R m)) 0 = (scan b lim m R 0).2
  hin : ∀ c ∈ R.take (lgF b D bd R m), c ∈ D
  lo : 0 ≤ valF b D (R.take (lgF b D bd R m)) 0
  hi : 0 < lgF b D bd R m → valF b D (R.take (lgF b D bd R m)) 0 ≤ bd
theorem LgScan.of {b lim bd : Int} {D : List Nat} {m : Nat} {R : List Nat} (h : lgF b D bd R m = (scan b lim m R 0).1 ∧ valF b D (R.take (lgF b D bd R m)) 0 = (scan b lim m R 0).2 ∧ (∀ c ∈ R.take (lgF b D bd R m), c ∈ D) ∧ lgF b D bd R m ≤ R.length ∧ 0 ≤ valF b D (R.take (lgF b D bd R m)) 0 ∧ (0 < lgF b D bd R m → valF b D (R.take (lgF b D bd R m)) 0 ≤ bd)) :
    LgScan b lim bd D m R := ⟨h.1, h.2.1, h.2.2.1, h.2.2.2.2.1, h.2.2.2.2.2⟩
theorem oct_scan (R : List Nat) : LgScan 8 31 255 D8 3 R := .of (lg_scan (by decide) mem_D8 dv_D8 3 R H8)
theorem hex_scan2 (R : List Nat) : LgScan 16 69631 255 D22 2 R := .of (lg_scan (by decide) mem_D22 dv_D22 2 R H16_2)
theorem hex_scan4 (R : List Nat) : LgScan 16 69631 65535 D22 4 R := .of (lg_scan (by decide) mem_D22 dv_D22 4 R H16_4)
theorem hex_scan8 (R : List Nat) : LgScan 16 69631 1114111 D22 8 R := .of (lg_scan (by decide) mem_D22 dv_D22 8 R H16_8)
theorem chr_lg {prog : Program} {w : World} {A : Around} {E : Value → Shared → Prop} {s : Shared} {u : Tok} {Q : Value → Shared → Prop} {b lim bd : Int} {D : List Nat} {m : Nat} {R : List Nat} (S : LgScan b lim bd D m R) (hb : bd ≤ 1114111) (hp : 0 < (lgF b D bd R m : Int))
    (h : Q (.str (txt [(valF b D (R.take (lgF b D bd R m)) 0).toNat]) s.toks) { s with toks := s.toks + 1 }) : wpAny (model prog w) A (call (.builtin "chr") [.int (valF b D (R.take (lgF b D bd R m)) 0) u]) Q E s := by
  have := S.lo
  have := S.hi (by omega)
  exact my_chr (by omega) (by omega) h
theorem oct_pos : 0 < lgF 8 D8 255 (c :: r) 3 ↔ 48 ≤ c ∧ c ≤ 55 := by
  rw [(oct_scan (c :: r)).e1]
  by_cases h : (0 : Int) ≤ 31 ∧ 0 ≤ dig c ∧ dig c < 8
  · rw [scan_on h]
    have := (mem_D8 c).mpr h.2
    unfold D8 at this
    simp only [List.mem_cons, List.not_mem_nil, or_false] at this
    dsimp only
    omega
  · rw [scan_off h]
    have : ¬ c ∈ D8 := fun q => h ⟨by decide, (mem_D8 c).mp q⟩
    unfold D8 at this
    simp only [List.mem_cons, List.not_mem_nil, or_false] at this
    dsimp only
    omega
theorem due_3 (hd : T.drop (n + 1) = c :: r) (h1 : ¬ 0 ≤ named c) (h2 : ¬ c = 10) (h3 : 0 < lgF 8 D8 255 (c :: r) 3) :
    [(D, tupO (txt [(valF 8 D8 ((c :: r).take (lgF 8 D8 255 (c :: r) 3)) 0).toNat]) t1 ((n : Int) + 1 + (lgF 8 D8 255 (c :: r) 3 : Int)) t2 k)] = [(D, tupO (txt (bsTxt T n)) t1 (bsEnd T n) t2 k)] := by
  have h4 := oct_pos.mp h3
  have h5 : ¬ (c = 120 ∨ c = 117 ∨ c = 85) := by omega
  unfold bsTxt bsEnd
  rw [hd]
  dsimp only
  rw [if_neg h1, if_neg h1, if_neg h2, if_neg h2, if_neg h5, if_neg h5, if_pos h4, if_pos h4]
  unfold octTxt octEnd
  rw [hd, (oct_scan (c :: r)).e2, (oct_scan (c :: r)).e1]
  have : ((n + 1 : Nat) : Int) = (n : Int) + 1 := by omega
  rw [this]
/-- x, u and U: what _law_longest is asked -/
def bndOf (c : Nat) : Int := if c = 117 then 65535 else if c = 85 then 1114111 else 255
theorem hex_scan (c : Nat) (R : List Nat) : lgF 16 D22 (bndOf c) R (hexMost c) = (scan 16 69631 (hexMost c) R 0).1 ∧ valF 16 D22 (R.take (lgF 16 D22 (bndOf c) R (hexMost c))) 0 = (scan 16 69631 (hexMost c) R 0).2 := by
  rcases hex3 c with ⟨h, e⟩ | ⟨h, e⟩ | ⟨h, h', e⟩
  · rw [e, show bndOf c = 65535 from if_pos h]
    exact ⟨(hex_scan4 R).e1, (hex_scan4 R).e2⟩
  · rw [e, show bndOf c = 1114111 from by unfold bndOf; rw [if_neg (by omega), if_pos h]]
    exact ⟨(hex_scan8 R).e1, (hex_scan8 R).e2⟩
  · rw [e, show bndOf c = 255 from by unfold bndOf; rw [if_neg h, if_neg h']]
    exact ⟨(hex_scan2 R).e1, (hex_scan2 R).e2⟩
theorem due_4 {mo : Nat} {bd : Int} (hd : T.drop (n + 1) = c :: r) (h1 : ¬ 0 ≤ named c) (h2 : ¬ c = 10) (hc : c = 120 ∨ c = 117 ∨ c = 85) (hm : mo = hexMost c) (hb : bd = bndOf c) (h3 : 0 < lgF 16 D22 bd r mo) :
    [(D, tupO (txt [(valF 16 D22 (r.take (lgF 16 D22 bd r mo)) 0).toNat]) t1 ((n : Int) + 2 + (lgF 16 D22 bd r mo : Int)) t2 k)] = [(D, tupO (txt (bsTxt T n)) t1 (bsEnd T n) t2 k)] := by
  subst hm
  subst hb
  obtain ⟨e1, e2⟩ := hex_scan c r
  unfold bsTxt bsEnd
  rw [hd]
  dsimp only
  rw [if_neg h1, if_neg h1, if_neg h2, if_neg h2, if_pos hc, if_pos hc]
  unfold hexTxt hexEnd
  rw [(drop_next hd).2, show T.drop (n + 1 + 1) = r from (drop_next hd).1, e2, e1, if_neg (by omega)]
  have : ((n + 1 : Nat) : Int) + 1 = (n : Int) + 2 := by omega
  rw [this]
theorem due_5 {mo : Nat} {bd : Int} (hd : T.drop (n + 1) = c :: r) (h1 : ¬ 0 ≤ named c) (h2 : ¬ c = 10) (hc : c = 120 ∨ c = 117 ∨ c = 85) (hm : mo = hexMost c) (hb : bd = bndOf c) (h3 : ¬ 0 < lgF 16 D22 bd r mo) :
    [(D, tupO (txt [c]) t1 ((n : Int) + 2) t2 k)] = [(D, tupO (txt (bsTxt T n)) t1 (bsEnd T n) t2 k)] := by
  subst hm
  subst hb
  obtain ⟨e1, e2⟩ := hex_scan c r
  unfold bsTxt bsEnd
  rw [hd]
  dsimp only
  rw [if_neg h1, if_neg h1, if_neg h2, if_neg h2, if_pos hc, if_pos hc]
  unfold hexTxt hexEnd
  rw [(drop_next hd).2, show T.drop (n + 1 + 1) = r from (drop_next hd).1, ← e1, if_pos (by omega)]
  have : ((n + 1 : Nat) : Int) + 1 + (lgF 16 D22 (bndOf c) r (hexMost c) : Int) = (n : Int) + 2 := by omega
  rw [this]
theorem due_6 (hd : T.drop (n + 1) = c :: r) (h1 : ¬ 0 ≤ named c) (h2 : ¬ c = 10) (hc : ¬ (c = 120 ∨ c = 117 ∨ c = 85)) (h3 : ¬ 0 < lgF 8 D8 255 (c :: r) 3) :
    [(D, tupO (txt [c]) t1 ((n : Int) + 2) t2 k)] = [(D, tupO (txt (bsTxt T n)) t1 (bsEnd T n) t2 k)] := by
  have h4 : ¬ (48 ≤ c ∧ c ≤ 55) := fun q => h3 (oct_pos.mpr q)
  unfold bsTxt bsEnd
  rw [hd]
  dsimp only
  rw [if_neg h1, if_neg h1, if_neg h2, if_neg h2, if_neg hc, if_neg hc, if_neg h4, if_neg h4]
end
end Mine
end
-- part D7
section
namespace Mine
set_option maxRecDepth 100000
set_option maxHeartbeats 8000000
theorem eq_cons_emp {prog : Program} {w : World} {A : Around} {E : Value → Shared → Prop} {s : Shared} {t u : Tok} {Q : Value → Shared → Prop} {c : Nat} {r : List Nat} (h : Q (.bool false) s) : wpAny (model prog w) A (compareOp .Eq (.str (txt (c :: r)) t) (.str (Str.ofString "") u)) Q E s := by
  refine eq_emp lit_ ?_
  exact h
theorem any7_no {c : Nat} (h : ([Str.ofString "a", Str.ofString "b", Str.ofString "f", Str.ofString "n", Str.ofString "r", Str.ofString "t", Str.ofString "v"].any fun x => x == txt [c]) = false) : ¬ 0 ≤ named c := by
  rw [any7, decide_eq_false_iff_not] at h
  exact h
theorem any3_no {c : Nat} (h : ([Str.ofString "x", Str.ofString "u", Str.ofString "U"].any fun x => x == txt [c]) = false) : ¬ (c = 120 ∨ c = 117 ∨ c = 85) := by
  rw [any3, decide_eq_false_iff_not] at h
  exact h
theorem any3_yes {c : Nat} (h : ([Str.ofString "x", Str.ofString "u", Str.ofString "U"].any fun x => x == txt [c]) = true) : c = 120 ∨ c = 117 ∨ c = 85 := by
  rw [any3, decide_eq_true_eq] at h
  exact h
theorem drop1 (c : Nat) (r : List Nat) : (c :: r).drop 1 = r := rfl
theorem drop1take (c : Nat) (r : List Nat) (k : Nat) : ((c :: r).drop 1).take k = r.take k := rfl
section
variable {w : World} {loose : List Str} {mean : ExcName → Option Value} {mg mb : Str → Option Value} {news : List (Addr × Obj)} {R P : List Nat} {t u tm tb : Tok}
theorem lg_ok8 (hR : R.length ≤ 64) : Cl 2 w loose mean mg mb 68 news [.str (txt R) t, .str (Str.ofString "01234567") u, .int 3 tm, .int 255 tb] (fun add v => add = [] ∧ ∃ t, v = .int (lgF 8 D8 255 R 3) t) :=
  lg_ok (m := 3) (D := D8) hR lit_D8 (by decide) (by decide) (by decide)
theorem lg_ok2 (hR : R.length ≤ 64) : Cl 2 w loose mean mg mb 68 news [.str (txt R) t, .str (Str.ofString "0123456789abcdefABCDEF") u, .int 2 tm, .int 255 tb] (fun add v => add = [] ∧ ∃ t, v = .int (lgF 16 D22 255 R 2) t) :=
  lg_ok (m := 2) (D := D22) hR lit_D22 (by decide) (by decide) (by decide)
theorem lg_ok4 (hR : R.length ≤ 64) : Cl 2 w loose mean mg mb 68 news [.str (txt R) t, .str (Str.ofString "0123456789abcdefABCDEF") u, .int 4 tm, .int 65535 tb] (fun add v => add = [] ∧ ∃ t, v = .int (lgF 16 D22 65535 R 4) t) :=
  lg_ok (m := 4) (D := D22) hR lit_D22 (by decide) (by decide) (by decide)
theorem lg_okU (hR : R.length ≤ 64) : Cl 2 w loose mean mg mb 68 news [.str (txt R) t, .str (Str.ofString "0123456789abcdefABCDEF") u, .int 8 tm, .int 1114111 tb] (fun add v => add = [] ∧ ∃ t, v = .int (lgF 16 D22 1114111 R 8) t) :=
  lg_ok (m := 8) (D := D22) hR lit_D22 (by decide) (by decide) (by decide)
theorem val_ok8 (hP : P.length ≤ 64) (hin : ∀ c ∈ P, c ∈ D8) : Cl 1 w loose mean mg mb 63 news [.str (txt P) t, .str (Str.ofString "01234567") u] (fun add v => add = [] ∧ ∃ t, v = .int (valF 8 D8 P 0) t) :=
  val_ok (D := D8) hP lit_D8 (by decide) (by decide) hin
theorem val_ok22 (hP : P.length ≤ 64) (hin : ∀ c ∈ P, c ∈ D22) : Cl 1 w loose mean mg mb 63 news [.str (txt P) t, .str (Str.ofString "0123456789abcdefABCDEF") u] (fun add v => add = [] ∧ ∃ t, v = .int (valF 16 D22 P 0) t) :=
  val_ok (D := D22) hP lit_D22 (by decide) (by decide) hin
end
section
variable {T : List Nat} {n c : Nat} {r : List Nat} {D : Addr} {t1 t2 : Tok} {k : Nat}
theorem due_a0 (hd : T.drop (n + 1) = c :: r) (h : c = 97) : [(D, tupO (txt [(7 : Int).toNat]) t1 ((n : Int) + 2) t2 k)] = [(D, tupO (txt (bsTxt T n)) t1 (bsEnd T n) t2 k)] := due_1 (i := 0) hd (by rw [h]; decide) (by decide)
theorem due_a1 (hd : T.drop (n + 1) = c :: r) (h : c = 98) : [(D, tupO (txt [(8 : Int).toNat]) t1 ((n : Int) + 2) t2 k)] = [(D, tupO (txt (bsTxt T n)) t1 (bsEnd T n) t2 k)] := due_1 (i := 1) hd (by rw [h]; decide) (by decide)
theorem due_a2 (hd : T.drop (n + 1) = c :: r) (h : c = 102) : [(D, tupO (txt [(12 : Int).toNat]) t1 ((n : Int) + 2) t2 k)] = [(D, tupO (txt (bsTxt T n)) t1 (bsEnd T n) t2 k)] := due_1 (i := 2) hd (by rw [h]; decide) (by decide)
theorem due_a3 (hd : T.drop (n + 1) = c :: r) (h : c = 110) : [(D, tupO (txt [(10 : Int).toNat]) t1 ((n : Int) + 2) t2 k)] = [(D, tupO (txt (bsTxt T n)) t1 (bsEnd T n) t2 k)] := due_1 (i := 3) hd (by rw [h]; decide) (by decide)
theorem due_a4 (hd : T.drop (n + 1) = c :: r) (h : c = 114) : [(D, tupO (txt [(13 : Int).toNat]) t1 ((n : Int) + 2) t2 k)] = [(D, tupO (txt (bsTxt T n)) t1 (bsEnd T n) t2 k)] := due_1 (i := 4) hd (by rw [h]; decide) (by decide)
theorem due_a5 (hd : T.drop (n + 1) = c :: r) (h : c = 116) : [(D, tupO (txt [(9 : Int).toNat]) t1 ((n : Int) + 2) t2 k)] = [(D, tupO (txt (bsTxt T n)) t1 (bsEnd T n) t2 k)] := due_1 (i := 5) hd (by rw [h]; decide) (by decide)
theorem due_a6 (hd : T.drop (n + 1) = c :: r) (h : c = 118) : [(D, tupO (txt [(11 : Int).toNat]) t1 ((n : Int) + 2) t2 k)] = [(D, tupO (txt (bsTxt T n)) t1 (bsEnd T n) t2 k)] := due_1 (i := 6) hd (by rw [h]; decide) (by decide)
end
section
variable {prog : Program} {w : World} {A : Around} {E : Value → Shared → Prop} {Q : Flow → Shared → Prop} {s : Shared} {env : Env} {h₀ : Heap} {L : Addr}
theorem my_while {σ : Type} {led : List (Addr × Obj)} {test : PySem.Expr} {body : List Stmt} {pos : Pos} {m₀ : Str → Option Value} (ps : σ → List (Str × Value)) (stored : List Str) (P : σ → Prop) (μ : σ → Nat) (c₀ : σ)
    (F : Fr h₀ L s.heap m₀) (N : News h₀ L s.heap led) (hk : ∀ p ∈ ps c₀, m₀ p.1 = some p.2) (hp : P c₀)
    (turn : ∀ (c : σ) (u : Str → Option Value) h tk, P c → Fr h₀ L h (kstB (fun z => if stored.contains z then u z else m₀ z) (ps c)) → News h₀ L h led →
      wpAny (model prog w) A (isTrue test env (eval test env)) (fun b s₂ =>
        if b = true then wpAny (model prog w) A (execs body env) (KswPost h₀ L s (fun _ => led) ps (fun _ => True) stored m₀ P μ Q c) E s₂ else Q .next s₂) E { s with heap := h, toks := tk })
    (hE : PassesOwn (model prog w) A env E := by passes_own) :
    wpAny (model prog w) A (exec (.While test body [] pos) env) Q E s :=
  ksw_while (fun _ => led) ps (fun _ => True) stored P μ c₀ F N trivial hk hp (fun c u h tk _ p F' N' => turn c u h tk p F' N') hE
end

section
variable {T : List Nat} {n c : Nat} {r : List Nat} {D : Addr} {t1 t2 : Tok} {k : Nat}
theorem due_4x (hd : T.drop (n + 1) = c :: r) (h1 : ¬ 0 ≤ named c) (h2 : ¬ c = 10) (hc : c = 120) (h3 : 0 < (lgF 16 D22 255 r 2 : Int)) :
    [(D, tupO (txt [(valF 16 D22 (r.take (lgF 16 D22 255 r 2)) 0).toNat]) t1 ((n : Int) + 2 + (lgF 16 D22 255 r 2 : Int)) t2 k)] = [(D, tupO (txt (bsTxt T n)) t1 (bsEnd T n) t2 k)] :=
  due_4 hd h1 h2 (.inl hc) (by subst hc; decide) (by subst hc; decide) (by omega)
theorem due_5x (hd : T.drop (n + 1) = c :: r) (h1 : ¬ 0 ≤ named c) (h2 : ¬ c = 10) (hc : c = 120) (h3 : ¬ 0 < (lgF 16 D22 255 r 2 : Int)) :
    [(D, tupO (txt [c]) t1 ((n : Int) + 2) t2 k)] = [(D, tupO (txt (bsTxt T n)) t1 (bsEnd T n) t2 k)] :=
  due_5 (mo := 2) (bd := 255) hd h1 h2 (.inl hc) (by subst hc; decide) (by subst hc; decide) (by omega)
theorem due_4u (hd : T.drop (n + 1) = c :: r) (h1 : ¬ 0 ≤ named c) (h2 : ¬ c = 10) (hc : c = 117) (h3 : 0 < (lgF 16 D22 65535 r 4 : Int)) :
    [(D, tupO (txt [(valF 16 D22 (r.take (lgF 16 D22 65535 r 4)) 0).toNat]) t1 ((n : Int) + 2 + (lgF 16 D22 65535 r 4 : Int)) t2 k)] = [(D, tupO (txt (bsTxt T n)) t1 (bsEnd T n) t2 k)] :=
  due_4 hd h1 h2 (.inr (.inl hc)) (by subst hc; decide) (by subst hc; decide) (by omega)
theorem due_5u (hd : T.drop (n + 1) = c :: r) (h1 : ¬ 0 ≤ named c) (h2 : ¬ c = 10) (hc : c = 117) (h3 : ¬ 0 < (lgF 16 D22 65535 r 4 : Int)) :
    [(D, tupO (txt [c]) t1 ((n : Int) + 2) t2 k)] = [(D, tupO (txt (bsTxt T n)) t1 (bsEnd T n) t2 k)] :=
  due_5 (mo := 4) (bd := 65535) hd h1 h2 (.inr (.inl hc)) (by subst hc; decide) (by subst hc; decide) (by omega)
theorem due_4U (hd : T.drop (n + 1) = c :: r) (h1 : ¬ 0 ≤ named c) (h2 : ¬ c = 10) (hc : c = 85) (h3 : 0 < (lgF 16 D22 1114111 r 8 : Int)) :
    [(D, tupO (txt [(valF 16 D22 (r.take (lgF 16 D22 1114111 r 8)) 0).toNat]) t1 ((n : Int) + 2 + (lgF 16 D22 1114111 r 8 : Int)) t2 k)] = [(D, tupO (txt (bsTxt T n)) t1 (bsEnd T n) t2 k)] :=
  due_4 hd h1 h2 (.inr (.inr hc)) (by subst hc; decide) (by subst hc; decide) (by omega)
theorem due_5U (hd : T.drop (n + 1) = c :: r) (h1 : ¬ 0 ≤ named c) (h2 : ¬ c = 10) (hc : c = 85) (h3 : ¬ 0 < (lgF 16 D22 1114111 r 8 : Int)) :
    [(D, tupO (txt [c]) t1 ((n : Int) + 2) t2 k)] = [(D, tupO (txt (bsTxt T n)) t1 (bsEnd T n) t2 k)] :=
  due_5 (mo := 8) (bd := 1114111) hd h1 h2 (.inr (.inr hc)) (by subst hc; decide) (by subst hc; decide) (by omega)
end
local macro_rules | `(tactic| walk_at "call builtin:len") => `(tactic| (k_here; k_dflt (refine my_len (by (try simp only [List.length_cons]); omega) ?_)))
local macro_rules | `(tactic| walk_at "call builtin:chr") => `(tactic| (k_here; k_dflt (walk_at "mine chr")))
local macro_rules | `(tactic| walk_at "subscriptTail Name Slice str ref") => `(tactic| (k_dflt (walk_at "mine w1")))
local macro_rules | `(tactic| walk_at "subscriptTail Name Constant str int") => `(tactic| (k_here; k_dflt (walk_at "mine item0")))
local macro_rules | `(tactic| walk_at "subscriptTail Name Name str int") => `(tactic| (k_here; k_dflt (walk_at "mine itemj")))
local macro_rules | `(tactic| walk_at "compareOp Eq str str") => `(tactic| (k_here; first | (refine eq_cons_emp ?_) | (refine eq_emp_emp ?_) | (refine eq_one lit_nl ?_)))
local macro_rules | `(tactic| walk_at "call builtin:list.index") => `(tactic| (k_here; k_dflt (walk_at "mine index")))
local macro_rules | `(tactic| walk_at "exec While BoolOp") => `(tactic| (k_here; k_dflt (walk_at "mine while")))
local macro_rules | `(tactic| walk_at "KswEnd") => `(tactic| (k_dflt (walk_at "mineKsw")))
local macro_rules | `(tactic| walk_at "call ref") => `(tactic| (k_here; k_dflt (walk_at "mine call")))
theorem due_ok1 {w : World} {loose : List Str} {mean : ExcName → Option Value} {mg mb : Str → Option Value} {news : List (Addr × Obj)} {T : List Nat} {n : Nat} {t u : Tok}
  (hx : T.length ≤ 64) (c : Nat) (r : List Nat) (hd : T.drop (n + 1) = c :: r) :
  Cl 3 w loose mean mg mb 75 news [.str (txt T) t, .int n u] (fun add v => ∃ D t1 t2 c, v = .ref D ∧ add = [(D, ({ cls := .type "tuple", data := .seq #[.str (txt (bsTxt T n)) t1, .int (bsEnd T n) t2] c } : Obj))]) := by
  have hl1 : (c :: r).length + (n + 1) = T.length := by
    have h9 : (c :: r).length = T.length - (n + 1) := by
      have := congrArg List.length hd
      simp only [List.length_drop] at this
      exact this.symm
    simp only [List.length_cons] at h9 ⊢
    omega
  have hl2 : r.length + (n + 2) = T.length := by simp only [List.length_cons] at hl1; omega
  have hO := oct_scan (c :: r)
  have h2 := hex_scan2 r
  have h4 := hex_scan4 r
  have hU := hex_scan8 r
  dsimp only [Cl]
  k_with_none
  k_with "mine chr" => (first | refine chr_lg hO (by decide) (by assumption) ?_ | refine chr_lg h2 (by decide) (by assumption) ?_ | refine chr_lg h4 (by decide) (by assumption) ?_ | refine chr_lg hU (by decide) (by assumption) ?_ | refine my_chr (by decide) (by decide) ?_)
  k_with "mine slice_a" => ((rename Fr _ _ _ _ => F'); (rename News _ _ _ _ => N'); (refine' my_slice_sn (s := ⟨_, _, _, _, _⟩) F' N' ?hS ?hi ?hj ?hT ?_; (case hS => assumption); (case hi => omega); (case hj => omega); (case hT => omega)); (intro h'' t'' k'' F'' N''); (try k_sweep))
  k_with "mine slice_b" => ((rename Fr _ _ _ _ => F'); (rename News _ _ _ _ => N'); (refine' my_slice_sn (s := ⟨_, _, _, _, _⟩) F' N' ?hS ?hi ?hj ?hT ?_; (case hS => exact drop1 _ _); (case hi => omega); (case hj => omega); (case hT => omega)); (intro h'' t'' k'' F'' N''); (try k_sweep))
  k_with "mine slice_c" => ((rename Fr _ _ _ _ => F'); (rename News _ _ _ _ => N'); (refine' my_slice_ns (s := ⟨_, _, _, _, _⟩) F' N' ?hS ?hj ?hT ?_; (case hS => exact rfl); (case hj => exact rfl); (case hT => omega)); (intro h'' t'' k'' F'' N''); (try k_sweep))
  k_with "mine slice_d" => ((rename Fr _ _ _ _ => F'); (rename News _ _ _ _ => N'); (refine' my_slice_ss (a := 1) (s := ⟨_, _, _, _, _⟩) F' N' ?hS ?hi ?hj ?hT ?_; (case hj => exact rfl); (case hS => exact drop1take _ _ _); (case hi => exact rfl); (case hT => omega)); (intro h'' t'' k'' F'' N''); (try k_sweep))
  k_with "mine w1" => (k_here; first  | ((with_reducible show wpAny _ _ (subscriptTail _ (PySem.Expr.Slice (some _) none none _) _ _) _ _ _); k_dflt (first | walk_at "mine slice_a" | walk_at "mine slice_b"))  | ((with_reducible show wpAny _ _ (subscriptTail _ (PySem.Expr.Slice none (some _) none _) _ _) _ _ _); k_dflt (walk_at "mine slice_c"))  | ((with_reducible show wpAny _ _ (subscriptTail _ (PySem.Expr.Slice (some _) (some _) none _) _ _) _ _ _); k_dflt (walk_at "mine slice_d")))
  k_with "mine item0" => ((refine my_item (by omega) (by simp only [List.length_cons]; omega) (by simp only [List.length_cons] at *; omega) ?_); (try simp only [Int.toNat_zero, List.getD_cons_zero]))
  k_with "mine itemj" => ((refine my_item (by omega) (by omega) (by omega) ?_); (try simp only [Int.toNat_natCast]))
  k_with "mine index" => first | ((refine' index_named ?N ?hm ?hc ?_ ?_ ?_ ?_ ?_ ?_ ?_); (case N => k_asm); (case hm => k_mem); (case hc => assumption)) | ((refine' index_xuU ?N ?hm ?hc ?_ ?_ ?_); (case N => k_asm); (case hm => k_mem); (case hc => assumption))
  k_with "mine while" => (  (rename Fr _ _ _ _ => F9); (rename News _ _ _ _ => N9);  (with_unfolding_all refine' my_while (fun c : Int × Tok => [(Str.ofString "blanks", .int c.1 c.2)]) [] (fun b => BlP (c :: r) 1 b.1) (fun b => ((List.length (c :: r) : Int) - b.1).toNat) (_, _) F9 N9 ?kk ?kp ?_);  (case kk => kst_all);  (case kp => exact BlP.start (by first | rfl | (dsimp only; omega)) (by simp only [List.length_cons]; omega));  (intro c' u' h' tk' hI' F' N'); (obtain ⟨p', q'⟩ := c'); (try dsimp only at hI' F' N'); (obtain ⟨j', hp', hI1, hI2⟩ := hI'); (subst hp'); (try dsimp only); (try k_fold); (try k_sweep))
  k_with "mineKsw" => ((rename News _ _ _ _ => nE'); (refine' ksw_end (⟨_, _⟩ : Int × Tok) ?F nE' ?hn trivial ?kk ?kr ?kp ?km);  (case F => k_asm); (case hn => (intro p hp; (repeat (first | exact hp | refine List.Mem.tail _ ?_)))); (case kk => kst_all);  (case kr => (intro z h2 h3; (have h5 := h2 _ (.head _)); (dsimp only at h5); (simp only [kstB, h5, if_false, List.contains_nil, Bool.false_eq_true])));  (case kp => exact BlP.next2 (by assumption) (by omega) (by assumption));  (case km => (dsimp only; omega)))
  k_with "mine call" => (  (first | with_unfolding_all refine' lg_ok8 ?hR _ _ _ _ _ _ _ _ _ _ _ _ _ _ _ _ _ ?k1 ?k2 ?k3 ?k4 ?k5 ?k6 ?k7 ?k8 ?_ | with_unfolding_all refine' lg_ok2 ?hR _ _ _ _ _ _ _ _ _ _ _ _ _ _ _ _ _ ?k1 ?k2 ?k3 ?k4 ?k5 ?k6 ?k7 ?k8 ?_  | with_unfolding_all refine' lg_ok4 ?hR _ _ _ _ _ _ _ _ _ _ _ _ _ _ _ _ _ ?k1 ?k2 ?k3 ?k4 ?k5 ?k6 ?k7 ?k8 ?_ | with_unfolding_all refine' lg_okU ?hR _ _ _ _ _ _ _ _ _ _ _ _ _ _ _ _ _ ?k1 ?k2 ?k3 ?k4 ?k5 ?k6 ?k7 ?k8 ?_  | (with_unfolding_all refine' val_ok8 ?hR ?hin _ _ _ _ _ _ _ _ _ _ _ _ _ _ _ _ _ ?k1 ?k2 ?k3 ?k4 ?k5 ?k6 ?k7 ?k8 ?_; (case hin => exact LgScan.hin hO)) | (with_unfolding_all refine' val_ok22 ?hR ?hin _ _ _ _ _ _ _ _ _ _ _ _ _ _ _ _ _ ?k1 ?k2 ?k3 ?k4 ?k5 ?k6 ?k7 ?k8 ?_; (case hin => first | exact LgScan.hin h2 | exact LgScan.hin h4 | exact LgScan.hin hU)));  (case hR => ((try simp only [List.length_take]); omega));  (case k1 => k_asm); (case k2 => k_asm); (case k3 => k_asm); (case k4 => k_asm); (case k5 => k_asm); (case k6 => first | exact rfl | assumption); (case k7 => ktr_room); (case k8 => ktr_units);  (intro v' h' tk' add' hP' F' N'); (obtain ⟨eA', t', eV'⟩ := hP'); (subst eA'); (subst eV'); (try dsimp only [List.cons_append, List.nil_append] at N'); (try dsimp only); (try k_fold); (try k_sweep))
  k_with "mine end" => ((refine' hret (.ref _) _ _ [(_, _)] ⟨_, _, _, _, rfl, ?eq⟩ ?F (news_pick ?N ?hx ?hn));  (case F => k_asm); (case N => k_asm); (case hx => k_mem); (case hn => (intro p hp; (repeat (first | exact hp | refine List.Mem.tail _ ?_))));  (case eq => first | exact bs_0 hd | exact due_a0 hd (by assumption) | exact due_a1 hd (by assumption) | exact due_a2 hd (by assumption) | exact due_a3 hd (by assumption) | exact due_a4 hd (by assumption) | exact due_a5 hd (by assumption) | exact due_a6 hd (by assumption)  | exact due_2 hd (any7_no (by assumption)) (by assumption) (bl_stop2 (by assumption) (by assumption)) | exact due_2 hd (any7_no (by assumption)) (by assumption) (bl_stop3 (by assumption) (by omega))  | exact due_3 hd (any7_no (by assumption)) (by assumption) (by omega)  | exact due_4x hd (any7_no (by assumption)) (by assumption) (by assumption) (by assumption) | exact due_4u hd (any7_no (by assumption)) (by assumption) (by assumption) (by assumption) | exact due_4U hd (any7_no (by assumption)) (by assumption) (by assumption) (by assumption)  | exact due_5x hd (any7_no (by assumption)) (by assumption) (by assumption) (by assumption) | exact due_5u hd (any7_no (by assumption)) (by assumption) (by assumption) (by assumption) | exact due_5U hd (any7_no (by assumption)) (by assumption) (by assumption) (by assumption)  | exact due_6 hd (any7_no (by assumption)) (by assumption) (any3_no (by assumption)) (by omega)))
  w_top off
  k_fill
  intros
  rename_i hret
  refine wpAny_call ?_
  k_dflt cell_enter
  k_steps
  all_goals first
    | walk_at "mine end"
    | w_report
theorem due_ok0 {w : World} {loose : List Str} {mean : ExcName → Option Value} {mg mb : Str → Option Value} {news : List (Addr × Obj)} {T : List Nat} {n : Nat} {t u : Tok}
  (hx : T.length ≤ 64) (hn : n < T.length) (hd : T.drop (n + 1) = []) :
  Cl 3 w loose mean mg mb 75 news [.str (txt T) t, .int n u] (fun add v => ∃ D t1 t2 c, v = .ref D ∧ add = [(D, ({ cls := .type "tuple", data := .seq #[.str (txt (bsTxt T n)) t1, .int (bsEnd T n) t2] c } : Obj))]) := by
  dsimp only [Cl]
  k_with_none
  k_with "mine chr" => (first | refine chr_lg hO (by decide) (by assumption) ?_ | refine chr_lg h2 (by decide) (by assumption) ?_ | refine chr_lg h4 (by decide) (by assumption) ?_ | refine chr_lg hU (by decide) (by assumption) ?_ | refine my_chr (by decide) (by decide) ?_)
  k_with "mine slice_a" => ((rename Fr _ _ _ _ => F'); (rename News _ _ _ _ => N'); (refine' my_slice_sn (s := ⟨_, _, _, _, _⟩) F' N' ?hS ?hi ?hj ?hT ?_; (case hS => assumption); (case hi => omega); (case hj => omega); (case hT => omega)); (intro h'' t'' k'' F'' N''); (try k_sweep))
  k_with "mine slice_b" => ((rename Fr _ _ _ _ => F'); (rename News _ _ _ _ => N'); (refine' my_slice_sn (s := ⟨_, _, _, _, _⟩) F' N' ?hS ?hi ?hj ?hT ?_; (case hS => exact drop1 _ _); (case hi => omega); (case hj => omega); (case hT => omega)); (intro h'' t'' k'' F'' N''); (try k_sweep))
  k_with "mine slice_c" => ((rename Fr _ _ _ _ => F'); (rename News _ _ _ _ => N'); (refine' my_slice_ns (s := ⟨_, _, _, _, _⟩) F' N' ?hS ?hj ?hT ?_; (case hS => exact rfl); (case hj => exact rfl); (case hT => omega)); (intro h'' t'' k'' F'' N''); (try k_sweep))
  k_with "mine slice_d" => ((rename Fr _ _ _ _ => F'); (rename News _ _ _ _ => N'); (refine' my_slice_ss (a := 1) (s := ⟨_, _, _, _, _⟩) F' N' ?hS ?hi ?hj ?hT ?_; (case hj => exact rfl); (case hS => exact drop1take _ _ _); (case hi => exact rfl); (case hT => omega)); (intro h'' t'' k'' F'' N''); (try k_sweep))
  k_with "mine w1" => (k_here; first  | ((with_reducible show wpAny _ _ (subscriptTail _ (PySem.Expr.Slice (some _) none none _) _ _) _ _ _); k_dflt (first | walk_at "mine slice_a" | walk_at "mine slice_b"))  | ((with_reducible show wpAny _ _ (subscriptTail _ (PySem.Expr.Slice none (some _) none _) _ _) _ _ _); k_dflt (walk_at "mine slice_c"))  | ((with_reducible show wpAny _ _ (subscriptTail _ (PySem.Expr.Slice (some _) (some _) none _) _ _) _ _ _); k_dflt (walk_at "mine slice_d")))
  k_with "mine item0" => ((refine my_item (by omega) (by simp only [List.length_cons]; omega) (by simp only [List.length_cons] at *; omega) ?_); (try simp only [Int.toNat_zero, List.getD_cons_zero]))
  k_with "mine itemj" => ((refine my_item (by omega) (by omega) (by omega) ?_); (try simp only [Int.toNat_natCast]))
  k_with "mine index" => first | ((refine' index_named ?N ?hm ?hc ?_ ?_ ?_ ?_ ?_ ?_ ?_); (case N => k_asm); (case hm => k_mem); (case hc => assumption)) | ((refine' index_xuU ?N ?hm ?hc ?_ ?_ ?_); (case N => k_asm); (case hm => k_mem); (case hc => assumption))
  k_with "mine while" => (  (rename Fr _ _ _ _ => F9); (rename News _ _ _ _ => N9);  (with_unfolding_all refine' my_while (fun c : Int × Tok => [(Str.ofString "blanks", .int c.1 c.2)]) [] (fun b => BlP (c :: r) 1 b.1) (fun b => ((List.length (c :: r) : Int) - b.1).toNat) (_, _) F9 N9 ?kk ?kp ?_);  (case kk => kst_all);  (case kp => exact BlP.start (by first | rfl | (dsimp only; omega)) (by simp only [List.length_cons]; omega));  (intro c' u' h' tk' hI' F' N'); (obtain ⟨p', q'⟩ := c'); (try dsimp only at hI' F' N'); (obtain ⟨j', hp', hI1, hI2⟩ := hI'); (subst hp'); (try dsimp only); (try k_fold); (try k_sweep))
  k_with "mineKsw" => ((rename News _ _ _ _ => nE'); (refine' ksw_end (⟨_, _⟩ : Int × Tok) ?F nE' ?hn trivial ?kk ?kr ?kp ?km);  (case F => k_asm); (case hn => (intro p hp; (repeat (first | exact hp | refine List.Mem.tail _ ?_)))); (case kk => kst_all);  (case kr => (intro z h2 h3; (have h5 := h2 _ (.head _)); (dsimp only at h5); (simp only [kstB, h5, if_false, List.contains_nil, Bool.false_eq_true])));  (case kp => exact BlP.next2 (by assumption) (by omega) (by assumption));  (case km => (dsimp only; omega)))
  k_with "mine call" => (  (first | with_unfolding_all refine' lg_ok8 ?hR _ _ _ _ _ _ _ _ _ _ _ _ _ _ _ _ _ ?k1 ?k2 ?k3 ?k4 ?k5 ?k6 ?k7 ?k8 ?_ | with_unfolding_all refine' lg_ok2 ?hR _ _ _ _ _ _ _ _ _ _ _ _ _ _ _ _ _ ?k1 ?k2 ?k3 ?k4 ?k5 ?k6 ?k7 ?k8 ?_  | with_unfolding_all refine' lg_ok4 ?hR _ _ _ _ _ _ _ _ _ _ _ _ _ _ _ _ _ ?k1 ?k2 ?k3 ?k4 ?k5 ?k6 ?k7 ?k8 ?_ | with_unfolding_all refine' lg_okU ?hR _ _ _ _ _ _ _ _ _ _ _ _ _ _ _ _ _ ?k1 ?k2 ?k3 ?k4 ?k5 ?k6 ?k7 ?k8 ?_  | (with_unfolding_all refine' val_ok8 ?hR ?hin _ _ _ _ _ _ _ _ _ _ _ _ _ _ _ _ _ ?k1 ?k2 ?k3 ?k4 ?k5 ?k6 ?k7 ?k8 ?_; (case hin => exact LgScan.hin hO)) | (with_unfolding_all refine' val_ok22 ?hR ?hin _ _ _ _ _ _ _ _ _ _ _ _ _ _ _ _ _ ?k1 ?k2 ?k3 ?k4 ?k5 ?k6 ?k7 ?k8 ?_; (case hin => first | exact LgScan.hin h2 | exact LgScan.hin h4 | exact LgScan.hin hU)));  (case hR => ((try simp only [List.length_take]); omega));  (case k1 => k_asm); (case k2 => k_asm); (case k3 => k_asm); (case k4 => k_asm); (case k5 => k_asm); (case k6 => first | exact rfl | assumption); (case k7 => ktr_room); (case k8 => ktr_units);  (intro v' h' tk' add' hP' F' N'); (obtain ⟨eA', t', eV'⟩ := hP'); (subst eA'); (subst eV'); (try dsimp only [List.cons_append, List.nil_append] at N'); (try dsimp only); (try k_fold); (try k_sweep))
  k_with "mine end" => ((refine' hret (.ref _) _ _ [(_, _)] ⟨_, _, _, _, rfl, ?eq⟩ ?F (news_pick ?N ?hx ?hn));  (case F => k_asm); (case N => k_asm); (case hx => k_mem); (case hn => (intro p hp; (repeat (first | exact hp | refine List.Mem.tail _ ?_))));  (case eq => first | exact bs_0 hd | exact due_a0 hd (by assumption) | exact due_a1 hd (by assumption) | exact due_a2 hd (by assumption) | exact due_a3 hd (by assumption) | exact due_a4 hd (by assumption) | exact due_a5 hd (by assumption) | exact due_a6 hd (by assumption)  | exact due_2 hd (any7_no (by assumption)) (by assumption) (bl_stop2 (by assumption) (by assumption)) | exact due_2 hd (any7_no (by assumption)) (by assumption) (bl_stop3 (by assumption) (by omega))  | exact due_3 hd (any7_no (by assumption)) (by assumption) (by omega)  | exact due_4x hd (any7_no (by assumption)) (by assumption) (by assumption) (by assumption) | exact due_4u hd (any7_no (by assumption)) (by assumption) (by assumption) (by assumption) | exact due_4U hd (any7_no (by assumption)) (by assumption) (by assumption) (by assumption)  | exact due_5x hd (any7_no (by assumption)) (by assumption) (by assumption) (by assumption) | exact due_5u hd (any7_no (by assumption)) (by assumption) (by assumption) (by assumption) | exact due_5U hd (any7_no (by assumption)) (by assumption) (by assumption) (by assumption)  | exact due_6 hd (any7_no (by assumption)) (by assumption) (any3_no (by assumption)) (by omega)))
  w_top off
  k_fill
  intros
  rename_i hret
  refine wpAny_call ?_
  k_dflt cell_enter
  k_steps
  all_goals first
    | walk_at "mine end"
    | w_report
end Mine
end
-- part D8
section
namespace Mine
set_option maxRecDepth 100000
set_option maxHeartbeats 8000000
theorem txt_append (A B : List Nat) : txt A ++ txt B = txt (A ++ B) := by
  refine PySem.Str.ext' (Array.toList_inj.mp ?_)
  rw [PySem.Str.cps_append, Array.toList_append]
  simp [txt]
section
variable {prog : Program} {w : World} {A : Around} {E : Value → Shared → Prop} {s : Shared} {h₀ : Heap} {L : Addr} {m : Str → Option Value} {news : List (Addr × Obj)} {Q : Value → Shared → Prop}
theorem add_txt {X Y : List Nat} {t u : Tok} (hz : X.length + Y.length ≤ 1000) (h : ∀ t' tk, Q (.str (txt (X ++ Y)) t') { s with toks := tk }) : wpAny (model prog w) A (binaryOp .Add (.str (txt X) t) (.str (txt Y) u)) Q E s := by
  refine PyProof.Rows.add_str (fun t' tk => ?_) (by rw [txt_length, txt_length, sizeLine_eq]; omega)
  rw [txt_append]
  exact h t' tk
theorem getD_le {ys : List Str} {i k : Nat} (hall : ∀ y ∈ ys, y.length ≤ k) : (ys.getD i Str.empty).length ≤ k := by
  by_cases hlt : i < ys.length
  · refine hall _ ?_
    rw [List.getD_eq_getElem?_getD, List.getElem?_eq_getElem hlt]
    exact List.getElem_mem hlt
  · rw [List.getD_eq_getElem?_getD, List.getElem?_eq_none (by omega)]
    exact Nat.zero_le _
theorem add_tab {X : List Nat} {ys : List Str} {i : Nat} {t u : Tok} (hz : X.length ≤ 900) (hall : ∀ y ∈ ys, y.length ≤ 6) (h : ∀ t' tk Y, List.length Y ≤ 6 → Q (.str (txt (X ++ Y)) t') { s with toks := tk }) :
    wpAny (model prog w) A (binaryOp .Add (.str (txt X) t) (.str (ys.getD i Str.empty) u)) Q E s := by
  have hl := getD_le (i := i) hall
  have e := txt_of (ys.getD i Str.empty)
  rw [e] at hl ⊢
  rw [txt_length] at hl
  exact add_txt (by omega) fun t' tk => h t' tk _ hl
end
local macro_rules | `(tactic| walk_at "subscriptTail Name Slice str ref") => `(tactic| (k_here; k_dflt (walk_at "mine slice_ns")))
local macro_rules | `(tactic| walk_at "binaryOp Add str str") => `(tactic| (k_here; k_dflt (walk_at "mine add")))
local macro_rules | `(tactic| walk_at "InvEndN") => `(tactic| (k_dflt (walk_at "mine inv")))
local macro_rules | `(tactic| walk_at "pyIter ref") => `(tactic| (k_here; refine Stop.at ?_))

theorem tail_ok {w : World} {loose : List Str} {mean : ExcName → Option Value} {mg mb : Str → Option Value} {news : List (Addr × Obj)} {n : Int} {u : Tok} :
  Cl 1 w loose mean mg mb 56 news [.int n u] (fun add v => add = [] ∧ ∃ T t, T.length ≤ 9 ∧ v = .str (txt T) t) := by
  have hm0 := fmod_lo n (n := 10) (by decide)
  have hm1 := fmod_hi n (n := 10) (by decide)
  dsimp only [Cl]
  k_with_none
  k_with "mine range" => ((rename Fr _ _ _ _ => F9); (rename News _ _ _ _ => N9); (rename IsRange _ _ _ _ _ _ _ _ => rgX);  (with_unfolding_all refine' my_range (n := (Int.fmod n 10 - 0).toNat) (fun c : List Nat × Tok × Int × Tok => [(Str.ofString "out", .str (txt c.1) c.2.1), (Str.ofString "rest", .int c.2.2.1 c.2.2.2)]) [] (fun pre c => List.length c.1 ≤ 6 * List.length pre) ([], _, _, _) ?kh rgX ?ks ?kn F9 N9 ?kk ?kp ?_ ?_);  (case kh => exact rfl); (case ks => exact small_one (by omega) (by omega) (by omega) (by omega)); (case kn => exact rangeSize_nat _ _); (case kk => (refine List.forall_mem_cons.mpr ⟨?_, ?_⟩; (focus (dsimp only; rw [← lit_]; with_unfolding_all rfl)); kst_all)); (case kp => exact Nat.zero_le _))
  k_with "mine turn" => ((intro c' pre' k' t' u' h' tk' own' hk' hlt' hoff' hP' F' N'); (obtain ⟨T', p', v', q'⟩ := c'); (try dsimp only at hP' F' N'); (try dsimp only); (try k_fold); (try k_sweep))
  k_with "mine done" => ((intro c' u' h' tk' hP' F' N'); (obtain ⟨T', p', v', q'⟩ := c'); (try dsimp only at hP' F' N'); (rw [rangeKs_length] at hP'); (try dsimp only); (try k_fold); (try k_sweep))
  k_with "mine slice_ns" => ((rename Fr _ _ _ _ => F'); (rename News _ _ _ _ => N'); (refine' my_slice_ns (s := ⟨_, _, _, _, _⟩) (k := 9) F' N' ?hS ?hj ?hT ?_; (case hS => exact rfl); (case hj => exact rfl); (case hT => omega)); (intro h'' t'' k'' F'' N''); (try k_sweep))
  k_with "mine add" => ((refine' add_tab ?hz ?hall ?_); (case hz => omega); (case hall => decide +kernel); (intro t' tk' Y' hY'))
  k_with "mine inv" => ((rename News _ _ _ _ => nE'); (refine' kst_end (⟨_, _, _, _⟩ : List Nat × Tok × Int × Tok) ?F nE' ?hn ?ho ?ha trivial ?kk ?kr ?kp);  (case F => k_asm); (case hn => (intro p hp; (simp only [List.mem_append, List.mem_cons, List.cons_append] at hp ⊢); grind)); (case ho => (intro p hp; (simp only [List.mem_append, List.mem_cons, List.cons_append] at hp ⊢); grind)); (case ha => exact rfl); (case kk => kst_all);  (case kr => (intro z h1 h2 h3; (have h5 := h2 _ (.head _)); (have h6 := h2 _ (.tail _ (.head _))); (dsimp only at h5 h6); (simp only [kstB, h1, h5, h6, if_false, List.contains_nil, Bool.false_eq_true])));  (case kp => (simp only [List.length_append, List.length_cons, List.length_nil]; omega)))
  w_top off
  k_fill
  intros
  rename_i hret
  refine wpAny_call ?_
  k_dflt cell_enter
  k_steps
  unfold Stop
  walk_at "mine range"
  · walk_at "mine turn"
    k_steps
    all_goals walk_at "mine inv"
  · walk_at "mine done"
    k_steps
    rename News _ _ _ _ => nE
    refine hret _ _ _ [] ⟨rfl, _, _, ?_, rfl⟩ (by k_asm) (fun p hp => nE p ?_)
    · rw [List.length_take]; omega
    · simp only [List.nil_append, List.mem_cons] at hp ⊢; grind
end Mine
end
-- part P6
section
namespace Mine
set_option maxRecDepth 100000
set_option maxHeartbeats 8000000
section
variable {prog : Program} {w : World} {A : Around} {E : Value → Shared → Prop} {s : Shared} {env : Env} {h₀ : Heap} {target : PySem.Expr} {body : List Stmt} {Q : Flow → Shared → Prop}
/-- every turn of the enumeration of texts: by one turn over any of them -/
theorem items_all {ws : List (Addr × String)} {keep : List (Addr × Obj)} (I : (Str → Option Value) → Prop)
    (turn : ∀ (i : Nat) (S : List Nat) (ts t : Tok) (T : Addr) (m : Str → Option Value) (h : Heap) (tk : Nat), S.length ≤ 12 → I m → IsTup h T #[.int (i : Int) t, .str (txt S) ts] → Fr h₀ env.locals h m →
      AllObj ws (fun its => News h₀ env.locals h (its ++ keep) →
        wpAny (model prog w) A (assign target env (.ref T)) (fun _ s₂ => wpAny (model prog w) A (execs body env) (UnrPostW h₀ env.locals { s with heap := h, toks := tk } its (fun m' n' => SubL keep n' ∧ I m') Q) E s₂) E { s with heap := h, toks := tk }))
    (done : ∀ (m : Str → Option Value) (h : Heap) (tk : Nat), I m → Fr h₀ env.locals h m → News h₀ env.locals h keep → Q .next { s with heap := h, toks := tk }) :
    ∀ (vs : List Value) (ys : List Str), StrsAre vs ys → (∀ y ∈ ys, y.length ≤ 12) → ∀ (a : Nat) (m : Str → Option Value) (news : List (Addr × Obj)), I m → SubL keep news →
      ItemsRest prog w A E h₀ env target body Q s ws keep (enumItems a vs) m news := by
  intro vs
  induction vs with
  | nil =>
    intro ys hS hy a m news hI hk
    refine ItemsRest.zero fun h tk F N => done m h tk hI F fun p hp => N p (hk.mem p hp)
  | cons v r ih =>
    intro ys hS hy a m news hI hk
    cases hS with
    | cons n t hr =>
      rename_i yr
      refine ItemsRest.pair fun T u h tk hT F => ?_
      have e := txt_of n
      have hn : n.cps.toList.length ≤ 12 := by
        have := hy n (.head _)
        rw [e, txt_length] at this
        exact this
      have h1 := turn a n.cps.toList t u T m h tk hn hI (by rw [← e]; exact hT) F
      have up : ∀ its, (News h₀ env.locals h (its ++ keep) →
          wpAny (model prog w) A (assign target env (.ref T)) (fun _ s₂ => wpAny (model prog w) A (execs body env) (UnrPostW h₀ env.locals { s with heap := h, toks := tk } its (fun m' n' => SubL keep n' ∧ I m') Q) E s₂) E { s with heap := h, toks := tk }) →
          (News h₀ env.locals h (its ++ news) →
          wpAny (model prog w) A (assign target env (.ref T)) (fun _ s₂ => wpAny (model prog w) A (execs body env) (UnrPostW h₀ env.locals { s with heap := h, toks := tk } its (fun m' n' => SubL keep n' ∧ ItemsRest prog w A E h₀ env target body Q s ws keep (enumItems (a + 1) r) m' n') Q) E s₂) E { s with heap := h, toks := tk }) := by
        intro its hx N
        refine wpAny_mono (hx fun p hp => ?_) (fun _ s₂ h₂ => wpAny_mono h₂ (fun f s₃ h₃ => ?_) fun _ _ e => e) fun _ _ e => e
        · rcases List.mem_append.mp hp with hp | hp
          · exact N p (List.mem_append_left _ hp)
          · exact N p (List.mem_append_right _ (hk.mem p hp))
        · have fin : UnrEndW h₀ env.locals { s with heap := h, toks := tk } its (fun m' n' => SubL keep n' ∧ I m') s₃ →
              UnrEndW h₀ env.locals { s with heap := h, toks := tk } its (fun m' n' => SubL keep n' ∧ ItemsRest prog w A E h₀ env target body Q s ws keep (enumItems (a + 1) r) m' n') s₃ := by
            rintro ⟨h', tk', m', news', e, F', N', ho, hk', hI'⟩
            exact ⟨h', tk', m', news', e, F', N', ho, hk', ih yr hr (fun y hy' => hy y (.tail _ hy')) (a + 1) m' news' hI' hk'⟩
          cases f with
          | ret v => exact h₃
          | brk => exact h₃
          | next => exact fin h₃
          | cont => exact fin h₃
      have mono : ∀ (ws : List (Addr × String)) (k k' : List (Addr × Obj) → Prop), (∀ its, k its → k' its) → AllObj ws k → AllObj ws k' := by
        intro ws
        induction ws with
        | nil => intro k k' hk h; exact hk _ h
        | cons w r ih2 =>
          intro k k' hk h o ho
          exact ih2 _ _ (fun its => hk _) (h o ho)
      exact mono ws _ _ up h1
theorem items_law {ws : List (Addr × String)} {l : Addr} {lo : Obj} {hb : Heap} {ls : Addr} {its : Array Value} (_hL : hb.IsList ls its) (hlo : lo.cls = .type "list")
    (turn : ∀ (lo : Obj), lo.cls = .type "list" → ∀ (i : Nat) (S : List Nat) (ts t : Tok) (T : Addr) (m : Str → Option Value) (h : Heap) (tk : Nat), S.length ≤ 12 → m (Str.ofString "script") = some (.ref ls) → IsTup h T #[.int (i : Int) t, .str (txt S) ts] → Fr h₀ env.locals h m →
      AllObj ws (fun its => News h₀ env.locals h (its ++ [(l, lo)]) →
        wpAny (model prog w) A (assign target env (.ref T)) (fun _ s₂ => wpAny (model prog w) A (execs body env) (UnrPostW h₀ env.locals { s with heap := h, toks := tk } its (fun m' n' => SubL [(l, lo)] n' ∧ m' (Str.ofString "script") = some (.ref ls)) Q) E s₂) E { s with heap := h, toks := tk }))
    (done : ∀ (m : Str → Option Value) (h : Heap) (tk : Nat), Fr h₀ env.locals h m → News h₀ env.locals h [] → Q .next { s with heap := h, toks := tk })
    {vs : List Value} {ys : List Str} (hS : StrsAre vs ys) (hy : ∀ y ∈ ys, y.length ≤ 12) {m : Str → Option Value} {news : List (Addr × Obj)} (hI : m (Str.ofString "script") = some (.ref ls)) (hk : SubL [(l, lo)] news) :
      ItemsRest prog w A E h₀ env target body Q s ws [(l, lo)] (enumItems 0 vs) m news :=
  items_all (fun m => m (Str.ofString "script") = some (.ref ls)) (turn lo hlo) (fun m h tk _ F _ => done m h tk F fun _ hp => nomatch hp) vs ys hS hy 0 m news hI hk
end
theorem bs_ok {w : World} {loose : List Str} {mean : ExcName → Option Value} {mg mb : Str → Option Value} {news : List (Addr × Obj)} {T : List Nat} {n : Nat} {t u : Tok}
  (hx : T.length ≤ 64) (hn : n < T.length) :
  Cl 3 w loose mean mg mb 42 news [.str (txt T) t, .int n u] (fun add v => ∃ D t1 t2 c, v = .ref D ∧ add = [(D, ({ cls := .type "tuple", data := .seq #[.str (txt (bsTxt T n)) t1, .int (bsEnd T n) t2] c } : Obj))]) := by
  cases hd : T.drop (n + 1) with
  | nil => exact bs_ok0 hx hn hd
  | cons c r => exact bs_ok1 hx c r hd
theorem due_ok {w : World} {loose : List Str} {mean : ExcName → Option Value} {mg mb : Str → Option Value} {news : List (Addr × Obj)} {T : List Nat} {n : Nat} {t u : Tok}
  (hx : T.length ≤ 64) (hn : n < T.length) :
  Cl 3 w loose mean mg mb 75 news [.str (txt T) t, .int n u] (fun add v => ∃ D t1 t2 c, v = .ref D ∧ add = [(D, ({ cls := .type "tuple", data := .seq #[.str (txt (bsTxt T n)) t1, .int (bsEnd T n) t2] c } : Obj))]) := by
  cases hd : T.drop (n + 1) with
  | nil => exact due_ok0 hx hn hd
  | cons c r => exact due_ok1 hx c r hd
section
variable {prog : Program} {w : World} {A : Around} {E : Value → Shared → Prop} {s : Shared} {h₀ : Heap} {L : Addr} {m : Str → Option Value} {news : List (Addr × Obj)} {Q : Value → Shared → Prop}
theorem menu_item {value slice : PySem.Expr} {D : Addr} {its : List Value} {n : Nat} {ys : List Str} {k : Int} {u : Tok} (N : News h₀ L s.heap news) (hm : (D, ({ cls := .type "list", data := .seq its.toArray n } : Obj)) ∈ news) (hi : StrsAre its ys)
    (hall : ∀ y ∈ ys, y.length ≤ 3) (hys : ys.length = 4) (h0 : 0 ≤ k) (hk : k < 4) (h : ∀ t' X, List.length X ≤ 3 → Q (.str (txt X) t') s)
    (hs : subscripted slice false (.ref D) (.int k u) = operate [.ref D, .int k u] (getItem (.ref D) (.int k u)) := by with_unfolding_all rfl) :
    wpAny (model prog w) A (subscriptTail value slice (.ref D) (.int k u)) Q E s := by
  refine KTb.item_list (News.isList N hm) hi h0 (by omega) (by omega) (fun t' _ => ?_) hs
  have hl := getD_le (i := k.toNat) hall
  have e := txt_of (ys.getD k.toNat Str.empty)
  rw [e] at hl ⊢
  exact h t' _ (by rwa [txt_length] at hl)
theorem add_gen {x y : Str} {X Y : List Nat} {t u : Tok} (hx : x = txt X) (hy : y = txt Y) (hz : X.length + Y.length ≤ 1000) (h : ∀ t' tk, Q (.str (txt (X ++ Y)) t') { s with toks := tk }) : wpAny (model prog w) A (binaryOp .Add (.str x t) (.str y u)) Q E s := by
  subst hx
  subst hy
  exact add_txt hz h
theorem ne_tup_same {a b : Addr} {x : Str} {i : Int} {t1 t2 t3 t4 : Tok} {c c' : Nat} (N : News h₀ L s.heap news) (ha : (a, tupO x t1 i t2 c) ∈ news) (hb : (b, tupO x t3 i t4 c') ∈ news) (hu : A.units < cLine)
    (h : Q (.bool false) s) : wpAny (model prog w) A (compareOp .NotEq (.ref a) (.ref b)) Q E s := by
  have Ta : s.heap.IsTuple a #[.str x t1, .int i t2] := ⟨_, News.get N ha, rfl, _, rfl⟩
  have Tb : s.heap.IsTuple b #[.str x t3, .int i t4] := ⟨_, News.get N hb, rfl, _, rfl⟩
  refine cmp_ofNotEq ?_
  refine PySem.SeqAt.RcNeAt.tuples (e := fun _ => true) Ta Tb hu (fun j h1 h2 => ?_) prog w E Q h
  have hj : j = 0 ∨ j = 1 := by
    simp at h1
    omega
  rcases hj with rfl | rfl
  · have h9 := (eqGives_str x x t1 t3).at A.in1 s
    rw [beq_self_eq_true] at h9
    exact h9
  · have h9 := (MeetsSeq.EqGives.int i i t2 t4).at A.in1 s
    rw [beq_self_eq_true] at h9
    exact h9
end
end Mine
end
-- part D9
section
namespace Mine
set_option maxRecDepth 100000
set_option maxHeartbeats 8000000
theorem ne_enum : Value.type "list" ≠ Value.type "enumerate" := by decide
theorem ne_iter : Value.type "list" ≠ Value.type "list_iterator" := by decide
local macro_rules | `(tactic| walk_at "call type:enumerate") => `(tactic| (k_here; refine Stop.at ?_))
local macro_rules | `(tactic| walk_at "exec For Tuple Call cons nil") => `(tactic| (k_here; k_dflt (walk_at "mine for")))
local macro_rules | `(tactic| walk_at "eval Name") => `(tactic| (k_here; (with_reducible show wpAny _ _ (eval (PySem.Expr.Name (PySem.Str.ofString "script") _) _) _ _ _); k_dflt (walk_at "mine script")))
local macro_rules | `(tactic| walk_at "call builtin:len") => `(tactic| (k_here; (with_reducible show wpAny _ _ (call (Value.builtin "len") [Value.str _ _]) _ _ _); k_dflt (walk_at "mine len")))
local macro_rules | `(tactic| walk_at "binaryOp Add str str") => `(tactic| (k_here; k_dflt (walk_at "mine add")))
local macro_rules | `(tactic| walk_at "call ref") => `(tactic| (k_here; (with_reducible show wpAny _ _ (call (Value.ref _) (_ :: _)) _ _ _); first | k_dflt (walk_at "mine tail") | k_dflt (walk_at "mine two") | refine Stop.at ?_))
local macro_rules | `(tactic| walk_at "compareOp NotEq ref ref") => `(tactic| (k_here; k_dflt (walk_at "mine ne")))
local macro_rules | `(tactic| walk_at "UnrEndW") => `(tactic| (k_dflt (walk_at "mine turnend")))
local macro_rules | `(tactic| walk_at "subscriptTail") => `(tactic| (k_dflt (walk_at "mine w1")))
local macro_rules | `(tactic| walk_at "subscriptTail List") => `(tactic| (k_dflt (walk_at "mine w2")))
local macro_rules | `(tactic| walk_at "subscriptTail List cons") => `(tactic| (k_dflt (walk_at "mine w3")))
local macro_rules | `(tactic| walk_at "subscriptTail List BinOp") => `(tactic| (k_dflt (walk_at "mine w4")))
local macro_rules | `(tactic| walk_at "subscriptTail List BinOp ref") => `(tactic| (k_dflt (walk_at "mine w5")))
local macro_rules | `(tactic| walk_at "subscriptTail List BinOp ref int") => `(tactic| (k_dflt (walk_at "mine w6")))
theorem main : PySem.Challenge.rw_np0127_01.Holds := hd (by
  k_with_none
  k_with "mine strs" => (repeat (first | exact StrsAre.nil | apply StrsAre.cons))
  k_with "mine enum" => ((rename Fr _ _ _ _ => lF'); (rename News _ _ _ _ => lN'); (with_unfolding_all refine' ktu_enum ?hh lF' lN' ?hm ?hc ?hd rfl ?_); (case hh => exact rfl); (case hm => k_mem); (case hc => exact rfl); (case hd => exact rfl))
  k_with "mine for" => ((rename Fr _ _ _ _ => lF'); (with_unfolding_all refine' For_turns lF' ?_); k_whole)
  k_with "mine script" => ((refine' nameX_L ?kf ?kv ?_ ?ka ?kb); (case kf => k_asm); (case ka => rfl); (case kb => rfl); (case kv => with_unfolding_all exact hm9); k_whole)
  k_with "mine len" => (refine my_len (by omega) ?_)
  k_with "mine add" => ((refine' add_gen ?hx ?hy ?hz ?_); (case hx => exact rfl); (case hy => first | exact lit_bs | exact rfl); (case hz => (simp only [List.length_append, List.length_cons, List.length_nil]; omega)); (intro t' tk'))
  k_with "mine menu" => ((refine' menu_item ?N ?hm ?hi ?hall ?hys ?h0 ?hk ?_); (case N => k_asm); (case hm => k_mem); (case hi => walk_at "mine strs"); (case hall => decide +kernel); (case hys => exact rfl); (case h0 => exact fmod_lo _ (by decide)); (case hk => exact fmod_hi _ (by decide)); (intro t' X' hX'))
  k_with "mine tail" => ((with_unfolding_all refine' tail_ok _ _ _ _ _ _ _ _ _ _ _ _ _ _ _ _ _ ?k1 ?k2 ?k3 ?k4 ?k5 ?k6 ?k7 ?k8 ?_);  (case k2 => k_asm); (case k4 => k_asm); (case k1 => k_asm); (case k3 => k_asm); (case k5 => k_asm); (case k6 => first | exact rfl | assumption); (case k7 => ktr_room); (case k8 => ktr_units);  (intro v' h' tk' add' hP' F' N'); (obtain ⟨eA', T', t', hT', eV'⟩ := hP'); (subst eA'); (subst eV'); (try dsimp only [List.cons_append, List.nil_append] at N'); (try dsimp only); (try k_fold); (try k_sweep))
  k_with "mine two" => (  (first | with_unfolding_all refine' bs_ok ?hx ?hn _ _ _ _ _ _ _ _ _ _ _ _ _ _ _ _ _ ?k1 ?k2 ?k3 ?k4 ?k5 ?k6 ?k7 ?k8 ?_ | with_unfolding_all refine' due_ok ?hx ?hn _ _ _ _ _ _ _ _ _ _ _ _ _ _ _ _ _ ?k1 ?k2 ?k3 ?k4 ?k5 ?k6 ?k7 ?k8 ?_);  (case hx => (simp only [List.length_append, List.length_cons, List.length_nil]; omega)); (case hn => (simp only [List.length_append, List.length_cons, List.length_nil]; omega));  (case k2 => k_asm); (case k4 => k_asm); (case k1 => k_asm); (case k3 => k_asm); (case k5 => k_asm); (case k6 => first | exact rfl | assumption); (case k7 => ktr_room); (case k8 => ktr_units);  (intro v' h' tk' add' hP' F' N'); (obtain ⟨D', t1', t2', c', eV', eA'⟩ := hP'); (subst eA'); (subst eV'); (try dsimp only [List.cons_append, List.nil_append] at N'); (try dsimp only); (try k_fold); (try k_sweep))
  k_with "mine ne" => ((refine' ne_tup_same ?N ?ha ?hb ?hu ?_); (case N => k_asm); (case ha => k_mem); (case hb => k_mem); (case hu => first | exact Nat.le_of_ble_eq_true rfl | units_room))
  k_with "mine mem" => first | exact List.Mem.head _ | (refine List.Mem.tail _ ?_; walk_at "mine mem")
  k_with "mine turnend" => ((rename News _ _ _ _ => nE'); (refine' UnrEndW.intro ?F nE' [(_, _)] ?hI ?hs ?ho ⟨?hk, ?hm⟩); (case F => k_asm); (case hk => exact ⟨(by walk_at "mine mem"), trivial⟩);  (case hs => exact ⟨(by walk_at "mine mem"), trivial⟩); (case hI => exact ⟨(by walk_at "mine mem"), (by walk_at "mine mem"), trivial⟩);  (case ho => exact ⟨⟨.inr (by rw [hlo9, hoe]; exact ne_enum), .inr (by rw [hlo9, hoi]; exact ne_iter), trivial⟩, trivial⟩);  (case hm => with_unfolding_all exact hm9))
  k_with "mine w1" => (k_here; (with_reducible show wpAny _ _ (subscriptTail (PySem.Expr.List _ _) _ (Value.ref _) (Value.int _ _)) _ _ _); first | k_dflt (walk_at "mine menu") | refine Stop.at ?_)
  k_with "mine w2" => (k_here; (with_reducible show wpAny _ _ (subscriptTail (PySem.Expr.List _ _) _ (Value.ref _) (Value.int _ _)) _ _ _); first | k_dflt (walk_at "mine menu") | refine Stop.at ?_)
  k_with "mine w3" => (k_here; (with_reducible show wpAny _ _ (subscriptTail (PySem.Expr.List _ _) _ (Value.ref _) (Value.int _ _)) _ _ _); first | k_dflt (walk_at "mine menu") | refine Stop.at ?_)
  k_with "mine w4" => (k_here; (with_reducible show wpAny _ _ (subscriptTail (PySem.Expr.List _ _) _ (Value.ref _) (Value.int _ _)) _ _ _); first | k_dflt (walk_at "mine menu") | refine Stop.at ?_)
  k_with "mine w5" => (k_here; (with_reducible show wpAny _ _ (subscriptTail (PySem.Expr.List _ _) _ (Value.ref _) (Value.int _ _)) _ _ _); first | k_dflt (walk_at "mine menu") | refine Stop.at ?_)
  k_with "mine w6" => (k_here; (with_reducible show wpAny _ _ (subscriptTail (PySem.Expr.List _ _) _ (Value.ref _) (Value.int _ _)) _ _ _); first | k_dflt (walk_at "mine menu") | refine Stop.at ?_)
  k_go0
  (all_goals try k_fold)
  k_steps
  unfold Stop
  walk_at "mine enum"
  intro I9 hI9
  rename Heap.IsList _ _ _ => hL9
  with_unfolding_all refine' items_law hL9 ?hlo ?turn ?done ?hS ?hy ?hI ?hk
  case hlo => rfl
  case hS => walk_at "mine strs"
  case hy => decide +kernel
  case hI => rfl
  case hk => exact ⟨.head _, trivial⟩
  case done =>
    intro m9 h9 tk9 F9 N9
    (try k_fold)
    k_steps
    all_goals w_report
  case turn =>
    (repeat (rename News _ _ _ _ => q9; clear q9))
    intro lo9 hlo9 i9 S9 ts9 t9 T9 m9 h9 tk9 hS9 hm9 hT9 F9
    refine AllObj.cons (fun oe hoe => AllObj.cons (fun oi hoi => AllObj.nil (fun N9 => ?_)))
    simp only [List.cons_append, List.nil_append] at N9
    (try k_fold)
    k_steps
    all_goals w_report)
end Mine
end
set_option maxRecDepth 100000 in
set_option maxHeartbeats 8000000 in
theorem PySem.Challenge.cw_np0127_01_holds : PySem.Challenge.rw_np0127_01.Holds :=
  Mine.main
