import PyProof.Rows.All
import Wide.All
import OpenK.AllK
import Wide.FinOn
import Lean
import PySem.Challenge.RW_on0225_01
open PySem PySem.W PySem.Spec PySem.Calls PyProof.Rows
set_option Elab.async false
namespace Mine
set_option maxRecDepth 100000
set_option maxHeartbeats 40000000
-- the head: the top is run once, by the kernel, behind the library's boot and with the library's own quick twins; the view names the row's statements by their places
theorem left_boot {p q : Program} {loose : List Str} {Xt : Shared → Bool} {α : Type} {Yf : Shared → α} {Ya : World → α} {N : Nat}
    (hb : ∀ w : World, (fencedOpening treeTable p w N).map (fun s => (s.heap, s.gens, s.drawn, s.toks)) = some (boot_heap w.params, Array.mk [], boot_drawn, boot_toks))
    (ht : ∀ (w : World) (os : OsState), (topFrom treeTable p w N ⟨boot_heap w.params, Array.mk [], boot_drawn, boot_toks, os⟩).map (fun s => (openSeen q loose (importedModules p.main.body) Xt true s, Yf s)) = some (openGood q loose, Ya w)) : LeftO p q loose Xt Yf Ya N := by
  intro w
  obtain ⟨⟨h, g, d, t, os⟩, hs, hv⟩ := Option.map_eq_some_iff.mp (hb w)
  injection hv with e1 e2
  injection e2 with e2 e3
  injection e3 with e3 e4
  subst e1
  subst e2
  subst e3
  subst e4
  unfold openEnds
  rw [hs]
  exact ht w os
theorem boots (w : World) : (fencedOpening treeTable PySem.Challenge.rw_on0225_01.row.toRowW.prog w 2884).map (fun s => (s.heap, s.gens, s.drawn, s.toks)) = some (boot_heap w.params, Array.mk [], boot_drawn, boot_toks) :=
  boot_open (p := PySem.Challenge.rw_on0225_01.row.toRowW.prog) (N := 2884) rfl rfl (fun _ => rfl) w
def top : Program := PySem.W.view PySem.Challenge.rw_on0225_01.row.toRowW.prog [1, 2, 4, 5, 6, 8, 9, 10, 11, 13, 14, 15, 16, 17, 18, 19, 20, 21, 22, 23, 24, 25, 26]
local macro_rules | `(tactic| o_head $H) => do
  let hw := Lean.mkIdent `hw
  let hc := Lean.mkIdent `hc
  `(tactic| (
    refine holds_open (q := Mine.top) (loose := [Str.ofString "fraction"]) (Xt := fun s => xlAt Mine.top [] s && recOk (RowW.records PySem.Challenge.rw_on0225_01.row.toRowW) s) (XP := XL Mine.top []) (Yf := Hook.obs $H) (Ya := Hook.val $H) (YP := Hook.says $H) (N := 2884) ?hl (Hook.of $H) (Hook.keeps $H) (fun s e => xl_of s (Bool.and_eq_true_iff.mp e).1) XL.keeps (by rfl) (by rfl) (by rfl) (fun s e => recFacts_of (Bool.and_eq_true_iff.mp e).2) (by rfl) (by first | assumption | decide +kernel) (by decide +kernel) ⟨rfl, rfl, rfl, rfl, rfl, by decide +kernel⟩ ?$hw ?$hc
    case hl => exact left_boot boots fun w os => by (delta topFrom; (rw [Fast.te14082659384304107361, Fast.te14364793385576792824, Fast.te4187177175401517315]); kernel_rfl)
    all_goals (rename_i q9; clear q9)))
theorem said_ : PySem.Challenge.rw_on0225_01.wellSaid = true := (congrFun Fast.te9446332074065402090 PySem.Challenge.rw_on0225_01).trans (by kernel_rfl)
local macro_rules | `(tactic| o_law) => `(tactic| refine holds_law Mine.said_ fun said => ?_)
open_top hd for PySem.Challenge.rw_on0225_01
theorem part01_ : True := by w_top off; exact trivial

/-- the signs' numbers -/
abbrev cs (x : Str) : List Nat := x.cps.toList
abbrev S (l : List Nat) : Str := ⟨l.toArray⟩

theorem S_cs (x : Str) : S (cs x) = x := rfl
theorem cs_S (l : List Nat) : cs (S l) = l := rfl
theorem len_cs (x : Str) : x.length = (cs x).length := by simp [Str.length]
theorem len_S (l : List Nat) : (S l).length = l.length := by simp [Str.length]

theorem sli_clamp (a b len : Nat) : Builtin.Str.strSliceIndices (some (a : Int)) (some (b : Int)) 1 len = Builtin.Str.strSliceIndices (some ((min a len : Nat) : Int)) (some ((min b len : Nat) : Int)) 1 len := by
  have h1 : ¬ ((a : Int) < 0) := by omega
  have h2 : ¬ ((b : Int) < 0) := by omega
  have h3 : ¬ (((min a len : Nat) : Int) < 0) := by omega
  have h4 : ¬ (((min b len : Nat) : Int) < 0) := by omega
  have e1 : max (0 : Int) (min (a : Int) (len : Int)) = max (0 : Int) (min ((min a len : Nat) : Int) (len : Int)) := by omega
  have e2 : max (0 : Int) (min (b : Int) (len : Int)) = max (0 : Int) (min ((min b len : Nat) : Int) (len : Int)) := by omega
  simp only [Builtin.Str.strSliceIndices, h1, h2, h3, h4, if_false, e1, e2, show ((1 : Int) > 0) = True from by simp, if_true]
theorem sli_empty (a b len : Nat) (hb : b ≤ a) : Builtin.Str.strSliceIndices (some (a : Int)) (some (b : Int)) 1 len = [] := by
  have h1 : ¬ ((a : Int) < 0) := by omega
  have h2 : ¬ ((b : Int) < 0) := by omega
  have h3 : ¬ (max (0 : Int) (min (a : Int) (len : Int)) < max (0 : Int) (min (b : Int) (len : Int))) := by omega
  simp only [Builtin.Str.strSliceIndices, sliceRange, h1, h2, if_false, show ((1 : Int) > 0) = True from by simp, if_true, h3]
  rfl
theorem slice_nat (x : Str) (a b : Nat) : Txt.slice x (some (a : Int)) (some (b : Int)) = S (((cs x).drop a).take (b - a)) := by
  show StrLaws.sliceText x (some (a : Int)) (some (b : Int)) = _
  by_cases hab : b ≤ a
  · have hn : b - a = 0 := by omega
    unfold StrLaws.sliceText
    rw [sli_empty a b _ hab, hn]
    split
    · rename_i h
      simp at h
      apply Str.ext'
      have hx : x.cps.size = 0 := by simpa [Str.length] using h.symm
      show x.cps = _
      simp [Array.eq_empty_of_size_eq_zero hx]
    · simp
  · unfold StrLaws.sliceText
    rw [sli_clamp]
    show StrLaws.sliceText x (some ((min a x.length : Nat) : Int)) (some ((min b x.length : Nat) : Int)) = _
    rw [StrLaws.sliceText_nat x (by omega) (by omega)]
    apply Str.ext'
    show (List.take _ (List.drop _ x.cps.toList)).toArray = (List.take (b - a) (List.drop a x.cps.toList)).toArray
    congr 1
    have hl : x.length = x.cps.toList.length := by simp [Str.length]
    rw [hl]
    by_cases ha : a ≤ x.cps.toList.length
    · rw [Nat.min_eq_left ha]
      by_cases hb : b ≤ x.cps.toList.length
      · rw [Nat.min_eq_left hb]
      · rw [Nat.min_eq_right (by omega)]
        rw [List.take_of_length_le (by rw [List.length_drop]; exact Nat.le_refl _), List.take_of_length_le (by rw [List.length_drop]; omega)]
    · rw [Nat.min_eq_right (by omega), Nat.min_eq_right (by omega)]
      rw [List.drop_of_length_le (Nat.le_refl _), List.drop_of_length_le (by omega)]
      simp
theorem slice_int (x : Str) {i j : Int} (hi : 0 ≤ i) (hj : 0 ≤ j) : Txt.slice x (some i) (some j) = S (((cs x).drop i.toNat).take (j.toNat - i.toNat)) := by
  have h := slice_nat x i.toNat j.toNat
  rwa [Int.toNat_of_nonneg hi, Int.toNat_of_nonneg hj] at h
theorem slice_to (x : Str) (j : Int) (hj : 0 ≤ j) : Txt.slice x none (some j) = S ((cs x).take j.toNat) := by
  have e : Txt.slice x none (some j) = Txt.slice x (some 0) (some j) := by
    show StrLaws.sliceText x none (some j) = StrLaws.sliceText x (some 0) (some j)
    unfold StrLaws.sliceText; rw [StrLaws.sliceIdx_none_lo]
  rw [e, slice_int x (by omega) hj]
  simp
theorem item_nat (x : Str) {i : Int} (h0 : 0 ≤ i) (h1 : i < x.length) : Txt.item x i = ⟨#[(cs x).getD i.toNat 0]⟩ := by
  unfold Txt.item Txt.charAt
  rw [StrLaws.seqIndex_nonneg h0 h1]
  simp [List.getD]
theorem contains_one (x : Str) (c : Nat) : Txt.contains x ⟨#[c]⟩ = (cs x).contains c := by
  unfold Txt.contains
  rw [StrLaws.found_one, Bool.eq_iff_iff]
  simp

/-- a figure -/
def isD (c : Nat) : Bool := 48 ≤ c && c ≤ 57
def run (l : List Nat) : List Nat := l.takeWhile isD
def worF (n c : Nat) : Nat := 10 * n + (c - 48)
def wor (l : List Nat) : Nat := l.foldl worF 0

def signOf (l : List Nat) : Bool × List Nat := match l with
  | 45 :: r => (true, r)
  | 43 :: r => (false, r)
  | r => (false, r)

/-- the exponent at the head of a text: its worth, the signs read; none: refused -/
def expo (l : List Nat) : Option (Int × Nat) := match l with
  | [] => some (0, 0)
  | c :: r => if c = 101 ∨ c = 69 then
      let q := signOf r
      let d := run q.2
      if d = [] ∨ 9 < d.length ∨ 300 < wor d then none else some (if q.1 then -(wor d : Int) else (wor d : Int), 1 + (r.length - q.2.length) + d.length)
    else some (0, 0)


def oneOf (txt : Str) (at_ : Int) (sg : Str) : Bool := decide (at_ < txt.length) && Txt.contains sg (Txt.item txt at_)
theorem oneOf_lt {txt : Str} {at_ : Int} {sg : Str} (h : oneOf txt at_ sg = true) : at_ < txt.length := by
  unfold oneOf at h
  exact of_decide_eq_true (Bool.and_eq_true_iff.mp h).1
theorem oneOf_eq {txt : Str} {i : Int} {sg : Str} (h0 : 0 ≤ i) : oneOf txt i sg = ((cs txt)[i.toNat]?).any (cs sg).contains := by
  unfold oneOf
  by_cases h : i < txt.length
  · have h' : i.toNat < (cs txt).length := by rw [← len_cs]; omega
    rw [item_nat txt h0 h, contains_one, List.getElem?_eq_getElem h']
    simp [h, List.getD, List.getElem?_eq_getElem h']
  · have h' : (cs txt).length ≤ i.toNat := by rw [← len_cs]; omega
    rw [List.getElem?_eq_none h']
    simp [h]
theorem figs : cs (Str.ofString "0123456789") = [48, 49, 50, 51, 52, 53, 54, 55, 56, 57] := by decide +kernel
theorem figs_contains (c : Nat) : (cs (Str.ofString "0123456789")).contains c = isD c := by
  rw [figs, Bool.eq_iff_iff]
  simp [isD]
  omega
theorem oneOf_fig {txt : Str} {i : Int} (h0 : 0 ≤ i) : oneOf txt i (Str.ofString "0123456789") = ((cs txt)[i.toNat]?).any isD := by
  rw [oneOf_eq h0]
  congr 1
  funext c
  exact figs_contains c
theorem run_take {l : List Nat} : ∀ {k : Nat}, (∀ c ∈ l.take k, isD c = true) → k ≤ l.length → (∀ c, l[k]? = some c → isD c = false) → run l = l.take k := by
  induction l with
  | nil => intro k _ hk _; simp [run]
  | cons a r ih =>
    intro k h hk he
    cases k with
    | zero =>
      have := he a (by simp)
      simp [run, this]
    | succ k =>
      have ha : isD a = true := h a (by simp)
      have hr := ih (k := k) (fun c hc => h c (by simp [hc])) (by simp at hk; omega) (fun c hc => he c (by simpa using hc))
      unfold run at hr ⊢
      rw [List.takeWhile_cons, ha]
      simp [hr]
theorem run_all {l : List Nat} : ∀ c ∈ run l, isD c = true := by
  intro c hc
  unfold run at hc
  induction l with
  | nil => simp at hc
  | cons a r ih =>
    rw [List.takeWhile_cons] at hc
    split at hc
    · rcases List.mem_cons.mp hc with rfl | h
      · assumption
      · exact ih h
    · simp at hc
theorem run_len_le (l : List Nat) : (run l).length ≤ l.length := (List.takeWhile_sublist isD).length_le
theorem fig_more {txt : Str} {p k : Nat} (h : ∀ z ∈ ((cs txt).drop p).take k, isD z = true) (hf : oneOf txt ((p : Int) + (k : Int)) (Str.ofString "0123456789") = true) : p + (k + 1) ≤ txt.length ∧ ∀ z ∈ ((cs txt).drop p).take (k + 1), isD z = true := by
  have hl := oneOf_lt hf
  rw [oneOf_fig (by omega)] at hf
  refine ⟨by omega, fun z hz => ?_⟩
  rw [List.take_add_one] at hz
  rcases List.mem_append.mp hz with hz | hz
  · exact h z hz
  · rw [List.getElem?_drop] at hz
    have e : ((p : Int) + (k : Int)).toNat = p + k := by omega
    rw [e] at hf
    cases hc : (cs txt)[p + k]? with
    | none => rw [hc] at hz; simp at hz
    | some c => rw [hc] at hz hf; simp at hz hf; subst hz; exact hf
theorem fig_end {txt : Str} {p k : Nat} (hk : p + k ≤ txt.length) (h : ∀ z ∈ ((cs txt).drop p).take k, isD z = true) (hf : oneOf txt ((p : Int) + (k : Int)) (Str.ofString "0123456789") = false) : run ((cs txt).drop p) = ((cs txt).drop p).take k ∧ (run ((cs txt).drop p)).length = k := by
  have hl := len_cs txt
  have e : run ((cs txt).drop p) = ((cs txt).drop p).take k := by
    refine run_take h (by rw [List.length_drop]; omega) fun c hc => ?_
    rw [List.getElem?_drop] at hc
    rw [oneOf_fig (by omega), show ((p : Int) + (k : Int)).toNat = p + k by omega, hc] at hf
    simpa using hf
  refine ⟨e, ?_⟩
  rw [e, List.length_take, List.length_drop]
  omega

theorem idx_fig : ∀ c, c < 58 → 48 ≤ c → Builtin.Str.occurrences (Str.ofString "0123456789") ⟨#[c]⟩ 0 (Str.ofString "0123456789").length 1 = [c - 48] := by decide +kernel
theorem idx_figD {c : Nat} (h : isD c = true) : Builtin.Str.occurrences (Str.ofString "0123456789") ⟨#[c]⟩ 0 (Str.ofString "0123456789").length 1 = [c - 48] := by
  unfold isD at h
  simp at h
  exact idx_fig c (by omega) (by omega)
/-- figures as ints, as a loop over a text takes them -/
def worI (pre : List Int) : Int := pre.foldl (fun n c => n * 10 + (c - 48)) 0
theorem worI_snoc (pre : List Int) (c : Int) : worI (pre ++ [c]) = worI pre * 10 + (c - 48) := by simp [worI]
theorem worI_nat : ∀ (l : List Nat) (n : Nat), (∀ c ∈ l, isD c = true) → (l.map fun c : Nat => (c : Int)).foldl (fun n c => n * 10 + (c - 48)) (n : Int) = ((l.foldl worF n : Nat) : Int)
  | [], _, _ => rfl
  | c :: r, n, h => by
    have hc := h c (by simp)
    unfold isD at hc
    simp at hc
    rw [List.map_cons, List.foldl_cons, List.foldl_cons, ← worI_nat r _ fun z hz => h z (by simp [hz])]
    congr 1
    unfold worF
    omega
theorem worI_codes {x : Str} (h : ∀ c ∈ cs x, isD c = true) : worI (KStt.codes x) = (wor (cs x) : Int) := worI_nat (cs x) 0 h
theorem wor_lt (l : List Nat) (h : ∀ c ∈ l, isD c = true) : wor l < 10 ^ l.length := by
  have key : ∀ (l : List Nat) (n : Nat), (∀ c ∈ l, isD c = true) → l.foldl worF n < (n + 1) * 10 ^ l.length := by
    intro l
    induction l with
    | nil => intro n _; simp
    | cons c r ih =>
      intro n h
      have hc := h c (by simp)
      unfold isD at hc
      simp at hc
      have h1 := ih (worF n c) fun z hz => h z (by simp [hz])
      rw [List.foldl_cons, List.length_cons, Nat.pow_succ]
      have h2 : worF n c + 1 ≤ (n + 1) * 10 := by unfold worF; omega
      have h3 : (worF n c + 1) * 10 ^ r.length ≤ (n + 1) * 10 * 10 ^ r.length := Nat.mul_le_mul_right _ h2
      have h4 : (n + 1) * (10 ^ r.length * 10) = (n + 1) * 10 * 10 ^ r.length := by rw [Nat.mul_comm (10 ^ r.length) 10, Nat.mul_assoc]
      omega
  have := key l 0 h
  simpa [wor] using this
theorem isD_ge {c : Nat} (h : isD c = true) : 48 ≤ c ∧ c ≤ 57 := by unfold isD at h; simpa using h
theorem mem_codes {x : Str} {n : Nat} (h : (n : Int) ∈ KStt.codes x) : n ∈ cs x := by
  unfold KStt.codes at h
  obtain ⟨a, ha, e⟩ := List.mem_map.mp h
  have : a = n := by omega
  exact this ▸ ha
theorem min_turn {i d : Nat} {b : Bool} {l : Nat} (hl : l = min i d) (hb : b = decide (i < d)) : (b = true → l + 1 = min (i + 1) d) ∧ (b = false → l = min (i + 1) d) := by
  constructor
  · intro h; rw [h] at hb; have : i < d := of_decide_eq_true hb.symm; omega
  · intro h; rw [h] at hb; have : ¬ i < d := of_decide_eq_false hb.symm; omega
theorem all_take_run : ∀ (l : List Nat) (i : Nat), i < l.length → (l.take (i + 1)).all isD = decide (i < (run l).length)
  | [], i, h => absurd h (Nat.not_lt_zero _)
  | c :: r, i, h => by
    unfold run
    rw [List.takeWhile_cons, List.take_succ_cons, List.all_cons]
    cases hc : isD c with
    | false => simp
    | true =>
      cases i with
      | zero => simp
      | succ i =>
        have := all_take_run r i (by simpa using h)
        unfold run at this
        simp [this]

theorem part02_ : True := by w_top off; exact trivial
/-- a reader's dict -/
abbrev rdr (w : World) (x : Str) (at_ : Int) (t1 t2 t3 t4 : Tok) : Obj :=
  dictOf [⟨PyData.keyHash w.params "text", .str "text" t1, .str x t2⟩, ⟨PyData.keyHash w.params "at", .str "at" t3, .int at_ t4⟩] 2
abbrev rdI (dx : Addr) : Obj := instObj 99 dx

/-- a call of a def of the text, seen from any frame of the text's -/
def callAt (w : World) (mean : ExcName → Option Value) (mg mb : Str → Option Value) (D U : Nat) (news : List (Addr × Obj)) (f : Addr) (args : List Value)
    (Post : Value → (List (Addr × Obj)) → Prop) : Prop :=
  ∀ (dp un : Nat) (gd : Option (List Code)) (cn : Str) (cs : Scope) (a : Addr) (ccd : Value) (cl : List (Str × Addr)) (outer : List Env) (A₀ : Around) (base h₀ : Heap) (L : Addr) (m : Str → Option Value) (s : Shared) (Q E : Value → Shared → Prop),
    Below A₀ base outer h₀ → Fr h₀ L s.heap m → (hd.heap_1 w.params).In h₀ → News h₀ L s.heap news → Top top (looseW top [Str.ofString "fraction"]) mean mg mb h₀ → cs.kind = .function → dp + D < recursionLimit → un + U < cLine →
    (∀ v news' h' tk', Post v news' → Fr h₀ L h' m → News h₀ L h' news' → Q v { s with heap := h', toks := tk' }) →
    wpAny (model PySem.Challenge.rw_on0225_01.row.prog w) (ktrTop dp un gd cn cs L a ccd cl outer) (call (.ref f) args) Q E s

theorem callAt.use {w : World} {mean : ExcName → Option Value} {mg mb : Str → Option Value} {D U : Nat} {news : List (Addr × Obj)} {f : Addr} {args : List Value} {Post : Value → (List (Addr × Obj)) → Prop} {dp un : Nat} {gd : Option (List Code)} {cn : Str} {cs : Scope} {a : Addr} {ccd : Value} {cl : List (Str × Addr)} {outer : List Env} {A₀ : Around} {base h₀ : Heap} {L : Addr} {m : Str → Option Value} {s : Shared} {Q E : Value → Shared → Prop}
    (C : callAt w mean mg mb D U news f args Post) (B : Below A₀ base outer h₀) (F : Fr h₀ L s.heap m) (X : (hd.heap_1 w.params).In h₀) (N : News h₀ L s.heap news) (T : Top top (looseW top [Str.ofString "fraction"]) mean mg mb h₀) (hk : cs.kind = .function) (hd : dp + D < recursionLimit) (hu : un + U < cLine)
    (ret : ∀ v news' h' tk', Post v news' → Fr h₀ L h' m → News h₀ L h' news' → Q v { s with heap := h', toks := tk' }) :
    wpAny (model PySem.Challenge.rw_on0225_01.row.prog w) (ktrTop dp un gd cn cs L a ccd cl outer) (call (.ref f) args) Q E s := C _ _ _ _ _ _ _ _ _ _ _ _ _ _ _ _ _ B F X N T hk hd hu ret
theorem callAt.mono {w : World} {mean : ExcName → Option Value} {mg mb : Str → Option Value} {D U : Nat} {news : List (Addr × Obj)} {f : Addr} {args : List Value} {Post Post' : Value → (List (Addr × Obj)) → Prop}
    (C : callAt w mean mg mb D U news f args Post) (h : ∀ v n, Post v n → Post' v n) : callAt w mean mg mb D U news f args Post' :=
  fun _ _ _ _ _ _ _ _ _ _ _ _ _ _ _ _ _ B F X N T hk hd hu ret => C _ _ _ _ _ _ _ _ _ _ _ _ _ _ _ _ _ B F X N T hk hd hu fun v n h' tk' hp => ret v n h' tk' (h v n hp)
theorem callAt.sub {w : World} {mean : ExcName → Option Value} {mg mb : Str → Option Value} {D U : Nat} {l l' : List (Addr × Obj)} {f : Addr} {args : List Value} {Post Post' : Value → (List (Addr × Obj)) → Prop}
    (C : callAt w mean mg mb D U l f args Post) (hs : ∀ p ∈ l, p ∈ l') (h : ∀ v n, Post v n → ∃ n', (∀ p ∈ n', p ∈ n) ∧ Post' v n') : callAt w mean mg mb D U l' f args Post' :=
  fun _ _ _ _ _ _ _ _ _ _ _ _ _ _ _ _ _ B F X N T hk hd hu ret => C _ _ _ _ _ _ _ _ _ _ _ _ _ _ _ _ _ B F X (fun p hp => N p (hs p hp)) T hk hd hu fun v n h' tk' hp F' N' =>
    let ⟨n', h1, h2⟩ := h v n hp
    ret v n' h' tk' h2 F' fun p hp => N' p (h1 p hp)

/-- a method that turns its object's dict alone: from the two first in the ledger to anywhere in it -/
theorem callAt.upd {w : World} {mean : ExcName → Option Value} {mg mb : Str → Option Value} {D U : Nat} {l : List (Addr × Obj)} {f : Addr} {args : List Value} {x dx : Addr} {ox od : Obj} {P : Value → Obj → Prop} {g : Obj → List (Addr × Obj)}
    (C : ∀ rest, (∀ p ∈ rest, p.1 ≠ dx) → (@Ne Nat x dx) → callAt w mean mg mb D U ((x, ox) :: (dx, od) :: rest) f args (fun v n => ∃ o', n = (x, ox) :: (dx, o') :: rest ∧ P v o'))
    (hx : (x, ox) ∈ l) (hne : ox ≠ od) (hU : UpdF dx od l g) : callAt w mean mg mb D U l f args (fun v n => ∃ o', n = g o' ∧ P v o') := by
  obtain ⟨pre, post, rfl, hg, h1, h2⟩ := hU.split
  have hxd : (@Ne Nat x dx) ∧ (x, ox) ∈ pre ++ post := by
    rcases List.mem_append.mp hx with h | h
    · exact ⟨h1 _ h, List.mem_append_left _ h⟩
    · rcases List.mem_cons.mp h with h | h
      · exact absurd (congrArg Prod.snd h) hne
      · exact ⟨h2 _ h, List.mem_append_right _ h⟩
  refine (C (pre ++ post) (fun p hp => (List.mem_append.mp hp).elim (h1 p) (h2 p)) hxd.1).sub (fun p hp => ?_) fun v n hp => ?_
  · rcases List.mem_cons.mp hp with rfl | hp
    · exact hx
    · rcases List.mem_cons.mp hp with rfl | hp
      · exact List.mem_append_right _ (.head _)
      · exact (List.mem_append.mp hp).elim (fun h => List.mem_append_left _ h) fun h => List.mem_append_right _ (.tail _ h)
  · obtain ⟨o', rfl, hP⟩ := hp
    refine ⟨g o', fun p hp => ?_, o', rfl, hP⟩
    rw [hg o'] at hp
    rcases List.mem_append.mp hp with h | h
    · exact .tail _ (.tail _ (List.mem_append_left _ h))
    · rcases List.mem_cons.mp h with rfl | h
      · exact .tail _ (.head _)
      · exact .tail _ (.tail _ (List.mem_append_right _ h))
theorem rd_ne {w : World} {dx : Addr} {txt : Str} {at_ : Int} {t1 t2 t3 t4 : Tok} : rdI dx ≠ rdr w txt at_ t1 t2 t3 t4 := fun h => by
  have := congrArg Obj.data h
  cases this

theorem news_sub {h₀ h : Heap} {L : Addr} {l l' : List (Addr × Obj)} (N : News h₀ L h l) (hs : ∀ p ∈ l', p ∈ l) : News h₀ L h l' := fun p hp => N p (hs p hp)
theorem gen_tok {M : Model} {A : Around} {α : Type} {x : Sem α} {Q : α → Shared → Prop} {E : Value → Shared → Prop} {h : Heap} {g : Array GenState} {d : Drawn} {X : Nat} {o : OsState}
    (H : ∀ tk, wpAny M A x Q E ⟨h, g, d, tk, o⟩) : wpAny M A x Q E ⟨h, g, d, X + 1, o⟩ := H _
local macro_rules | `(tactic| walk_at "call ref") => `(tactic| k_extra "my call ref")
local macro_rules | `(tactic| walk_at "call builtin:str.index") => `(tactic| k_extra "my call builtin:str.index")
local macro_rules | `(tactic| walk_at "call builtin:len") => `(tactic| k_extra "my call builtin:len")
local macro_rules | `(tactic| walk_at "binaryOp Add str str") => `(tactic| k_extra "my binaryOp Add str str")
local macro_rules | `(tactic| walk_at "binaryOp Mult int int") => `(tactic| k_extra "my binaryOp Mult int int")
local macro_rules | `(tactic| walk_at "binaryOp Pow int int") => `(tactic| k_extra "my binaryOp Pow int int")
local macro_rules | `(tactic| walk_at "binaryOp FloorDiv int int") => `(tactic| k_extra "my binaryOp FloorDiv int int")
local macro_rules | `(tactic| walk_at "binaryOp Mod int int") => `(tactic| k_extra "my binaryOp Mod int int")
local macro_rules | `(tactic| walk_at "subscriptTail") => `(tactic| k_extra "my subscriptTail")
local macro_rules | `(tactic| walk_at "compareOp In str str") => `(tactic| k_extra "my compareOp In str str")
local macro_rules | `(tactic| walk_at "compareOp NotIn str str") => `(tactic| k_extra "my compareOp NotIn str str")
local macro_rules | `(tactic| walk_at "execs cons") => `(tactic| k_extra "my execs cons")
theorem mac02a_ : True := by
  (k_with "my om" => first | omega | (simp only [decide_eq_true_eq, decide_eq_false_iff_not] at *; omega) | ((try simp only [Str.length_append, len_S] at *); omega))
  exact trivial
local macro_rules | `(tactic| k_all) => `(tactic| assumption)
theorem mac02b_ : True := by
  (k_with "my subscriptTail" => (k_here; (with_reducible show wpAny _ _ (subscriptTail _ _ (Value.str _ _) (Value.int _ _)) _ _ _); (refine item_str (fitsSsize_of (N := 9223372036854775808) (by k_extra "my om") (by k_extra "my om") (Int.le_refl _)) (by k_extra "my om") (by k_extra "my om") ?_); intro _))
  (k_with "my compareOp In str str" => refine SB.contains ?_)
  (k_with "my compareOp NotIn str str" => refine SB.notContains ?_)
  (k_with "my enter" => (refine wpAny_call ?_; (first | k_dflt cell_enter | fail "the def is not entered")))
  (k_with "my asks" => (
    (case kB => first | k_asm | fail "my call: the frames below")
    (case kF => first | k_asm | fail "my call: the frame")
    (case kX => first | k_asm | fail "my call: the written part")
    (case kN => first | k_asm | fail "my call: the ledger")
    (case kT => first | k_asm | fail "my call: the top")
    (case kK => first | exact rfl | assumption | fail "my call: the caller is no def")
    (case kd => first | ktr_room | fail "my call: the room")
    (case ku => first | ktr_units | fail "my call: the units")))
  (k_with "my execs cons" => (k_here; (with_reducible refine gen_tok ?_); intro tk))
  (k_with "my then" => ((try dsimp only); (try k_fold)))
  (k_with "my stop" => first
    | (with_reducible show wpAny _ _ (exec (Stmt.While _ _ _ _) _) _ _ _)
    | (with_reducible show wpAny _ _ (exec (Stmt.For _ _ _ _ _) _) _ _ _)
    | (with_reducible show wpAny _ _ (eval (Expr.ListComp _ _ _ _) _) _ _ _)
    | (with_reducible show LCt.CompSrcT _ _ _ _ _ _ _ _ _ _ _ _ _ _ _)
    | (with_reducible show LCg.CompSrc _ _ _ _ _ _ _ _ _ _ _ _ _ _)
    | (with_reducible show LCg.CompEnd _ _ _ _ _ _ _ _ _ _ _ _ _ _)
    | (with_reducible show KswEnd _ _ _ _ _ _ _ _ _ _ _ _)
    | (with_reducible show InvEndN _ _ _ _ _ _ _)
    | (with_reducible show Raisable _ _ _)
    | (with_reducible show wpAny _ _ (call (Value.ref 44) _) _ _ _))
  (k_with "my steps" => repeat' ((fail_if_success k_extra "my stop"); (first | (k_unfold; (try dsimp only)) | (k_end; wrow_close) | walk1 | (dsimp only; walk1) | (leave1; walk_say "STEP leave1"; try dsimp only) | fail "no step")))
  exact trivial

theorem part03_ : True := by w_top off; exact trivial
theorem mac03a_ : True := by
  (k_with "my om" => first | omega | (simp only [decide_eq_true_eq, decide_eq_false_iff_not] at *; omega) | ((try simp only [Str.length_append, len_S] at *); omega) | (have q9 := oneOf_lt (by assumption); omega))
  exact trivial
theorem is_one_of_C (w : World) (mean mg mb) (x dx : Addr) (txt : Str) (at_ : Int) (t1 t2 t3 t4) (sg : Str) (t5 : Tok) (news : List (Addr × Obj)) (hx : (x, rdI dx) ∈ news) (hdx : (dx, rdr w txt at_ t1 t2 t3 t4) ∈ news) (h0 : 0 ≤ at_) (h2 : txt.length ≤ 100) :
    callAt w mean mg mb 1 8 news 82 [.ref x, .str sg t5] (fun v n => n = news ∧ v = .bool (oneOf txt at_ sg)) := by
  unfold callAt oneOf
  intro dp un gd cn cs a ccd cl outer A₀ base h₀ L m s Q E B F X N T hk hd hu hret
  k_extra "my enter"
  k_steps
  · refine hret _ _ _ _ ⟨rfl, ?_⟩ (by assumption) (by assumption)
    simp only [*, decide_true, Bool.true_and]
  · refine hret _ _ _ _ ⟨rfl, ?_⟩ (by assumption) (by assumption)
    simp only [*, decide_false, Bool.false_and]
theorem mac03b_ : True := by
  (k_with "my call ref" => (k_here; (with_reducible show wpAny _ _ (call (Value.ref 82) [Value.ref _, Value.str _ _]) _ _ _); k_dflt (refine' callAt.use (is_one_of_C _ _ _ _ _ _ _ _ _ _ _ _ _ _ _ ?hx ?hdx ?h0 ?h2) ?kB ?kF ?kX ?kN ?kT ?kK ?kd ?ku ?_); k_extra "my asks"; (case hx => k_mem); (case hdx => k_mem); (case h0 => k_extra "my om"); (case h2 => k_extra "my om"); intro v9 n9 h9 tk9 p9 F9 N9; (obtain ⟨e9, e8⟩ := p9); subst e9; subst e8; (try k_sweep); k_extra "my then"))
  exact trivial
theorem skip_0 (w : World) (mean mg mb) (x dx : Addr) (txt : Str) (at_ : Int) (t1 t2 t3 t4) (sg : Str) (t5 : Tok) (rest : List (Addr × Obj)) (hne : @Ne Nat x dx) (hoff : ∀ p ∈ rest, p.1 ≠ dx) (h0 : 0 ≤ at_) (h2 : txt.length ≤ 100) :
    callAt w mean mg mb 3 24 ((x, rdI dx) :: (dx, rdr w txt at_ t1 t2 t3 t4) :: rest) 89 [.ref x, .str sg t5]
      (fun v n => ∃ o', n = (x, rdI dx) :: (dx, o') :: rest ∧ ∃ t t', o' = rdr w txt (if oneOf txt at_ sg = true then at_ + 1 else at_) t1 t2 t3 t' ∧ v = .str (if oneOf txt at_ sg = true then Txt.item txt at_ else S []) t) := by
  unfold callAt
  intro dp un gd cn cs a ccd cl outer A₀ base h₀ L m s Q E B F X N T hk hd hu hret
  k_extra "my enter"
  k_steps
  all_goals (with_reducible rename Fr _ _ _ _ => kF; with_reducible rename News _ _ _ _ => kN; with_reducible rename oneOf _ _ _ = _ => hb)
  · simp only [hb, if_true] at hret
    exact hret _ _ _ _ ⟨_, rfl, _, _, rfl, by rw [show at_ + 1 - 1 = at_ by omega]⟩ kF kN
  · simp only [hb, Bool.false_eq_true, if_false] at hret
    exact hret _ _ _ _ ⟨_, rfl, _, _, rfl, rfl⟩ kF kN
theorem skip_C (w : World) (mean mg mb) (x dx : Addr) (txt : Str) (at_ : Int) (t1 t2 t3 t4) (sg : Str) (t5 : Tok) (news : List (Addr × Obj)) (g : Obj → List (Addr × Obj)) (hx : (x, rdI dx) ∈ news) (hU : UpdF dx (rdr w txt at_ t1 t2 t3 t4) news g) (h0 : 0 ≤ at_) (h2 : txt.length ≤ 100) :
    callAt w mean mg mb 3 24 news 89 [.ref x, .str sg t5]
      (fun v n => ∃ o', n = g o' ∧ ∃ t t', o' = rdr w txt (if oneOf txt at_ sg = true then at_ + 1 else at_) t1 t2 t3 t' ∧ v = .str (if oneOf txt at_ sg = true then Txt.item txt at_ else S []) t) :=
  callAt.upd (fun rest hoff hne => skip_0 w mean mg mb x dx txt at_ t1 t2 t3 t4 sg t5 rest hne hoff h0 h2) hx rd_ne hU
theorem mac03c_ : True := by
  (k_with "my call ref" => (k_here; (with_reducible show wpAny _ _ (call (Value.ref 89) [Value.ref _, Value.str _ _]) _ _ _); k_dflt (refine' callAt.use (skip_C _ _ _ _ _ _ _ _ _ _ _ _ _ _ _ _ ?hx ?hU ?h0 ?h2) ?kB ?kF ?kX ?kN ?kT ?kK ?kd ?ku ?_); k_extra "my asks"; (case hx => k_mem); (case hU => k_updF); (case h0 => k_extra "my om"); (case h2 => k_extra "my om"); intro v9 n9 h9 tk9 p9 F9 N9; (obtain ⟨o9, e9, t9, u9, e8, e7⟩ := p9); subst e9; subst e8; subst e7; (try dsimp only at N9); (try k_sweep); k_extra "my then"))
  exact trivial

theorem part04_ : True := by w_top off; exact trivial
theorem digits_0 (w : World) (mean mg mb) (x dx : Addr) (txt : Str) (at_ : Int) (t1 t2 t3 t4) (rest : List (Addr × Obj)) (hne : @Ne Nat x dx) (hoff : ∀ p ∈ rest, p.1 ≠ dx) (h0 : 0 ≤ at_) (h1 : at_ ≤ txt.length) (h2 : txt.length ≤ 100) :
    callAt w mean mg mb 3 24 ((x, rdI dx) :: (dx, rdr w txt at_ t1 t2 t3 t4) :: rest) 96 [.ref x]
      (fun v n => ∃ o', n = (x, rdI dx) :: (dx, o') :: rest ∧ ∃ t t', o' = rdr w txt (at_ + (run ((cs txt).drop at_.toNat)).length) t1 t2 t3 t' ∧ v = .str (S (run ((cs txt).drop at_.toNat))) t) := by
  unfold callAt
  intro dp un gd cn cs a ccd cl outer A₀ base h₀ L m s Q E B F X N T hk hd hu hret
  k_extra "my enter"
  k_extra "my steps"
  with_reducible rename Fr _ _ _ _ => kF
  with_reducible rename News _ _ _ _ => kN
  refine ksw_while (σ := Nat × Tok) (fun c => (x, rdI dx) :: (dx, rdr w txt (at_ + (c.1 : Int)) t1 t2 t3 c.2) :: rest) (fun _ => []) (fun _ => True) [] (fun c => at_.toNat + c.1 ≤ txt.length ∧ ∀ z ∈ ((Mine.cs txt).drop at_.toNat).take c.1, isD z = true) (fun c => txt.length - (at_.toNat + c.1)) (0, t4) kF ?_ trivial (fun _ h => nomatch h) ?_ ?_ ?_
  · simpa using kN
  · exact ⟨by dsimp only; omega, by simp⟩
  rotate_left
  · with_unfolding_all passes_own
  · rintro ⟨k, t⟩ u h tk _ ⟨hk1, hk2⟩ F₁ N₁
    clear kF kN
    dsimp only at hk1 hk2 N₁
    have e0 : at_ = ((at_.toNat : Nat) : Int) := by omega
    k_extra "my steps"
    all_goals (with_reducible rename Fr _ _ _ _ => kF; with_reducible rename News _ _ _ _ => kN; with_reducible rename oneOf _ _ _ = _ => hb)
    · rw [e0] at hb
      obtain ⟨h3, h4⟩ := fig_more hk2 hb
      obtain ⟨t', N2⟩ : ∃ t', News _ _ _ ((x, rdI dx) :: (dx, rdr w txt (at_ + ((k + 1 : Nat) : Int)) t1 t2 t3 t') :: rest) := ⟨_, by rw [show at_ + ((k + 1 : Nat) : Int) = at_ + k + 1 by omega]; exact kN⟩
      exact ksw_end (k + 1, t') kF N2 (fun p hp => hp) trivial (fun _ h => nomatch h) (fun z _ _ => rfl) ⟨h3, h4⟩ (by dsimp only; omega)
    · rw [e0] at hb
      obtain ⟨h3, h4⟩ := fig_end hk1 hk2 hb
      have e : Txt.slice txt (some at_) (some (at_ + (k : Int))) = S (run ((Mine.cs txt).drop at_.toNat)) := by
        rw [slice_int txt h0 (by omega), h3]
        congr 3
        omega
      rw [e]
      rw [h4] at hret
      exact hret _ _ _ _ ⟨_, rfl, _, _, rfl, rfl⟩ kF kN
theorem digits_C (w : World) (mean mg mb) (x dx : Addr) (txt : Str) (at_ : Int) (t1 t2 t3 t4) (news : List (Addr × Obj)) (g : Obj → List (Addr × Obj)) (hx : (x, rdI dx) ∈ news) (hU : UpdF dx (rdr w txt at_ t1 t2 t3 t4) news g) (h0 : 0 ≤ at_) (h1 : at_ ≤ txt.length) (h2 : txt.length ≤ 100) :
    callAt w mean mg mb 3 24 news 96 [.ref x]
      (fun v n => ∃ o', n = g o' ∧ ∃ t t', o' = rdr w txt (at_ + (run ((cs txt).drop at_.toNat)).length) t1 t2 t3 t' ∧ v = .str (S (run ((cs txt).drop at_.toNat))) t) :=
  callAt.upd (fun rest hoff hne => digits_0 w mean mg mb x dx txt at_ t1 t2 t3 t4 rest hne hoff h0 h1 h2) hx rd_ne hU
theorem mac04a_ : True := by
  (k_with "my call ref" => (k_here; (with_reducible show wpAny _ _ (call (Value.ref 96) [Value.ref _]) _ _ _); k_dflt (refine' callAt.use (digits_C _ _ _ _ _ _ _ _ _ _ _ _ _ _ ?hx ?hU ?h0 ?h1 ?h2) ?kB ?kF ?kX ?kN ?kT ?kK ?kd ?ku ?_); k_extra "my asks"; (case hx => k_mem); (case hU => k_updF); (case h0 => k_extra "my om"); (case h1 => k_extra "my om"); (case h2 => k_extra "my om"); intro v9 n9 h9 tk9 p9 F9 N9; (obtain ⟨o9, e9, t9, u9, e8, e7⟩ := p9); subst e9; subst e8; subst e7; (try dsimp only at N9); (try k_sweep); k_extra "my then"))
  exact trivial

theorem part05_ : True := by w_top off; exact trivial
theorem mac05a_ : True := by
  (k_with "my call builtin:str.index" => ((with_reducible show wpAny _ _ (call (Value.builtin _) [Value.str (Str.ofString "0123456789") _, Value.str _ _]) _ _ _); refine SC.index (idx_figD (by assumption)) ?_))
  exact trivial
theorem whole_of_C (w : World) (mean mg mb) (txt : Str) (t1 : Tok) (news : List (Addr × Obj)) (hf : ∀ c ∈ Mine.cs txt, isD c = true) :
    callAt w mean mg mb 1 8 news 110 [.str txt t1] (fun v n => n = news ∧ ∃ t, v = .int (wor (Mine.cs txt)) t) := by
  unfold callAt
  intro dp un gd cn cs a ccd cl outer A₀ base h₀ L m s Q E B F X N T hk hd hu hret
  k_extra "my enter"
  k_extra "my steps"
  with_reducible rename Fr _ _ _ _ => lF'
  with_reducible rename News _ _ _ _ => kN
  with_unfolding_all refine' For_invVF lF' ?k1 ?k2 ?_
  case k1 => exact rfl
  case k2 => exact rfl
  k_extra "my steps"
  rename_i tk0 _
  refine KStt.kst_text (σ := Int × Tok) (fun _ => news) (fun c => [(Str.ofString "number", .int c.1 c.2)]) (fun _ => True) [] (fun pre c => c.1 = worI pre) (0, tk0) (by rfl) lF' kN trivial ?_ rfl ?_ ?_
  · exact List.forall_mem_cons.mpr ⟨rfl, List.forall_mem_nil _⟩
  · rintro ⟨c, t⟩ pre post n t' u h tk own e hoff _ hp F₁ N₁
    have hn : isD n = true := hf n (mem_codes (by rw [e]; simp))
    clear lF' kN
    dsimp only at hp N₁
    k_extra "my steps"
    with_reducible rename Fr _ _ _ _ => kF
    with_reducible rename News _ _ _ _ => kN
    refine kst_end (c * 10 + ((n - 48 : Nat) : Int), _) kF kN (fun p hp => List.mem_append_left _ hp) (fun p hp => List.mem_append_right _ hp) rfl trivial (List.forall_mem_cons.mpr ⟨rfl, List.forall_mem_nil _⟩) ?_ ?_
    · intro z h1 h2 _
      have hz : z ≠ Str.ofString "number" := h2 _ (.head _)
      simp only [kstB, hz, h1, if_false, List.contains_nil, Bool.false_eq_true]
    · have h9 := isD_ge hn
      dsimp only
      rw [worI_snoc, hp]
      omega
  · rintro ⟨c, t⟩ u h tk _ hp F₁ N₁
    clear lF' kN
    dsimp only at hp N₁
    rw [worI_codes hf] at hp
    subst hp
    k_extra "my steps"
    with_reducible rename Fr _ _ _ _ => kF
    with_reducible rename News _ _ _ _ => kN
    exact hret _ _ _ _ ⟨rfl, _, rfl⟩ kF kN
theorem mac05b_ : True := by
  (k_with "my figs" => first | assumption | exact run_all)
  (k_with "my call ref" => (k_here; (with_reducible show wpAny _ _ (call (Value.ref 110) [Value.str _ _]) _ _ _); k_dflt (refine' callAt.use (whole_of_C _ _ _ _ _ _ _ ?hf) ?kB ?kF ?kX ?kN ?kT ?kK ?kd ?ku ?_); k_extra "my asks"; (case hf => k_extra "my figs"); intro v9 n9 h9 tk9 p9 F9 N9; (obtain ⟨e9, t9, e8⟩ := p9); subst e9; subst e8; (try k_sweep); k_extra "my then"))
  exact trivial

theorem part06_ : True := by w_top off; exact trivial
theorem gcd_step {a b : Int} (ha : 0 ≤ a) (hb : 0 < b) : 0 ≤ a.fmod b ∧ a.fmod b < b ∧ Nat.gcd b.toNat (a.fmod b).toNat = Nat.gcd a.toNat b.toNat := by
  rw [Int.fmod_eq_emod_of_nonneg _ (by omega)]
  refine ⟨Int.emod_nonneg _ (by omega), Int.emod_lt_of_pos _ hb, ?_⟩
  have e : (a % b).toNat = a.toNat % b.toNat := by
    obtain ⟨m, rfl⟩ := Int.eq_ofNat_of_zero_le ha
    obtain ⟨n, rfl⟩ := Int.eq_ofNat_of_zero_le (Int.le_of_lt hb)
    rw [← Int.natCast_emod]
    exact Int.toNat_natCast _
  rw [e, Nat.gcd_comm b.toNat, ← Nat.gcd_rec, Nat.gcd_comm]
theorem mac06a_ : True := by
  (k_with "my binaryOp Mod int int" => ((with_reducible refine mod_int' ?zmb ?_); (case zmb => first | decide | omega | assumption)))
  exact trivial
theorem common_divisor_C (w : World) (mean mg mb) (one other : Int) (t1 t2 : Tok) (news : List (Addr × Obj)) (ho : 0 ≤ other) :
    callAt w mean mg mb 1 8 news 53 [.int one t1, .int other t2] (fun v n => n = news ∧ ∃ t, v = .int (Nat.gcd one.natAbs other.toNat) t) := by
  unfold callAt
  intro dp un gd cn cs a ccd cl outer A₀ base h₀ L m s Q E B F X N T hk hd hu hret
  k_extra "my enter"
  k_extra "my steps"
  with_reducible rename Fr _ _ _ _ => kF
  with_reducible rename News _ _ _ _ => kN
  replace kN := news_sub kN (fun p hp => List.mem_cons_of_mem _ hp)
  have e0 : (if one < 0 then -one else one) = ((one.natAbs : Nat) : Int) := by split <;> omega
  rw [e0] at kF
  refine ksw_while (σ := Int × Tok × Int × Tok) (fun _ => news) (fun c => [(Str.ofString "first", .int c.1 c.2.1), (Str.ofString "second", .int c.2.2.1 c.2.2.2)]) (fun _ => True) [] (fun c => 0 ≤ c.1 ∧ 0 ≤ c.2.2.1 ∧ Nat.gcd c.1.toNat c.2.2.1.toNat = Nat.gcd one.natAbs other.toNat) (fun c => c.2.2.1.toNat) (((one.natAbs : Nat) : Int), _, other, t2) kF kN trivial (List.forall_mem_cons.mpr ⟨rfl, List.forall_mem_cons.mpr ⟨rfl, List.forall_mem_nil _⟩⟩) ?_ ?_ ?_
  · exact ⟨by dsimp only; omega, ho, rfl⟩
  rotate_left
  · with_unfolding_all passes_own
  · rintro ⟨f, tf, c, tc⟩ u h tk _ ⟨hp1, hp2, hp3⟩ F₁ N₁
    clear kF kN
    dsimp only at hp1 hp2 hp3 N₁
    k_extra "my steps"
    all_goals (with_reducible rename Fr _ _ _ _ => kF; with_reducible rename News _ _ _ _ => kN)
    · have hb : 0 < c := by assumption
      obtain ⟨g1, g2, g3⟩ := gcd_step hp1 hb
      refine ksw_end (c, _, f.fmod c, _) kF kN (fun p hp => List.mem_cons_of_mem _ hp) trivial (List.forall_mem_cons.mpr ⟨rfl, List.forall_mem_cons.mpr ⟨rfl, List.forall_mem_nil _⟩⟩) ?_ ⟨hp2, g1, g3.trans hp3⟩ (by dsimp only; omega)
      · intro z h2 _
        have hz1 : z ≠ Str.ofString "first" := h2 _ (.head _)
        have hz2 : z ≠ Str.ofString "second" := h2 _ (.tail _ (.head _))
        simp only [kstB, hz1, hz2, if_false, List.contains_nil, Bool.false_eq_true]
    · have hb : ¬ c > 0 := by assumption
      have hc : c.toNat = 0 := by omega
      rw [hc, Nat.gcd_zero_right] at hp3
      have e : f = ((Nat.gcd one.natAbs other.toNat : Nat) : Int) := by omega
      rw [e]
      exact hret _ _ _ _ ⟨rfl, _, rfl⟩ kF kN
theorem mac06b_ : True := by
  (k_with "my call ref" => (k_here; (with_reducible show wpAny _ _ (call (Value.ref 53) [Value.int _ _, Value.int _ _]) _ _ _); k_dflt (refine' callAt.use (common_divisor_C _ _ _ _ _ _ _ _ _ ?ho) ?kB ?kF ?kX ?kN ?kT ?kK ?kd ?ku ?_); k_extra "my asks"; (case ho => first | assumption | omega); intro v9 n9 h9 tk9 p9 F9 N9; (obtain ⟨e9, t9, e8⟩ := p9); subst e9; subst e8; (try k_sweep); k_extra "my then"))
  exact trivial

theorem part07_ : True := by w_top off; exact trivial
abbrev tup2 (a b : Value) : Obj := { cls := .type "tuple", data := .seq [a, b].toArray }
theorem log2_small {n : Nat} (h : n < 2 ^ 2000) : n.log2 < 9000 := by
  by_cases h0 : n = 0
  · subst h0; decide +kernel
  · exact Nat.lt_of_lt_of_le ((Nat.log2_lt h0).mpr h) (by decide)
theorem gcd_small {a : Nat} {b : Int} (hb : 0 < b) (h : b.natAbs < 2 ^ 2000) : Nat.gcd a b.toNat < 2 ^ 2000 ∧ 0 < Nat.gcd a b.toNat := by
  have h1 : b.toNat = b.natAbs := by omega
  have h2 : 0 < b.toNat := by omega
  exact ⟨Nat.lt_of_le_of_lt (Nat.gcd_le_right _ h2) (h1 ▸ h), Nat.gcd_pos_of_pos_right _ h2⟩
theorem mac07a_ : True := by
  (k_with "my enterD" => (refine wpAny_call ?_; k_dflt (refine' code_def ?k1 ?k2 ?k3 ?k4 ?k5 ?kA ?kF ?kK ?k6 ?k7 ?k8 ?k9 ?kB ?_ ?c2 ?c3 ?c4 ?c5; (case kA => exact rfl); (case kF => exact rfl); (case kK => assumption); (case k1 => k_asm); (case k2 => k_asm); (case k3 => k_asm); (case k4 => k_asm); (case k5 => k_asm); (case k6 => k_is); (case k7 => k_is); (case k8 => ktr_room); (case k9 => exact binds_K (by k_in) rfl (by k_is) rfl rfl rfl); (case c5 => decide); (case kB => exact locs rfl); (case c2 => exact rfl); (case c3 => exact rfl); (case c4 => exact rfl); k_whole; intro g' L' h' FG' F' N' B' X' T'; (try dsimp only); (try k_lift B'); (try k_fold))))
  (k_with "my binaryOp FloorDiv int int" => ((with_reducible refine floordiv_int ?zfb ?_ (Or.inl (PyProof.noPylong_of_log2 ?zfp))); (case zfb => first | decide | omega | assumption); (case zfp => first | (simp only [Int.natAbs_natCast]; exact log2_small (by assumption)) | exact log2_small (by assumption))))
  exact trivial
theorem fraction_C (w : World) (mean mg mb) (top bottom : Int) (t1 t2 : Tok) (news : List (Addr × Obj)) (hb : 0 < bottom) (hs : bottom.natAbs < 2 ^ 2000) :
    callAt w mean mg mb 2 16 news 61 [.int top t1, .int bottom t2] (fun v n => ∃ l ta tb, v = .ref l ∧ (∀ p ∈ news, p.1 < l) ∧ n = (l, tup2 (.int (top.fdiv (Nat.gcd top.natAbs bottom.toNat)) ta) (.int (bottom.fdiv (Nat.gcd top.natAbs bottom.toNat)) tb)) :: news) := by
  unfold callAt
  intro dp un gd cn cs a ccd cl outer A₀ base h₀ L m s Q E B F X N T hk hd hu hret
  obtain ⟨hg1, hg2⟩ := gcd_small (a := top.natAbs) hb hs
  k_extra "my enterD"
  k_steps
  · exfalso; omega
  · with_reducible rename Fr _ _ _ _ => kF
    with_reducible rename News _ _ _ _ => kN
    exact hret _ _ _ _ ⟨_, _, _, rfl, by assumption, rfl⟩ kF kN
theorem mac07b_ : True := by
  (k_with "my call ref" => (k_here; (with_reducible show wpAny _ _ (call (Value.ref 61) [Value.int _ _, Value.int _ _]) _ _ _); k_dflt (refine' callAt.use (fraction_C _ _ _ _ _ _ _ _ _ ?hb ?hs) ?kB ?kF ?kX ?kN ?kT ?kK ?kd ?ku ?_); k_extra "my asks"; (case hb => first | assumption | omega); (case hs => assumption); intro v9 n9 h9 tk9 p9 F9 N9; (obtain ⟨l9, ta9, tb9, e8, q9, e9⟩ := p9); subst e9; subst e8; (try k_lt q9); (try k_sweep); k_extra "my then"))
  exact trivial

theorem part08_ : True := by w_top off; exact trivial
section
variable {prog : Program} {w : World} {A : Around} {E : Value → Shared → Prop} {s : Shared} {h₀ : Heap} {L : Addr} {m : Str → Option Value} {env : Env}

/-- the turns of a comprehension with one test, by what holds between them -/
theorem restT {ct elt : Expr} {x : Str} {scope : Scope} {cl : List (Str × Addr)} {S : List (Addr × Obj) → Prop} {P : Nat → Value → Prop} {Fin : List Value → List (Addr × Obj) → Prop} {n : Nat} {news : List (Addr × Obj)}
    (Inv : Nat → List Value → List (Addr × Obj) → Prop) (h0 : Inv 0 [] news)
    (turn : ∀ i v ys nx I oI C oC D m₂ h tk (E' : Value → Shared → Prop), i < n → P i v → Inv i ys nx → LCg.NsObj oC m₂ → m₂ x = some v → Fr h₀ L h m → News h₀ L h ((I, oI) :: (C, oC) :: (D, LCg.lst ys) :: nx) → LCg.Off3 I C D nx → ((@Ne Nat I C) ∧ (@Ne Nat I D) ∧ (@Ne Nat C D)) →
      wpAny (model prog w) A (isTrue ct (compEnvC scope cl C env) (eval ct (compEnvC scope cl C env))) (fun ok s' => if ok = true then
        wpAny (model prog w) A (eval elt (compEnvC scope cl C env)) (LCg.CompEnd h₀ L m { s with heap := h, toks := tk } I oI C oC D (LCg.lst ys) S (fun y nx' => Inv (i + 1) (ys ++ [y]) nx')) E' s'
        else LCg.CompEnd h₀ L m { s with heap := h, toks := tk } I oI C oC D (LCg.lst ys) S (fun _ nx' => Inv (i + 1) ys nx') Value.none s') E' { s with heap := h, toks := tk })
    (fin : ∀ ys nx, Inv n ys nx → Fin ys nx) : LCt.CompRestT prog w A h₀ L m env ct elt x scope cl s S P Fin n 0 [] news := by
  have key : ∀ (j i : Nat) (ys : List Value) (nx : List (Addr × Obj)), i + j = n → Inv i ys nx → LCt.CompRestT prog w A h₀ L m env ct elt x scope cl s S P Fin j i ys nx := by
    intro j
    induction j with
    | zero =>
      intro i ys nx hi hv
      have e : i = n := by omega
      subst e
      exact LCt.CompRestT.zero (fin ys nx hv)
    | succ j ih =>
      intro i ys nx hi hv
      refine LCt.CompRestT.succ ?_
      intro v I oI C oC D m₂ h tk E' hP hC hx F N off ne
      refine wpAny_mono (turn i v ys nx I oI C oC D m₂ h tk E' (by omega) hP hv hC hx F N off ne) (fun b s₂ hq => ?_) fun _ _ e => e
      cases b with
      | true =>
        simp only [if_true] at hq ⊢
        refine wpAny_mono hq (fun y s₃ hr => ?_) fun _ _ e => e
        obtain ⟨h', tk', nw, e, F', N', off', hS, hv'⟩ := hr
        exact ⟨h', tk', nw, e, F', N', off', hS, ih (i + 1) _ _ (by omega) hv'⟩
      | false =>
        simp only [Bool.false_eq_true, if_false] at hq ⊢
        obtain ⟨h', tk', nw, e, F', N', off', hS, hv'⟩ := hq
        exact ⟨h', tk', nw, e, F', N', off', hS, ih (i + 1) _ _ (by omega) hv'⟩
  exact key n 0 [] news (by omega) h0

/-- the turns of a comprehension without a test -/
theorem restU {elt : Expr} {x : Str} {scope : Scope} {cl : List (Str × Addr)} {S : List (Addr × Obj) → Prop} {P : Nat → Value → Prop} {Fin : List Value → List (Addr × Obj) → Prop} {n : Nat} {news : List (Addr × Obj)}
    (Inv : Nat → List Value → List (Addr × Obj) → Prop) (h0 : Inv 0 [] news)
    (turn : ∀ i v ys nx I oI C oC D m₂ h tk (E' : Value → Shared → Prop), i < n → P i v → Inv i ys nx → LCg.NsObj oC m₂ → m₂ x = some v → Fr h₀ L h m → News h₀ L h ((I, oI) :: (C, oC) :: (D, LCg.lst ys) :: nx) → LCg.Off3 I C D nx → ((@Ne Nat I C) ∧ (@Ne Nat I D) ∧ (@Ne Nat C D)) →
      wpAny (model prog w) A (eval elt (compEnvC scope cl C env)) (LCg.CompEnd h₀ L m { s with heap := h, toks := tk } I oI C oC D (LCg.lst ys) S (fun y nx' => Inv (i + 1) (ys ++ [y]) nx')) E' { s with heap := h, toks := tk })
    (fin : ∀ ys nx, Inv n ys nx → Fin ys nx) : LCg.CompRest prog w A h₀ L m env elt x scope cl s S P Fin n 0 [] news := by
  have key : ∀ (j i : Nat) (ys : List Value) (nx : List (Addr × Obj)), i + j = n → Inv i ys nx → LCg.CompRest prog w A h₀ L m env elt x scope cl s S P Fin j i ys nx := by
    intro j
    induction j with
    | zero =>
      intro i ys nx hi hv
      have e : i = n := by omega
      subst e
      exact LCg.CompRest.zero (fin ys nx hv)
    | succ j ih =>
      intro i ys nx hi hv
      refine LCg.CompRest.succ ?_
      intro v I oI C oC D m₂ h tk E' hP hC hx F N off ne
      refine wpAny_mono (turn i v ys nx I oI C oC D m₂ h tk E' (by omega) hP hv hC hx F N off ne) (fun y s₂ hq => ?_) fun _ _ e => e
      obtain ⟨h', tk', nw, e, F', N', off', hS, hv'⟩ := hq
      exact ⟨h', tk', nw, e, F', N', off', hS, ih (i + 1) _ _ (by omega) hv'⟩
  exact key n 0 [] news (by omega) h0

theorem restT0 {ct elt : Expr} {x : Str} {scope : Scope} {cl : List (Str × Addr)} {S : List (Addr × Obj) → Prop} {P : Nat → Value → Prop} {Fin : List Value → List (Addr × Obj) → Prop} {n : Nat} {news : List (Addr × Obj)}
    (Inv : Nat → List Value → Prop) (h0 : Inv 0 [])
    (turn : ∀ i v ys I oI C oC D m₂ h tk (E' : Value → Shared → Prop), i < n → P i v → Inv i ys → LCg.NsObj oC m₂ → m₂ x = some v → Fr h₀ L h m → News h₀ L h ((I, oI) :: (C, oC) :: (D, LCg.lst ys) :: news) → LCg.Off3 I C D news → ((@Ne Nat I C) ∧ (@Ne Nat I D) ∧ (@Ne Nat C D)) →
      wpAny (model prog w) A (isTrue ct (compEnvC scope cl C env) (eval ct (compEnvC scope cl C env))) (fun ok s' => if ok = true then
        wpAny (model prog w) A (eval elt (compEnvC scope cl C env)) (LCg.CompEnd h₀ L m { s with heap := h, toks := tk } I oI C oC D (LCg.lst ys) S (fun y nx' => nx' = news ∧ Inv (i + 1) (ys ++ [y]))) E' s'
        else LCg.CompEnd h₀ L m { s with heap := h, toks := tk } I oI C oC D (LCg.lst ys) S (fun _ nx' => nx' = news ∧ Inv (i + 1) ys) Value.none s') E' { s with heap := h, toks := tk })
    (fin : ∀ ys, Inv n ys → Fin ys news) : LCt.CompRestT prog w A h₀ L m env ct elt x scope cl s S P Fin n 0 [] news :=
  restT (fun i ys nx => nx = news ∧ Inv i ys) ⟨rfl, h0⟩ (fun i v ys nx I oI C oC D m₂ h tk E' hi hP hv => by
    obtain ⟨rfl, hv⟩ := hv
    exact turn i v ys I oI C oC D m₂ h tk E' hi hP hv) fun ys nx hv => by
    obtain ⟨rfl, hv⟩ := hv
    exact fin ys hv
theorem restU0 {elt : Expr} {x : Str} {scope : Scope} {cl : List (Str × Addr)} {S : List (Addr × Obj) → Prop} {P : Nat → Value → Prop} {Fin : List Value → List (Addr × Obj) → Prop} {n : Nat} {news : List (Addr × Obj)}
    (Inv : Nat → List Value → Prop) (h0 : Inv 0 [])
    (turn : ∀ i v ys I oI C oC D m₂ h tk (E' : Value → Shared → Prop), i < n → P i v → Inv i ys → LCg.NsObj oC m₂ → m₂ x = some v → Fr h₀ L h m → News h₀ L h ((I, oI) :: (C, oC) :: (D, LCg.lst ys) :: news) → LCg.Off3 I C D news → ((@Ne Nat I C) ∧ (@Ne Nat I D) ∧ (@Ne Nat C D)) →
      wpAny (model prog w) A (eval elt (compEnvC scope cl C env)) (LCg.CompEnd h₀ L m { s with heap := h, toks := tk } I oI C oC D (LCg.lst ys) S (fun y nx' => nx' = news ∧ Inv (i + 1) (ys ++ [y]))) E' { s with heap := h, toks := tk })
    (fin : ∀ ys, Inv n ys → Fin ys news) : LCg.CompRest prog w A h₀ L m env elt x scope cl s S P Fin n 0 [] news :=
  restU (fun i ys nx => nx = news ∧ Inv i ys) ⟨rfl, h0⟩ (fun i v ys nx I oI C oC D m₂ h tk E' hi hP hv => by
    obtain ⟨rfl, hv⟩ := hv
    exact turn i v ys I oI C oC D m₂ h tk E' hi hP hv) fun ys nx hv => by
    obtain ⟨rfl, hv⟩ := hv
    exact fin ys hv

theorem str_st {T : String} {x : Str} {t : Tok} {I : Addr} : ∀ i (h h' : Heap) (o : Obj) (nw : List (Addr × Obj)), h.IsStrIter I T x t i → h.get? I = some o → h'.get? I = some o → (∀ b o, h₀.get? b = some o → h'.get? b = some o) → News h₀ L h' nw → True → h'.IsStrIter I T x t i :=
  fun i h h' o nw st e e' _ _ _ => by
    obtain ⟨o', q, r⟩ := st
    rw [e] at q; cases q
    exact ⟨o, e', r⟩

def SrcS (prog : Program) (w : World) (A : Around) (h₀ : Heap) (L : Addr) (m : Str → Option Value) (env : Env) (ct elt : Expr) (x : Str) (scope : Scope) (cl : List (Str × Addr)) (Q : Value → Shared → Prop) (xv : Value) (s₁ : Shared) : Prop :=
  ∃ xs t news, xv = .str xs t ∧ A.handled = none ∧ Fr h₀ L s₁.heap m ∧ News h₀ L s₁.heap news ∧ xs.cps.size ≤ sizeLine ∧
      ∀ s₂ : Shared, (∃ h, s₂ = { s₁ with heap := h }) → LCt.CompRestT prog w A h₀ L m env ct elt x scope cl s₂ (fun _ => True) (SignAt xs) (LCg.FinE h₀ L m s₂ Q) xs.cps.size 0 [] news
theorem SrcS.intro {ct elt : Expr} {x : Str} {scope : Scope} {cl : List (Str × Addr)} {Q : Value → Shared → Prop} {xs : Str} {t : Tok} {s₁ : Shared} {news : List (Addr × Obj)} (hh : A.handled = none) (F : Fr h₀ L s₁.heap m) (N : News h₀ L s₁.heap news) (hsz : xs.cps.size ≤ sizeLine)
    (h : ∀ g, LCt.CompRestT prog w A h₀ L m env ct elt x scope cl { s₁ with heap := g } (fun _ => True) (SignAt xs) (LCg.FinE h₀ L m { s₁ with heap := g } Q) xs.cps.size 0 [] news) : SrcS prog w A h₀ L m env ct elt x scope cl Q (.str xs t) s₁ :=
  ⟨xs, t, news, rfl, hh, F, N, hsz, fun _ ⟨g, e⟩ => e ▸ h g⟩
/-- a comprehension with one test over a text's signs -/
theorem ListComp_TS {ct elt iter : Expr} {x : Str} {px : Pos} {scope : Scope} {cl : List (Str × Addr)} {pos : Pos} {Q : Value → Shared → Prop} (_F₀ : Fr h₀ L s.heap m)
    (hclos : closureFor scope env = pure cl) (hcell : ∀ y ∈ scope.names, y.2 ≠ .cell) (hkind : scope.kind = .function)
    (hnames : ∀ y ∈ scope.names, y.2 = .local → scope.names.lookup y.1 = some .local) (hx : scope.names.lookup x = some .local)
    (h : wpAny (model prog w) A (eval iter env) (SrcS prog w A h₀ L m env ct elt x scope cl Q) E s)
    (hs : ∀ x, foldedSetIterable iter env x = pure x := by intro _; rfl) :
    wpAny (model prog w) A (eval (.ListComp elt [⟨.Name x px, iter, [ct], 0⟩] scope pos) env) Q E s := by
  rw [eval_ListComp]
  refine wpAny_comprehension_free (use := none) rfl hs hclos hkind hnames (wpAny_mono h (fun xv s₁ h₁ => ?_) fun _ _ e => e)
  obtain ⟨xs, t, news, rfl, hh, F, N, hsz, R⟩ := h₁
  have fp : ∀ b ∈ [s₁.heap.objs.size], ∀ o, b < (s₁.heap.push o).objs.size := fun b hb o => by
    rw [List.mem_singleton.mp hb, Heap.size_push]; exact Nat.lt_succ_self _
  have fin : ∀ (s₂ : Shared) (D C : Addr) (h : Heap) (tk : Nat) (m' : Str → Option Value) (ys : List Value) (news' : List (Addr × Obj)), Fr h₀ L h m → News h₀ L h ((D, LCg.lst ys) :: news') → LCg.Off1 D news' → h.Ns C m' → h₀.get? C = none → h₀.get? D = none → C ≠ L → D ≠ L → C ≠ D → (∀ p ∈ news', p.1 ≠ C) → LCg.FinE h₀ L m s₂ Q ys news' →
      ∃ m, h.Ns C m ∧ ∀ h', Heap.SameBut C h h' → Q (.ref D) { s₂ with heap := h', toks := tk } := by
    intro s₂ D C h tk m' ys news' F' N' o1 hn hC₀ hD₀ hCL hDL hCD offC fin
    refine ⟨m', hn, fun h'' hs'' => fin D h'' tk (F'.change hs'' hCL hC₀) (fun p hp => ?_) o1⟩
    refine ⟨hs''.extBut _ _ ?_ (N' p hp).1, (N' p hp).2⟩
    rcases List.mem_cons.mp hp with rfl | hp
    · exact Ne.symm hCD
    · exact offC p hp
  cases ha : xs.cps.all (· < 128)
  · refine wpAny_pyIter_wide ha ?_
    exact LCt.block_T (Walks.strWide hh s₁.heap.objs.size xs t) hsz (fun i h st => let ⟨o, e, _⟩ := st; ⟨o, e⟩) str_st hcell hkind hx ⟨_, Heap.get?_push_size _ rfl, rfl, rfl⟩ (fun b hb => fp b hb _)
      (F.keeps fun _ _ e => Heap.get?_push_of_some _ e) (N.grown fun _ _ e => Heap.get?_push_of_some _ e) (Nat.ne_of_lt F.ns.lt) (next_is_new F) (fun p hp => Nat.ne_of_lt (Heap.lt_size (N p hp).1)) trivial (R _ ⟨_, rfl⟩) (fin _)
  · refine wpAny_pyIter_ascii ha ?_
    exact LCt.block_T (Walks.strAscii hh s₁.heap.objs.size xs t) hsz (fun i h st => let ⟨o, e, _⟩ := st; ⟨o, e⟩) str_st hcell hkind hx ⟨_, Heap.get?_push_size _ rfl, rfl, rfl⟩ (fun b hb => fp b hb _)
      (F.keeps fun _ _ e => Heap.get?_push_of_some _ e) (N.grown fun _ _ e => Heap.get?_push_of_some _ e) (Nat.ne_of_lt F.ns.lt) (next_is_new F) (fun p hp => Nat.ne_of_lt (Heap.lt_size (N p hp).1)) trivial (R _ ⟨_, rfl⟩) (fin _)
end

theorem canLayAll0_strs : ∀ ns : List Str, (∀ y ∈ ns, PyData.strOk y = true) → PyData.canLayAll0 (ns.map PyData.str) = true
  | [], _ => by simp [PyData.canLayAll0]
  | n :: r, h => by simp [PyData.canLayAll0, PyData.canLay0, h n (.head _), canLayAll0_strs r fun y hy => h y (.tail _ hy)]
theorem depthAll_strs : ∀ ns : List Str, PyData.depthAll (ns.map PyData.str) ≤ 1
  | [] => by simp [PyData.depthAll]
  | n :: r => by
    have := depthAll_strs r
    simp only [List.map_cons, PyData.depthAll, PyData.depth]
    omega
theorem shaped_strs (ns : List Str) (h : ∀ y ∈ ns, PyData.strOk y = true) : SeqAt.shaped (.list (ns.map PyData.str)) = true := by
  have h1 := depthAll_strs ns
  have h2 : PyData.depth (.list (ns.map PyData.str)) ≤ 64 := by simp only [PyData.depth]; omega
  show (PyData.canLay0 (.list (ns.map PyData.str)) && decide (PyData.depth (.list (ns.map PyData.str)) ≤ 64)) = true
  rw [Bool.and_eq_true]
  exact ⟨by simp only [PyData.canLay0]; exact canLayAll0_strs ns h, decide_eq_true h2⟩
theorem strOk_one {c : Nat} (h : c < 128) : PyData.strOk ⟨#[c]⟩ = true := by
  unfold PyData.strOk
  simp
  omega
/-- a list of texts compared with a new, empty one -/
theorem eq_strs_nil {prog : Program} {w : World} {A : Around} {E : Value → Shared → Prop} {s : Shared} {a b : Addr} {n k : Nat} {vs : List Value} {ws : List Str} {Q : Value → Shared → Prop} {h₀ : Heap} {L : Addr} {news : List (Addr × Obj)} (N : News h₀ L s.heap news)
    (ha : (a, ({ cls := .type "list", data := .seq vs.toArray n } : Obj)) ∈ news) (hw : StrsAre vs ws) (hok : ∀ y ∈ ws, PyData.strOk y = true) (hb : (b, ({ cls := .type "list", data := .seq (#[] : Array Value) k } : Obj)) ∈ news) (hu : A.units + 64 < cLine)
    (h : Q (.bool vs.isEmpty) s) : wpAny (model prog w) A (compareOp .Eq (.ref a) (.ref b)) Q E s := by
  have r1 : Reads s.heap (.ref a) (.list (ws.map PyData.str)) [a] := Reads.list (N _ ha).1 rfl rfl (by simpa using StrsAre.reads s.heap hw)
  have r2 : Reads s.heap (.ref b) (.list (([] : List Str).map PyData.str)) [b] := Reads.list (N _ hb).1 rfl rfl (by simpa using ReadsAll.nil)
  refine eq_dataH_same r1 r2 (shaped_strs ws hok) (shaped_strs [] (fun _ h => nomatch h)) hu ?_ ?_
  · cases ws <;> simp [SeqAt.noMix, SeqAt.noMixAll]
  · have e : PySem.Spec.same (.list (ws.map PyData.str)) (.list (([] : List Str).map PyData.str)) = vs.isEmpty := by
      cases hw <;> simp [PySem.Spec.same, PySem.Spec.sameAll]
    rw [e]
    exact h

theorem part09_ : True := by w_top off; exact trivial
theorem all_snoc {l : List Nat} {j c : Nat} (hc : l[j]? = some c) : (l.take (j + 1)).all isD = ((l.take j).all isD && isD c) := by
  rw [List.take_add_one, hc]
  simp
theorem run_pre (l : List Nat) : l.take (run l).length = run l := by
  unfold run
  induction l with
  | nil => rfl
  | cons c r ih =>
    rw [List.takeWhile_cons]
    split
    · simp [ih]
    · rfl
theorem mac09a_ : True := by
  (k_with "my enterC" => (refine wpAny_call ?_; k_dflt (refine' code_defC ?k1 ?k2 ?k3 ?k4 ?k5 ?kA ?kF ?kK ?k6 ?k7 ?k8 ?k9 ?kB ?kD ?_ ?c2 ?c3 ?c4; (case kA => exact rfl); (case kF => exact rfl); (case kK => assumption); (case k1 => k_asm); (case k2 => k_asm); (case k3 => k_asm); (case k4 => k_asm); (case k5 => k_asm); (case k6 => k_is); (case k7 => k_is); (case k8 => ktr_room); (case k9 => first | exact BindsTo.of_eq rfl | exact binds_K (by k_in) rfl (by k_is) rfl rfl rfl); (case kB => exact rfl); (case kD => decide +kernel); (case c2 => exact rfl); (case c3 => exact rfl); (case c4 => exact rfl); k_whole; intro g' L' h' tk' cells' FG' F' N' Y' B' X' T' l1; (try k_lt l1); k_cells Y'; (try simp only [List.cons_append, List.nil_append] at N'); (try dsimp only); (try k_lift B'); (try k_fold))))
  exact trivial
theorem law_run_C (w : World) (mean mg mb) (txt : Str) (at_ : Int) (t1 t2 : Tok) (news : List (Addr × Obj)) (h0 : 0 ≤ at_) (h1 : at_ ≤ txt.length) (h2 : txt.length ≤ 100) (hok : ∀ c ∈ Mine.cs txt, c < 128 ∧ c ≠ 63) :
    callAt w mean mg mb 1 100 news 150 [.str txt t1, .int at_ t2] (fun v n => n = news ∧ ∃ t, v = .str (S (run ((Mine.cs txt).drop at_.toNat))) t) := by
  unfold callAt
  intro dp un gd cn cs a ccd cl outer A₀ base h₀ L m s Q E B F X N T hk hd hu hret
  k_extra "my enterC"
  k_extra "my steps"
  with_reducible rename Fr _ _ _ _ => kF
  with_reducible rename News _ _ _ _ => kN
  refine LCt.ListComp_T (F₀ := kF) (by with_unfolding_all rfl) (by decide) (by rfl) (by decide) (by rfl) ?_
  k_extra "my steps"
  with_reducible rename IsRange _ _ _ _ _ _ _ _ => hR
  with_reducible rename Fr _ _ _ _ => kF
  with_reducible rename News _ _ _ _ => kN
  refine LCt.CompSrcT.range (by rfl) kF kN hR (small_one (by omega) (by omega) (by omega) (by omega)) (rangeSize_nat _ _) (by rw [PySem.sizeLine_eq]; omega) ?_
  intro g9
  dsimp only
  refine restT0 (fun i ys => ys.length = min i (run ((Mine.cs txt).drop at_.toNat)).length) (by simp) ?_ ?_
  · rintro i v ys I oI C oC D m₂ h tk E' hi ⟨t9, rfl⟩ hy hC hx F₁ N₁ off ne
    clear kF kN
    have off0 := off
    simp only [LCg.Off3] at off
    k_extra "my steps"
    refine ListComp_TS F₁ (by with_unfolding_all rfl) (by decide) (by rfl) (by decide) (by rfl) ?_
    k_extra "my steps"
    clear hR
    with_reducible rename Fr _ _ _ _ => kF
    with_reducible rename News _ _ _ _ => kN
    have hk9 : at_.toNat + i < (Mine.cs txt).length := by rw [← len_cs]; clear off ne; omega
    have hsl : Txt.slice txt (some at_) (some (at_ + (i : Int) + 1)) = S (((Mine.cs txt).drop at_.toNat).take (i + 1)) := by
      rw [slice_int txt h0 (by clear off ne; omega)]
      congr 3
      clear off ne
      omega
    rw [hsl]
    have hsz : (S (((Mine.cs txt).drop at_.toNat).take (i + 1))).cps.size = i + 1 := by
      simp only [List.size_toArray, List.length_take, List.length_drop]
      clear off ne
      omega
    refine SrcS.intro (by rfl) kF kN (by rw [hsz, PySem.sizeLine_eq]; clear off ne; omega) ?_
    intro g8
    dsimp only
    rw [hsz]
    refine restT0 (fun j zs => (∃ ws, StrsAre zs ws ∧ ∀ y ∈ ws, PyData.strOk y = true) ∧ ((((Mine.cs txt).drop at_.toNat).take (i + 1)).take j).all isD = zs.isEmpty) ⟨⟨[], .nil, fun _ h => nomatch h⟩, by simp⟩ ?_ ?_
    · rintro j v zs I₁ oI₁ C₁ oC₁ D₁ m₃ h₃ tk₃ E₃ hj ⟨c, u, hc, rfl⟩ ⟨⟨ws, hw, hwo⟩, hz⟩ hC₃ hx₃ F₃ N₃ off₃ ne₃
      clear kF kN
      have hc' : (((Mine.cs txt).drop at_.toNat).take (i + 1))[j]? = some c := by simpa using hc
      have hs := all_snoc hc'
      have hcm : c < 128 := (hok c (List.mem_of_mem_drop (List.mem_of_mem_take (List.mem_of_getElem? hc')))).1
      k_extra "my steps"
      all_goals (with_reducible rename Fr _ _ _ _ => kF; with_reducible rename News _ _ _ _ => kN; with_reducible rename Txt.contains _ _ = _ => hb; rw [contains_one, figs_contains] at hb)
      · refine LCg.CompEnd.intro kF kN _ (fun p hp => hp) off₃ True.intro ⟨rfl, ⟨ws, hw, hwo⟩, ?_⟩
        rw [hs, hb, Bool.and_true, hz]
      · refine LCg.CompEnd.intro kF kN _ (fun p hp => hp) off₃ True.intro ⟨rfl, ⟨ws ++ [⟨#[c]⟩], KStt.strs_snoc hw, fun y hy => (List.mem_append.mp hy).elim (hwo y) fun h => List.mem_singleton.mp h ▸ strOk_one hcm⟩, ?_⟩
        rw [hs, hb, Bool.and_false]
        simp
    · rintro zs ⟨⟨ws, hw, hwo⟩, hz⟩
      rw [List.take_take, Nat.min_self, all_take_run _ _ (by rw [List.length_drop]; clear off ne; omega)] at hz
      clear kF kN
      intro D₂ h₂ tk₂ kF kN o₂
      k_extra "my steps"
      with_reducible rename News _ _ _ _ => kN
      refine eq_strs_nil kN (by k_mem) hw hwo (by k_mem) (by units_room) ?_
      rw [← hz]
      k_extra "my steps"
      all_goals (with_reducible rename Fr _ _ _ _ => kF; with_reducible rename News _ _ _ _ => kN; refine LCg.CompEnd.intro kF kN _ (fun p hp => List.mem_cons_of_mem _ (List.mem_cons_of_mem _ hp)) off0 True.intro ⟨rfl, ?_⟩; (try rw [List.length_append, List.length_singleton]); clear off ne; (simp only [decide_eq_true_eq, decide_eq_false_iff_not] at *); omega)
  · intro ys hy
    have hle := run_len_le ((Mine.cs txt).drop at_.toNat)
    rw [List.length_drop, ← len_cs] at hle
    have hy' : ys.length = (run ((Mine.cs txt).drop at_.toNat)).length := by omega
    clear kF kN
    intro D₂ h₂ tk₂ kF kN o₂
    k_extra "my steps"
    have hl : h₂.IsList D₂ ys.toArray := ⟨LCg.lst ys, (kN (D₂, LCg.lst ys) List.mem_cons_self).1, rfl, _, rfl⟩
    refine' len_list ?zl ?zf ?_
    case zl => exact hl
    case zf => rw [List.size_toArray, hy']; omega
    rw [List.size_toArray, hy']
    k_extra "my steps"
    with_reducible rename Fr _ _ _ _ => kF
    with_reducible rename News _ _ _ _ => kN
    have e : Txt.slice txt (some at_) (some (at_ + ((run ((Mine.cs txt).drop at_.toNat)).length : Int))) = S (run ((Mine.cs txt).drop at_.toNat)) := by
      rw [slice_int txt h0 (by omega)]
      rw [show (at_ + ((run ((Mine.cs txt).drop at_.toNat)).length : Int)).toNat - at_.toNat = (run ((Mine.cs txt).drop at_.toNat)).length by omega]
      rw [run_pre]
    rw [e]
    refine hret _ _ _ _ ⟨rfl, _, rfl⟩ kF (news_sub kN fun p hp => ?_)
    exact List.mem_cons_of_mem _ (List.mem_cons_of_mem _ (List.mem_cons_of_mem _ hp))
theorem mac09b_ : True := by
  (k_with "my call ref" => (k_here; (with_reducible show wpAny _ _ (call (Value.ref 150) [Value.str _ _, Value.int _ _]) _ _ _); k_dflt (refine' callAt.use (law_run_C _ _ _ _ _ _ _ _ _ ?h0 ?h1 ?h2 ?hok) ?kB ?kF ?kX ?kN ?kT ?kK ?kd ?ku ?_); k_extra "my asks"; (case h0 => k_extra "my om"); (case h1 => k_extra "my om"); (case h2 => k_extra "my om"); (case hok => assumption); intro v9 n9 h9 tk9 p9 F9 N9; (obtain ⟨e9, t9, e8⟩ := p9); subst e9; subst e8; (try k_sweep); k_extra "my then"))
  exact trivial

theorem part10_ : True := by w_top off; exact trivial
section
variable {prog : Program} {w : World} {A : Around} {E : Value → Shared → Prop} {s : Shared} {h₀ : Heap} {L : Addr} {m : Str → Option Value} {env : Env}

theorem draws_str (hh : A.handled = none) (it : Addr) (x : Str) (t : Tok) : Draws prog w A it [it] x.cps.size (fun i v => ∃ c u, x.cps[i]? = some c ∧ v = .str ⟨#[c]⟩ u) (fun i h => h.IsStrIter it (strIterType x) x t i) := by
  unfold strIterType
  split
  · exact Draws.strAscii hh it x t
  · exact Draws.strWide hh it x t

/-- the end of a turn over enumerate(text) -/
def EndE (h₀ : Heap) (L : Addr) (m : Str → Option Value) (own : List (Addr × Obj)) (news : List (Addr × Obj)) (Inv : List Value → Prop) (ys : List Value) (s : Shared) (y : Value) (s' : Shared) : Prop :=
  ∃ h' tk', s' = { s with heap := h', toks := tk' } ∧ Fr h₀ L h' m ∧ News h₀ L h' (own ++ news) ∧ Inv (ys ++ [y])
theorem EndE.intro {own news : List (Addr × Obj)} {Inv : List Value → Prop} {ys : List Value} {s' : Shared} {y : Value} {h' : Heap} {tk' : Nat} (F : Fr h₀ L h' m) (N : News h₀ L h' (own ++ news)) (h : Inv (ys ++ [y])) :
    EndE h₀ L m own news Inv ys s' y { s' with heap := h', toks := tk' } := ⟨h', tk', rfl, F, N, h⟩

def SrcE (prog : Program) (w : World) (A : Around) (h₀ : Heap) (L : Addr) (m : Str → Option Value) (env : Env) (elt : Expr) (x x₂ : Str) (scope : Scope) (cl : List (Str × Addr)) (Q : Value → Shared → Prop) (xv : Value) (s₁ : Shared) : Prop :=
  ∃ (e it : Addr) (xs : Str) (t : Tok) (news : List (Addr × Obj)) (Inv : Nat → List Value → Prop), xv = .ref e ∧ A.handled = none ∧ Fr h₀ L s₁.heap m ∧ News h₀ L s₁.heap news ∧ IsEnum s₁.heap e it 0 .none ∧ s₁.heap.IsStrIter it (strIterType xs) xs t 0 ∧
    e ≠ it ∧ e ≠ L ∧ it ≠ L ∧ h₀.get? e = none ∧ h₀.get? it = none ∧ (∀ p ∈ news, p.1 ≠ e ∧ p.1 ≠ it) ∧ xs.cps.size ≤ sizeLine ∧ Inv 0 [] ∧
    (∀ i c t₁ u ys oe oi C oC D m₂ h tk (E' : Value → Shared → Prop), xs.cps[i]? = some c → Inv i ys → LCg.NsObj oC m₂ → m₂ x = some (.int i t₁) → m₂ x₂ = some (.str ⟨#[c]⟩ u) → Fr h₀ L h m →
      News h₀ L h ((e, oe) :: (it, oi) :: (C, oC) :: (D, LCg.lst ys) :: news) → (∀ p ∈ news, p.1 ≠ C ∧ p.1 ≠ D) →
      wpAny (model prog w) A (eval elt (compEnvC scope cl C env)) (EndE h₀ L m [(e, oe), (it, oi), (C, oC), (D, LCg.lst ys)] news (Inv (i + 1)) ys { s₁ with heap := h, toks := tk }) E' { s₁ with heap := h, toks := tk }) ∧
    ∀ ys, Inv xs.cps.size ys → LCg.FinE h₀ L m s₁ Q ys news

theorem SrcE.intro {elt : Expr} {x x₂ : Str} {scope : Scope} {cl : List (Str × Addr)} {Q : Value → Shared → Prop} {xs : Str} {t : Tok} {h' : Heap} {news : List (Addr × Obj)} (Inv : Nat → List Value → Prop)
    (hh : A.handled = none) (F : Fr h₀ L s.heap m) (N : News h₀ L s.heap news) (hsz : xs.cps.size ≤ sizeLine) (h0 : Inv 0 [])
    (he : IsEnum h' (s.heap.objs.size + 1) s.heap.objs.size 0 .none) (hi : h'.IsStrIter s.heap.objs.size (strIterType xs) xs t 0) (hk : ∀ b o, s.heap.get? b = some o → h'.get? b = some o)
    (turn : ∀ e it i c t₁ u ys oe oi C oC D m₂ h tk (E' : Value → Shared → Prop), xs.cps[i]? = some c → Inv i ys → LCg.NsObj oC m₂ → m₂ x = some (.int i t₁) → m₂ x₂ = some (.str ⟨#[c]⟩ u) → Fr h₀ L h m →
      News h₀ L h ((e, oe) :: (it, oi) :: (C, oC) :: (D, LCg.lst ys) :: news) → (∀ p ∈ news, p.1 ≠ C ∧ p.1 ≠ D) →
      wpAny (model prog w) A (eval elt (compEnvC scope cl C env)) (EndE h₀ L m [(e, oe), (it, oi), (C, oC), (D, LCg.lst ys)] news (Inv (i + 1)) ys { s with heap := h, toks := tk }) E' { s with heap := h, toks := tk })
    (fin : ∀ ys, Inv xs.cps.size ys → LCg.FinE h₀ L m { s with heap := h' } Q ys news) :
    SrcE prog w A h₀ L m env elt x x₂ scope cl Q (.ref (s.heap.objs.size + 1)) { s with heap := h' } := by
  have hL : L < s.heap.objs.size := F.ns.lt
  have fresh : ∀ a, s.heap.objs.size ≤ a → s.heap.get? a = none := fun a ha => by
    cases e : s.heap.get? a with
    | none => rfl
    | some o' => exact absurd (Heap.lt_size e) (Nat.not_lt.mpr ha)
  have fresh₀ : ∀ a, s.heap.objs.size ≤ a → h₀.get? a = none := fun a ha => by
    cases e : h₀.get? a with
    | none => rfl
    | some o' => have := F.keep a o' e; rw [fresh a ha] at this; cases this
  refine ⟨_, _, xs, t, news, Inv, rfl, hh, F.keeps hk, N.grown hk, he, hi, Nat.succ_ne_self _, ?_, ?_, fresh₀ _ (Nat.le_succ _), fresh₀ _ (Nat.le_refl _), fun p hp => ?_, hsz, h0, fun i c t₁ u ys oe oi C oC D m₂ h tk E' => turn _ _ i c t₁ u ys oe oi C oC D m₂ h tk E', fin⟩
  · exact fun q => by subst q; exact absurd hL (Nat.not_lt.mpr (Nat.le_succ _))
  · exact fun q => by subst q; exact absurd hL (Nat.lt_irrefl _)
  · have := Heap.lt_size (N p hp).1
    exact ⟨fun q => by rw [q] at this; exact absurd this (Nat.not_lt.mpr (Nat.le_succ _)), fun q => by rw [q] at this; exact absurd this (Nat.lt_irrefl _)⟩

/-- a comprehension without a test over enumerate(text) -/
theorem ListComp_E {elt iter : Expr} {x x₂ : Str} {px px₂ tp : Pos} {tk} {scope : Scope} {cl : List (Str × Addr)} {pos : Pos} {Q : Value → Shared → Prop} (_F₀ : Fr h₀ L s.heap m)
    (hclos : closureFor scope env = pure cl) (hcell : ∀ y ∈ scope.names, y.2 ≠ .cell) (hkind : scope.kind = .function)
    (hnames : ∀ y ∈ scope.names, y.2 = .local → scope.names.lookup y.1 = some .local) (hx : scope.names.lookup x = some .local) (hx₂ : scope.names.lookup x₂ = some .local) (hxx : x ≠ x₂)
    (h : wpAny (model prog w) A (eval iter env) (SrcE prog w A h₀ L m env elt x x₂ scope cl Q) E s)
    (hs : ∀ x, foldedSetIterable iter env x = pure x := by intro _; rfl) :
    wpAny (model prog w) A (eval (.ListComp elt [⟨.Tuple [.Name x px, .Name x₂ px₂] tk tp, iter, [], 0⟩] scope pos) env) Q E s := by
  rw [eval_ListComp]
  refine wpAny_comprehension_free (use := none) rfl hs hclos hkind hnames (wpAny_mono h (fun xv s₁ h₁ => ?_) fun _ _ e => e)
  obtain ⟨e, it, xs, t, news, Inv, rfl, hh, F, N, he, hi, hei, heL, hiL, he0, hi0, off, hsz, hv0, turn, fin⟩ := h₁
  have W : WalksT prog w A e [e, it] [e, it] xs.cps.size _ _ _ := WalksT.enumerateD (draws_str (A := A.in1) hh it xs t) e hei (by simpa using hei) (by simp)
  refine wpAny_pyIter_enum he ?_
  refine wpAny_newObj_type (wpAny_newFunctionEnv hcell (by intro y hy; simp at hy) (fun h₁ hns₁ hsb₁ => ?_) hkind)
  dsimp only at hns₁ hsb₁ ⊢
  generalize hH2 : s₁.heap.push { cls := .type "list", dict := none, data := .seq ([] : List Value).toArray } = H2 at hns₁ hsb₁ ⊢
  have hC : H2.objs.size = s₁.heap.objs.size + 1 := by rw [← hH2, Heap.size_push]
  have hDC : s₁.heap.objs.size ≠ H2.objs.size := by rw [hC]; exact Nat.ne_of_lt (Nat.lt_succ_self _)
  have below : ∀ b, b < s₁.heap.objs.size → b ≠ H2.objs.size ∧ b ≠ s₁.heap.objs.size := fun b hb => ⟨by rw [hC]; exact Nat.ne_of_lt (Nat.lt_succ_of_lt hb), Nat.ne_of_lt hb⟩
  have hel : e < s₁.heap.objs.size := Heap.lt_size he
  have hil : it < s₁.heap.objs.size := by obtain ⟨o, ho, _⟩ := hi; exact Heap.lt_size ho
  have old : ∀ b o, s₁.heap.get? b = some o → h₁.get? b = some o := fun b o e => hsb₁.extBut b o (below b (Heap.lt_size e)).1 (Heap.get?_push_of_some _ (hH2 ▸ Heap.get?_push_of_some _ e))
  have hacc : h₁.get? s₁.heap.objs.size = some (LCg.lst []) := hsb₁.extBut _ _ hDC (Heap.get?_push_of_some _ (hH2 ▸ Heap.get?_push_size _ rfl))
  have st₁ : (fun (i : Nat) (h : Heap) => (∃ old, IsEnum h e it i old) ∧ h.IsStrIter it (strIterType xs) xs t i) 0 h₁ := W.frame 0 s₁.heap _ ⟨⟨_, he⟩, hi⟩ fun b _ o e => old b o e
  have fresh : ∀ a, s₁.heap.objs.size ≤ a → s₁.heap.get? a = none := fun a ha => by
    cases e : s₁.heap.get? a with
    | none => rfl
    | some o' => exact absurd (Heap.lt_size e) (Nat.not_lt.mpr ha)
  have fresh₀ : ∀ a, s₁.heap.objs.size ≤ a → h₀.get? a = none := fun a ha => by
    cases e : h₀.get? a with
    | none => rfl
    | some o' => have := F.keep a o' e; rw [fresh a ha] at this; cases this
  have hD₀ : h₀.get? s₁.heap.objs.size = none := fresh₀ _ (Nat.le_refl _)
  have hC₀ : h₀.get? H2.objs.size = none := fresh₀ _ (by rw [hC]; exact Nat.le_succ _)
  have hLlt : L < s₁.heap.objs.size := F.ns.lt
  have hDL : s₁.heap.objs.size ≠ L := Ne.symm (below L hLlt).2
  have hCL : H2.objs.size ≠ L := Ne.symm (below L hLlt).1
  have offCD : ∀ p ∈ news, p.1 ≠ H2.objs.size ∧ p.1 ≠ s₁.heap.objs.size := fun p hp => below _ (Heap.lt_size (N p hp).1)
  have hsame : ∀ {h h' : Heap}, (∀ b o, b ∉ [e, it] → h.get? b = some o → h'.get? b = some o) → Fr h₀ L h m → Fr h₀ L h' m := fun hk F' =>
    ⟨F'.ns.at' fun o x => hk _ o (by simp [Ne.symm heL, Ne.symm hiL]) x, fun b o x => hk b o (fun hb => by
      rcases List.mem_cons.mp hb with rfl | hb
      · rw [he0] at x; cases x
      · rw [List.mem_singleton.mp hb, hi0] at x; cases x) (F'.keep b o x), F'.above⟩
  have nsame : ∀ {h h' : Heap} {l : List (Addr × Obj)}, (∀ b o, b ∉ [e, it] → h.get? b = some o → h'.get? b = some o) → (∀ p ∈ l, p.1 ≠ e ∧ p.1 ≠ it) → News h₀ L h l → News h₀ L h' l := fun hk ho N' p hp =>
    ⟨hk _ _ (by simp [(ho p hp).1, (ho p hp).2]) (N' p hp).1, (N' p hp).2⟩
  have offD : ∀ (ys : List Value), ∀ p ∈ (s₁.heap.objs.size, LCg.lst ys) :: news, p.1 ≠ e ∧ p.1 ≠ it := fun ys p hp => by
    rcases List.mem_cons.mp hp with rfl | hp
    · exact ⟨Nat.ne_of_gt hel, Nat.ne_of_gt hil⟩
    · exact off p hp
  have loop : ∀ s₃ : Shared, s₃ = { s₁ with heap := h₁, toks := s₁.toks + ([] : List (Str × Value)).length } →
      codeAny (model prog w) A (.compLoop (.ListComp elt [⟨.Tuple [.Name x px, .Name x₂ px₂] tk tp, iter, [], 0⟩] scope pos) 0 (.ref e) (.ref s₁.heap.objs.size) (compEnvC scope cl H2.objs.size env))
        (compPost (model prog w) A E none Q (.ref s₁.heap.objs.size) H2.objs.size) s₃ := by
    rintro s₃ rfl
    refine LCp.codeAny_compLoop_pair
      (fun k s' => ∃ h' tk i ys m', s' = { s₁ with heap := h', toks := tk } ∧ i ≤ xs.cps.size ∧ k = xs.cps.size + 1 - i ∧ ys.length = i ∧ ((∃ old, IsEnum h' e it i old) ∧ h'.IsStrIter it (strIterType xs) xs t i) ∧ Fr h₀ L h' m ∧ h'.Ns H2.objs.size m' ∧ News h₀ L h' ((s₁.heap.objs.size, LCg.lst ys) :: news) ∧
        Inv i ys) ?_ (xs.cps.size + 1) ⟨h₁, _, 0, [], _, rfl, Nat.zero_le _, rfl, rfl, st₁, F.keeps old, hns₁, fun p hp => ?_, hv0⟩
    · rintro k s' ⟨h', tk', i, ys, m', rfl, hi', rfl, hyl, hst', F', hn', N', hI⟩
      by_cases hlt : i < xs.cps.size
      · refine W.item i _ _ _ hlt hst' fun T vals h₂ tk₂ hP hTs hT hM hk₂ => ?_
        obtain ⟨tt, xv, ⟨c, u, hc, rfl⟩, rfl⟩ := hP
        refine W.go _ _ _ i T _ _ _ hM fun h₃ hst₃ hk₃ => ?_
        have hTne : T ∉ [e, it] := W.apart i T _ hM
        have hT₃ : h₃.IsTuple T #[.int i tt, .str ⟨#[c]⟩ u] := hT.at fun o x => hk₃ _ o hTne x
        refine assign_Tuple_tuple hh hT₃ rfl rfl fun h₄ hx₄ => ?_
        have he₄ : ∀ b o, h₃.get? b = some o → h₄.get? b = some o := fun b o x => hx₄ b o (Nat.ne_of_lt (Heap.lt_size x)) x
        have hC3 : H2.objs.size ∉ [e, it] := by simp [Ne.symm (below e hel).1, Ne.symm (below it hil).1]
        refine assignInOrder_cons (wpAny_assign_Name (wpAny_storeName_local (lookup_relabel_local hx) (((hn'.at' fun o x => hk₂ _ o hC3 x).at' fun o x => hk₃ _ o hC3 x).at' fun o x => he₄ _ o x) (fun h₅ hn₅ hs₅ => ?_) (by simp [compEnvC, relabel, hkind])))
        refine assignInOrder_cons (wpAny_assign_Name (wpAny_storeName_local (lookup_relabel_local hx₂) hn₅ (fun h₆ hn₆ hs₆ => ?_) (by simp [compEnvC, relabel, hkind])))
        refine assignInOrder_nil ?_
        have old6 : ∀ b o, b ≠ H2.objs.size → h₃.get? b = some o → h₆.get? b = some o := fun b o hb x => hs₆.extBut b o hb (hs₅.extBut b o hb (he₄ b o x))
        have hst₆ : (∃ old, IsEnum h₆ e it ((i + 1 : Nat) : Int) old) ∧ h₆.IsStrIter it (strIterType xs) xs t (i + 1) := W.frame _ _ _ hst₃ fun b hb o x => old6 b o (fun q => hC3 (q ▸ hb)) x
        obtain ⟨⟨od, heE⟩, oI, heI, hIr⟩ := id hst₆
        have heE' : ∃ oE, h₆.get? e = some oE := ⟨_, heE⟩
        obtain ⟨oE, heE'⟩ := heE'
        obtain ⟨oC, heC, hoC⟩ := LCg.ns_obj hn₆
        have F₆ : Fr h₀ L h₆ m := (((hsame hk₃ (hsame hk₂ F')).keeps he₄).change hs₅ hCL hC₀).change hs₆ hCL hC₀
        have N₃ := nsame hk₃ (offD ys) (nsame hk₂ (offD ys) N')
        have N₆ : News h₀ L h₆ ((e, oE) :: (it, oI) :: (H2.objs.size, oC) :: (s₁.heap.objs.size, LCg.lst ys) :: news) := fun p hp => by
          rcases List.mem_cons.mp hp with rfl | hp
          · exact ⟨heE', heL, he0⟩
          rcases List.mem_cons.mp hp with rfl | hp
          · exact ⟨heI, hiL, hi0⟩
          rcases List.mem_cons.mp hp with rfl | hp
          · exact ⟨heC, hCL, hC₀⟩
          refine ⟨old6 _ _ ?_ (N₃ p hp).1, (N₃ p hp).2⟩
          rcases List.mem_cons.mp hp with rfl | hp
          · exact hDC
          · exact (offCD p hp).1
        refine wpAny_mono (turn i c tt u ys oE oI H2.objs.size oC s₁.heap.objs.size _ h₆ _ _ hc hI hoC (by simp [hxx]) (by simp) F₆ N₆ offCD) (fun y s₄ h₄ => ?_) fun _ _ e => e
        obtain ⟨h₇, tk₇, rfl, F₇, N₇, hI₇⟩ := h₄
        have zC := (N₇ (H2.objs.size, oC) (by simp)).1
        have zD := (N₇ (s₁.heap.objs.size, LCg.lst ys) (by simp)).1
        have zE := (N₇ (e, oE) (by simp)).1
        have zI := (N₇ (it, oI) (by simp)).1
        have N₇' : News h₀ L h₇ news := fun p hp => N₇ p (by simp [hp])
        have hst₇ : (∃ old, IsEnum h₇ e it ((i + 1 : Nat) : Int) old) ∧ h₇.IsStrIter it (strIterType xs) xs t (i + 1) := by
          have q : oE = _ := Option.some.inj (heE'.symm.trans heE)
          exact ⟨⟨od, zE.trans (congrArg some q)⟩, oI, zI, hIr⟩
        refine append_at (hsz := by show ys.toArray.size ≤ sizeLine; rw [List.size_toArray, hyl]; exact Nat.le_trans hi' hsz) zD fun h₈ hs₈ hD₈ => ?_
        refine ⟨xs.cps.size + 1 - (i + 1), by omega, h₈, tk₇, i + 1, ys ++ [y], _, rfl, hlt, rfl, by rw [List.length_append, List.length_singleton, hyl], W.frame (i + 1) _ _ hst₇ fun b hb o x => hs₈.extBut b o (fun q => ?_) x, F₇.change hs₈ hDL hD₀, (hoC.ns zC).sameBut hs₈ (Ne.symm hDC), fun p hp => ?_, hI₇⟩
        · subst q
          rcases List.mem_cons.mp hb with q | hb
          · exact (below e hel).2 q.symm
          · exact (below it hil).2 (List.mem_singleton.mp hb).symm
        · rcases List.mem_cons.mp hp with rfl | hp
          · exact ⟨hD₈.trans (congrArg some (LCg.lst_snoc ys y)), hDL, hD₀⟩
          · exact ⟨hs₈.extBut _ _ (offCD p hp).2 (N₇' p hp).1, (N₇' p hp).2⟩
      · obtain rfl : i = xs.cps.size := Nat.le_antisymm hi' (Nat.not_lt.mp hlt)
        refine W.done _ _ _ hst' fun h₂ tk₂ hk₂ => ?_
        refine ⟨m', hn'.at' fun o x => hk₂ _ o (by simp [Ne.symm (below e hel).1, Ne.symm (below it hil).1]) x, fun h'' hs'' => fin ys hI s₁.heap.objs.size h'' tk₂ ((hsame hk₂ F').change hs'' hCL hC₀) (fun p hp => ?_) ?_⟩
        · have z := nsame hk₂ (offD ys) N' p hp
          refine ⟨hs''.extBut _ _ ?_ z.1, z.2⟩
          rcases List.mem_cons.mp hp with rfl | hp
          · exact hDC
          · exact (offCD p hp).1
        · exact (LCg.Off3.of (I := H2.objs.size) (C := H2.objs.size) fun p hp => ⟨(offCD p hp).1, (offCD p hp).1, (offCD p hp).2⟩).one
    · rcases List.mem_cons.mp hp with rfl | hp
      · exact ⟨hacc, hDL, hD₀⟩
      · exact ⟨old _ _ (N p hp).1, (N p hp).2⟩
  exact codeAny_compStart_list (loop _ rfl) (W.self 0 _ _ _ st₁ (loop _ rfl))
end
theorem rev_cs (x : Str) (u : Tok) : Txt.sliceBy x none none (-1, u) = S (cs x).reverse := by
  apply Str.ext'
  have h := step_rev_list x u
  have e : ((List.range x.length).map fun k => x.cps.getD (x.length - 1 - k) 0) = (cs x).reverse := by
    refine List.ext_getElem? fun i => ?_
    have hl := len_cs x
    by_cases hi : i < x.length
    · rw [List.getElem?_reverse (by omega), List.getElem?_map, List.getElem?_range hi, ← hl]
      have h2 : x.length - 1 - i < x.cps.size := by show x.length - 1 - i < x.length; omega
      rw [List.getElem?_eq_getElem (by rw [← hl]; omega)]
      simp only [Option.map_some, Option.some.injEq, Array.getD, h2, dif_pos, Array.getInternal_eq_getElem, Array.getElem_toList]
    · rw [List.getElem?_eq_none (by rw [List.length_map, List.length_range]; omega), List.getElem?_eq_none (by rw [List.length_reverse, ← hl]; omega)]
  rw [e] at h
  rw [← h]
def worP (l : List Nat) : Nat := l.foldr (fun c n => (c - 48) + 10 * n) 0
theorem worP_rev (l : List Nat) : worP l.reverse = wor l := by
  unfold worP wor
  rw [List.foldr_reverse]
  congr 1
  funext n c
  unfold worF
  omega
theorem worP_snoc (a : List Nat) (c : Nat) : worP (a ++ [c]) = worP a + (c - 48) * 10 ^ a.length := by
  unfold worP
  induction a with
  | nil => simp
  | cons d r ih =>
    rw [List.cons_append, List.foldr_cons, List.foldr_cons, ih, List.length_cons, Nat.pow_succ]
    generalize List.foldr _ 0 r = p
    have : 10 * ((c - 48) * 10 ^ r.length) = (c - 48) * (10 ^ r.length * 10) := by rw [Nat.mul_comm 10, Nat.mul_assoc]
    omega
theorem worP_turn {l : List Nat} {i c : Nat} (h : l[i]? = some c) : worP (l.take (i + 1)) = worP (l.take i) + (c - 48) * 10 ^ i := by
  have hi : i < l.length := (List.getElem?_eq_some_iff.mp h).1
  rw [List.take_add_one, h]
  show worP (l.take i ++ [c]) = _
  rw [worP_snoc, List.length_take, Nat.min_eq_left (Nat.le_of_lt hi)]
theorem mac10a_ : True := by
  (k_with "my stop" => (with_reducible show wpAny _ _ (call (Value.type "enumerate") [Value.str _ _]) _ _ _))
  exact trivial
theorem law_worth_C (w : World) (mean mg mb) (txt : Str) (t1 : Tok) (news : List (Addr × Obj)) (hd : ∀ c ∈ Mine.cs txt, isD c = true) (hl : txt.length ≤ 200) :
    callAt w mean mg mb 1 100 news 155 [.str txt t1] (fun v n => n = news ∧ ∃ t, v = .int (wor (Mine.cs txt)) t) := by
  unfold callAt
  intro dp un gd cn cs a ccd cl outer A₀ base h₀ L m s Q E B F X N T hk hd' hu hret
  k_extra "my enter"
  k_extra "my steps"
  with_reducible rename Fr _ _ _ _ => kF
  with_reducible rename News _ _ _ _ => kN
  refine ListComp_E kF (by with_unfolding_all rfl) (by decide) (by rfl) (by decide) (by rfl) (by rfl) (by decide) ?_
  k_extra "my steps"
  with_reducible rename Fr _ _ _ _ => kF
  with_reducible rename News _ _ _ _ => kN
  rw [rev_cs]
  have hll := len_cs txt
  refine call_enumerate_str fun h₉ he₉ hi₉ _ hk₉ => ?_
  refine SrcE.intro (fun i ys => ∃ ns, IntsAre ys ns ∧ ns.sum = (worP ((Mine.cs txt).reverse.take i) : Int)) (by rfl) kF kN (by rw [PySem.sizeLine_eq, List.size_toArray, List.length_reverse]; omega) ⟨[], .nil, by simp [worP]⟩ he₉ hi₉ hk₉ ?_ ?_
  · intro e it i c t₁ u ys oe oi C oC D m₂ h tk E' hc hI hC hx hx₂ F₁ N₁ off
    obtain ⟨ns, hns, hsum⟩ := hI
    have hc' : (Mine.cs txt).reverse[i]? = some c := by simpa using hc
    have hcd : isD c = true := hd c (by simpa using List.mem_of_getElem? hc')
    have hcm := isD_ge hcd
    have hi : i < txt.length := by have := (List.getElem?_eq_some_iff.mp hc').1; rw [List.length_reverse] at this; omega
    clear kF kN
    k_extra "my steps"
    with_reducible rename Fr _ _ _ _ => kF
    with_reducible rename News _ _ _ _ => kN
    refine EndE.intro kF kN ⟨ns ++ [((c - 48 : Nat) : Int) * 10 ^ ((i : Int)).toNat], IntsAre.append hns (IntsAre.cons _ _ IntsAre.nil), ?_⟩
    rw [List.sum_append, hsum, worP_turn hc', Int.toNat_natCast, List.sum_cons, List.sum_nil, Int.add_zero]
    push_cast
    rfl
  · intro ys hI
    obtain ⟨ns, hns, hsum⟩ := hI
    clear kF kN
    intro D h tk kF kN o
    k_extra "my steps"
    with_reducible rename Fr _ _ _ _ => kF
    with_reducible rename News _ _ _ _ => kN
    have hlr : (S (Mine.cs txt).reverse).cps.size = (Mine.cs txt).reverse.length := by simp
    rw [hsum, hlr, List.take_length, worP_rev]
    exact hret _ _ _ _ ⟨rfl, _, rfl⟩ kF (news_sub kN fun p hp => List.mem_cons_of_mem _ hp)
theorem mac10b_ : True := by
  (k_with "my call ref" => (k_here; (with_reducible show wpAny _ _ (call (Value.ref 155) [Value.str _ _]) _ _ _); k_dflt (refine' callAt.use (law_worth_C _ _ _ _ _ _ _ ?hf ?hl) ?kB ?kF ?kX ?kN ?kT ?kK ?kd ?ku ?_); k_extra "my asks"; (case hf => k_extra "my figs"); (case hl => k_extra "my om"); intro v9 n9 h9 tk9 p9 F9 N9; (obtain ⟨e9, t9, e8⟩ := p9); subst e9; subst e8; (try k_sweep); k_extra "my then"))
  exact trivial

theorem part11_ : True := by w_top off; exact trivial
def optPair (r : Option (Int × Int)) (news : List (Addr × Obj)) (v : Value) (n : List (Addr × Obj)) : Prop := match r with
  | none => v = .none ∧ n = news
  | some (e, k) => ∃ l ta tb, v = .ref l ∧ (∀ p ∈ news, p.1 < l) ∧ n = (l, tup2 (.int e ta) (.int k tb)) :: news
def expoAt (txt : Str) (at_ : Int) : Option (Int × Int) := (expo ((cs txt).drop at_.toNat)).map fun q => (q.1, at_ + q.2)
def headIs (a b : Nat) (l : List Nat) : Bool := match l with
  | c :: _ => c == a || c == b
  | [] => false
theorem one_eq {s : String} {a : Nat} (hs : cs (Str.ofString s) = [a]) (l : List Nat) : (Str.ofString s == S (l.take 1)) = (match l with | c :: _ => c == a | [] => false) := by
  have e : Str.ofString s = S [a] := by rw [← hs]
  rw [e, Bool.eq_iff_iff, beq_iff_eq]
  cases l with
  | nil =>
    constructor
    · intro h
      have h' : [a] = [] := congrArg cs h
      cases h'
    · intro h
      cases h
  | cons c r =>
    show S [a] = S [c] ↔ (c == a) = true
    constructor
    · intro h
      have h' : [a] = [c] := congrArg cs h
      injection h' with h1
      simp [h1]
    · intro h
      have := beq_iff_eq.mp h
      subst this
      rfl
theorem two_any {s t : String} {a b : Nat} (hs : cs (Str.ofString s) = [a]) (ht : cs (Str.ofString t) = [b]) (l : List Nat) : ([Str.ofString s, Str.ofString t].any fun x => x == S (l.take 1)) = headIs a b l := by
  simp only [List.any_cons, List.any_nil, Bool.or_false, one_eq hs, one_eq ht]
  cases l <;> rfl
theorem slice_one (x : Str) {i j : Int} (h0 : 0 ≤ i) (hj : j = i + 1) : Txt.slice x (some i) (some j) = S (((cs x).drop i.toNat).take 1) := by
  rw [slice_int x h0 (by omega)]
  congr 3
  omega
theorem head_e (x : Str) {i j : Int} (h0 : 0 ≤ i) (hj : j = i + 1) : ([Str.ofString "e", Str.ofString "E"].any fun y => y == Txt.slice x (some i) (some j)) = headIs 101 69 ((cs x).drop i.toNat) := by
  rw [slice_one x h0 hj]
  exact two_any (by decide +kernel) (by decide +kernel) _
theorem head_s (x : Str) {i j : Int} (h0 : 0 ≤ i) (hj : j = i + 1) : ([Str.ofString "+", Str.ofString "-"].any fun y => y == Txt.slice x (some i) (some j)) = headIs 43 45 ((cs x).drop i.toNat) := by
  rw [slice_one x h0 hj]
  exact two_any (by decide +kernel) (by decide +kernel) _
/-- where a sign ends, and whether it was a minus -/
theorem sign_at (x : Str) {p B : Int} (h0 : 0 ≤ p) (h1 : p ≤ x.length) (hB : B = p + if headIs 43 45 ((cs x).drop p.toNat) = true then 1 else 0) :
    p ≤ B ∧ B ≤ x.length ∧ (cs x).drop B.toNat = (signOf ((cs x).drop p.toNat)).2 ∧ ((signOf ((cs x).drop p.toNat)).1 = true → p < B ∧ (cs x).getD (B.toNat - 1) 0 = 45) ∧ ((signOf ((cs x).drop p.toNat)).1 = false → p < B → (cs x).getD (B.toNat - 1) 0 = 43) := by
  have hl := len_cs x
  cases hd : (cs x).drop p.toNat with
  | nil =>
    rw [hd] at hB
    have e : B = p := by rw [hB]; simp [headIs]
    refine ⟨by omega, by omega, ?_, by simp [signOf], fun _ h => absurd h (by omega)⟩
    rw [e, hd]
    rfl
  | cons c r =>
    have hpl : p.toNat < (cs x).length := by
      have := congrArg List.length hd
      rw [List.length_drop, List.length_cons] at this
      omega
    have hc : (cs x).getD p.toNat 0 = c := by
      have := congrArg (fun l => l.getD 0 0) hd
      simpa [List.getD, List.getElem?_drop] using this
    have hr : (cs x).drop (p.toNat + 1) = r := by rw [← List.drop_drop, hd]; rfl
    rw [hd] at hB
    by_cases h43 : c = 43
    · subst h43
      have e : B = p + 1 := by rw [hB]; simp [headIs]
      have e2 : B.toNat = p.toNat + 1 := by omega
      rw [e2]
      exact ⟨by omega, by omega, hr, fun h => absurd h (by simp [signOf]), fun _ _ => by rw [Nat.add_sub_cancel]; exact hc⟩
    · by_cases h45 : c = 45
      · subst h45
        have e : B = p + 1 := by rw [hB]; simp [headIs]
        have e2 : B.toNat = p.toNat + 1 := by omega
        rw [e2]
        exact ⟨by omega, by omega, hr, fun _ => ⟨by omega, by rw [Nat.add_sub_cancel]; exact hc⟩, fun h => absurd h (by simp [signOf])⟩
      · have e : B = p := by rw [hB]; simp [headIs, h43, h45]
        subst e
        have e3 : signOf (c :: r) = (false, c :: r) := by
          unfold signOf
          split
          · rename_i h; simp at h; exact absurd h.1 h45
          · rename_i h; simp at h; exact absurd h.1 h43
          · rfl
        rw [e3]
        exact ⟨by omega, by omega, hd, fun h => absurd h (by simp), fun _ h => absurd h (by omega)⟩
theorem expoAt_e {x : Str} {p B : Int} (h0 : 0 ≤ p) (h1 : p + 1 ≤ x.length) (hE : headIs 101 69 ((cs x).drop p.toNat) = true) (b1 : p + 1 ≤ B) (b2 : B ≤ x.length) (b3 : (cs x).drop B.toNat = (signOf ((cs x).drop (p + 1).toNat)).2) :
    expoAt x p = if (run ((cs x).drop B.toNat)).length = 0 ∨ 9 < (run ((cs x).drop B.toNat)).length ∨ 300 < wor (run ((cs x).drop B.toNat)) then none
      else some (if (signOf ((cs x).drop (p + 1).toNat)).1 then -(wor (run ((cs x).drop B.toNat)) : Int) else (wor (run ((cs x).drop B.toNat)) : Int), B + (run ((cs x).drop B.toNat)).length) := by
  have hl := len_cs x
  unfold expoAt
  cases hd : (cs x).drop p.toNat with
  | nil => rw [hd] at hE; cases hE
  | cons c r =>
    have hr : (cs x).drop (p + 1).toNat = r := by
      rw [show (p + 1).toNat = p.toNat + 1 by omega, ← List.drop_drop, hd]
      rfl
    have hc : c = 101 ∨ c = 69 := by rw [hd] at hE; simpa [headIs] using hE
    rw [hr] at b3 ⊢
    have hq : (signOf r).2.length = (cs x).length - B.toNat := by rw [← b3, List.length_drop]
    have hrl : r.length = (cs x).length - (p + 1).toNat := by rw [← hr, List.length_drop]
    unfold expo
    simp only [if_pos hc]
    rw [← b3] at hq ⊢
    generalize run ((cs x).drop B.toNat) = d
    have hn : d = [] ↔ d.length = 0 := by simp
    simp only [hn]
    split
    · rfl
    · simp only [Option.map_some, Option.some.injEq, Prod.mk.injEq, true_and]
      rw [hq]
      omega
theorem expoAt_n {x : Str} {p : Int} (hE : headIs 101 69 ((cs x).drop p.toNat) = false) : expoAt x p = some (0, p) := by
  unfold expoAt
  cases hd : (cs x).drop p.toNat with
  | nil => simp [expo]
  | cons c r =>
    have hc : ¬ (c = 101 ∨ c = 69) := by rw [hd] at hE; simpa [headIs] using hE
    simp [expo, hc]
theorem minus_at {x : Str} {p B : Int} (h0 : 0 ≤ p) (hE : headIs 101 69 ((cs x).drop p.toNat) = true) (b1 : p + 1 ≤ B) (b2 : B ≤ x.length)
    (b4 : (signOf ((cs x).drop (p + 1).toNat)).1 = true → p + 1 < B ∧ (cs x).getD (B.toNat - 1) 0 = 45) (b5 : (signOf ((cs x).drop (p + 1).toNat)).1 = false → p + 1 < B → (cs x).getD (B.toNat - 1) 0 = 43) :
    (Txt.item x (B - 1) == Str.ofString "-") = (signOf ((cs x).drop (p + 1).toNat)).1 := by
  rw [item_nat x (by omega) (by omega), show (B - 1).toNat = B.toNat - 1 by omega]
  have e : Str.ofString "-" = ⟨#[45]⟩ := by decide +kernel
  rw [e]
  cases hs : (signOf ((cs x).drop (p + 1).toNat)).1 with
  | true => rw [(b4 hs).2]; exact beq_iff_eq.mpr rfl
  | false =>
    have h : (cs x).getD (B.toNat - 1) 0 ≠ 45 := by
      by_cases hB : p + 1 < B
      · rw [b5 hs hB]; decide
      · have eB : B.toNat - 1 = p.toNat := by omega
        rw [eB]
        cases hd : (cs x).drop p.toNat with
        | nil => rw [hd] at hE; cases hE
        | cons c r =>
          have hc : (cs x).getD p.toNat 0 = c := by
            have := congrArg (fun l => l.getD 0 0) hd
            simpa [List.getD, List.getElem?_drop] using this
          have hc' : c = 101 ∨ c = 69 := by rw [hd] at hE; simpa [headIs] using hE
          rw [hc]
          omega
    rw [beq_eq_false_iff_ne]
    intro q
    apply h
    have := congrArg cs q
    simpa using this
theorem len_SS {prog : Program} {w : World} {A : Around} {E : Value → Shared → Prop} {s : Shared} {l : List Nat} {t : Tok} {Q : Value → Shared → Prop} (hf : l.length ≤ 1000) (h : Q (.int l.length (s.toks + 1)) { s with toks := s.toks + 1 + 1 }) :
    wpAny (model prog w) A (call (.builtin "len") [.str (S l) t]) Q E s := by
  have hl := len_S l
  refine len_str (by rw [hl]; omega) ?_
  rw [hl]
  exact h
theorem mac11a_ : True := by
  (k_with "my call builtin:len" => ((with_reducible show wpAny _ _ (call (Value.builtin "len") [Value.str (S _) _]) _ _ _); refine len_SS (by k_extra "my om") ?_; (try dsimp only)))
  exact trivial
theorem lt_all {d : Nat} : ∀ {l : List (Addr × Obj)}, AllLt d l → ∀ p ∈ l, p.1 < d
  | [], _, _, h => nomatch h
  | _ :: _, h, p, hp => by
    rcases List.mem_cons.mp hp with rfl | hp
    · exact h.1
    · exact lt_all h.2 p hp
theorem optPair_some {r : Option (Int × Int)} {e k : Int} {news : List (Addr × Obj)} {l : Addr} {ta tb : Tok} (h : r = some (e, k)) (hl : ∀ p ∈ news, p.1 < l) : optPair r news (.ref l) ((l, tup2 (.int e ta) (.int k tb)) :: news) := by
  subst h
  exact ⟨l, ta, tb, rfl, hl, rfl⟩
theorem news_drop1 (l : List (Addr × Obj)) {a b : Addr × Obj} : ∀ p ∈ a :: l, p ∈ a :: b :: l := fun p hp => by
  rcases List.mem_cons.mp hp with rfl | hp
  · exact List.mem_cons_self
  · exact List.mem_cons_of_mem _ (List.mem_cons_of_mem _ hp)
theorem news_drop2 (l : List (Addr × Obj)) {a b c : Addr × Obj} : ∀ p ∈ a :: l, p ∈ a :: b :: c :: l := fun p hp => by
  rcases List.mem_cons.mp hp with rfl | hp
  · exact List.mem_cons_self
  · exact List.mem_cons_of_mem _ (List.mem_cons_of_mem _ (List.mem_cons_of_mem _ hp))
theorem law_expo_C (w : World) (mean mg mb) (txt : Str) (at_ : Int) (t1 t2 : Tok) (news : List (Addr × Obj)) (h0 : 0 ≤ at_) (h1 : at_ ≤ txt.length) (h2 : txt.length ≤ 100) (hok : ∀ c ∈ Mine.cs txt, c < 128 ∧ c ≠ 63) :
    callAt w mean mg mb 3 130 news 162 [.str txt t1, .int at_ t2] (optPair (expoAt txt at_) news) := by
  unfold callAt
  intro dp un gd cn cs a ccd cl outer A₀ base h₀ L m s Q E B F X N T hk hd hu hret
  k_extra "my enter"
  k_extra "my steps"
  · obtain ⟨B, hB⟩ : ∃ B : Int, B = at_ + 1 + if ([Str.ofString "+", Str.ofString "-"].any fun x => x == Txt.slice txt (some (at_ + 1)) (some (at_ + 2))) = true then 1 else 0 := ⟨_, rfl⟩
    with_reducible rename Fr _ _ _ _ => kF
    rw [← hB] at kF
    rw [← hB]
    have hE : headIs 101 69 ((Mine.cs txt).drop at_.toNat) = true := by
      rw [← head_e txt h0 (j := at_ + 1) rfl]
      assumption
    have hlen := len_cs txt
    have hlt : at_ + 1 ≤ txt.length := by
      by_cases hx : at_ + 1 ≤ txt.length
      · exact hx
      · rw [List.drop_of_length_le (by omega)] at hE
        cases hE
    rw [head_s txt (by omega) (by omega)] at hB
    obtain ⟨b1, b2, b3, b4, b5⟩ := sign_at txt (by omega) hlt hB
    have b6 := run_len_le ((Mine.cs txt).drop B.toNat)
    rw [List.length_drop] at b6
    have hx := expoAt_e h0 hlt hE b1 b2 b3
    have hm := minus_at h0 hE b1 b2 b4 b5
    k_extra "my steps"
    · with_reducible rename (300 : Int) < _ => hw
      replace hw : (300 : Int) < (wor (run ((Mine.cs txt).drop B.toNat)) : Nat) := hw
      with_reducible rename Fr _ _ _ _ => kF
      with_reducible rename News _ _ _ _ => kN
      refine hret _ _ _ _ ?_ kF (news_sub kN fun p hp => List.mem_cons_of_mem _ (List.mem_cons_of_mem _ hp))
      rw [hx, if_pos (by omega)]
      exact ⟨rfl, rfl⟩
    · with_reducible rename (_ == _) = true => hq
      rw [hm] at hq
      with_reducible rename ¬ (300 : Int) < _ => hw
      with_reducible rename (1 : Int) ≤ _ => hw1
      with_reducible rename _ ≤ (9 : Int) => hw2
      replace hw : ¬ (300 : Int) < (wor (run ((Mine.cs txt).drop B.toNat)) : Nat) := hw
      with_reducible rename Fr _ _ _ _ => kF
      with_reducible rename News _ _ _ _ => kN
      with_reducible rename _ ∧ _ ∧ AllLt _ _ => hlt9
      refine hret _ _ _ _ (optPair_some ?_ (lt_all hlt9.2.2)) kF (news_sub kN (news_drop2 news))
      rw [hx, if_neg (by omega), hq, if_pos rfl, Int.mul_neg_one]
    · with_reducible rename (_ == _) = false => hq
      rw [hm] at hq
      with_reducible rename ¬ (300 : Int) < _ => hw
      with_reducible rename (1 : Int) ≤ _ => hw1
      with_reducible rename _ ≤ (9 : Int) => hw2
      replace hw : ¬ (300 : Int) < (wor (run ((Mine.cs txt).drop B.toNat)) : Nat) := hw
      with_reducible rename Fr _ _ _ _ => kF
      with_reducible rename News _ _ _ _ => kN
      with_reducible rename _ ∧ _ ∧ AllLt _ _ => hlt9
      refine hret _ _ _ _ (optPair_some ?_ (lt_all hlt9.2.2)) kF (news_sub kN (news_drop2 news))
      rw [hx, if_neg (by omega), hq, if_neg (by decide), Int.mul_one]
    · with_reducible rename ¬ _ ≤ (9 : Int) => hw2
      with_reducible rename Fr _ _ _ _ => kF
      with_reducible rename News _ _ _ _ => kN
      refine hret _ _ _ _ ?_ kF (news_sub kN fun p hp => List.mem_cons_of_mem _ (List.mem_cons_of_mem _ hp))
      rw [hx, if_pos (by omega)]
      exact ⟨rfl, rfl⟩
    · with_reducible rename ¬ (1 : Int) ≤ _ => hw2
      with_reducible rename Fr _ _ _ _ => kF
      with_reducible rename News _ _ _ _ => kN
      refine hret _ _ _ _ ?_ kF (news_sub kN fun p hp => List.mem_cons_of_mem _ (List.mem_cons_of_mem _ hp))
      rw [hx, if_pos (by omega)]
      exact ⟨rfl, rfl⟩
  · with_reducible rename List.any _ _ = false => hE
    rw [head_e txt h0 rfl] at hE
    with_reducible rename Fr _ _ _ _ => kF
    with_reducible rename News _ _ _ _ => kN
    with_reducible rename _ ∧ AllLt _ _ => hlt9
    exact hret _ _ _ _ (optPair_some (expoAt_n hE) (lt_all hlt9.2)) kF (news_sub kN (news_drop1 news))

theorem part12_ : True := by w_top off; exact trivial
theorem cls44 (w : World) {h : Heap} (X : (hd.heap_1 w.params).In h) : ∃ nm q N bs sn sub ab col dd k0 k1 k2 k3 k5,
    h.get? 44 = some (excClassObj nm q 44 N bs [.ref 31, .type "Exception", .type "BaseException", .type "object"] true sn sub ab col dd k0 k1 k2 k3 k5 "Exception.__new__") :=
  ⟨_, _, _, _, _, _, _, _, _, _, _, _, _, _, X 44 _ (by rfl)⟩
theorem find44 (w : World) : findIn (hd.heap_1 w.params) (.ref 44) "__init__" = some (some (.ref 28)) := by k_is
theorem fn28 (w : World) : typeIn (hd.heap_1 w.params) (.ref 28) = some (.type "function") := by k_is
theorem sa44 (w : World) : findIn (hd.heap_1 w.params) (.ref 44) "__setattr__" = some (some (.builtin "object.__setattr__")) := by k_is
theorem msg44 (w : World) : findIn (hd.heap_1 w.params) (.ref 44) "message" = some none := by k_is
section
variable {prog : Program} {w : World} {A : Around} {R : Result → Shared → Prop} {h : Heap} {g : Array GenState} {d : Drawn} {t : Nat} {os : OsState}
variable {nm q : Str} {C N : Addr} {bs bm bmB : List Value} {hdct : Bool} {sn : List Str} {sub : List Value} {ab : Bool} {col : Option Bool} {dd : Option Addr} {k0 k1 k2 k3 k5 : Option Value} {Bn newId inN : String} {bmN : List Value}
theorem new_own (Fn : ExcBaseFacts Bn newId inN bmN) (hB : bm.contains (.type Bn) = true) (hA : bm.contains (.type "AttributeError") = false) (hNm : bm.contains (.type "NameError") = false) {rest : List Value} (hC : h.get? C = some (excClassObj nm q C N bs bm hdct sn sub ab col dd k0 k1 k2 k3 k5 newId))
    (hq : R (.ok (.ret (.ref (h.objs.size + 1)))) ⟨(h.push { cls := .type "tuple", data := .seq rest.toArray }).push
      { cls := .ref C, data := .fields #[.ref h.objs.size, .none, .none, .none, .bool false, .none] }, g, d, t, os⟩) (hrest : rest.length ≤ sizeLine := by size_fits) :
    codeAny (model prog w) A (.builtin newId ⟨.ref C :: rest, []⟩) R ⟨h, g, d, t, os⟩ := by
  have hends := Fn.ends
  have hcB : (Value.ref C :: bm).contains (.type Bn) = true := by rw [List.contains_cons, hB, Bool.or_true]
  have hcA : (Value.ref C :: bm).contains (.type "AttributeError") = false := by rw [List.contains_cons, hA]; rfl
  have hcN : (Value.ref C :: bm).contains (.type "NameError") = false := by rw [List.contains_cons, hNm]; rfl
  refine codeAny_builtinAt Fn.entry ?_
  unfold Builtin.«BaseException.__new__»
  refine PySem.wpAt_bind ?_
  show PySem.wpAt _ _ _ (stack >>= _) _ _ _
  refine PySem.wpAt_bind (PySem.wpAt_stack fun p below => PySem.wpAt_of_wpAny ?_)
  wp_walk
  refine PySem.wpAt_of_wpAny ?_
  rw [Fn.owner]
  repeat (first | with_reducible refine wpAny_madeHere_exc Fn.canon hC ?_ | with_reducible refine wpAny_loadPart_at hC ?_ | (with_reducible refine wpAny_isSubtype_exc hC ?_; first | rw [hcB] | rw [hcA] | rw [hcN]) | wp_step)
  show R _ _
  rw [Heap.size_push]
  exact hq
end
/-- a call of the own exception class, up to the call of its __init__ -/
theorem call44 {prog : Program} {w : World} {A : Around} {E : Value → Shared → Prop} {h : Heap} {g : Array GenState} {d : Drawn} {t : Nat} {os : OsState} {rest : List Value} {Q : Value → Shared → Prop} (X : (hd.heap_1 w.params).In h) (hrest : rest.length ≤ sizeLine)
    (hq : wpAny (model prog w) (A.under (.builtin "type.__call__" ⟨.ref 44 :: rest, []⟩)) (call (.ref 28) (.ref (h.objs.size + 1) :: rest)) (fun r s' => r = .none ∧ Q (.ref (h.objs.size + 1)) s') E
      ⟨(h.push { cls := .type "tuple", data := .seq rest.toArray }).push { cls := .ref 44, data := .fields #[.ref h.objs.size, .none, .none, .none, .bool false, .none] }, g, d, t, os⟩) :
    wpAny (model prog w) A (call (.ref 44) rest) Q E ⟨h, g, d, t, os⟩ := by
  obtain ⟨nm, q, N, bs, sn, sub, ab, col, dd, k0, k1, k2, k3, k5, hC⟩ := cls44 w X
  have f1 := tc_lookup
  have f2 := tc_bind (.ref 44)
  have hT : (⟨h, g, d, t, os⟩ : Shared).TypeIs (.ref 44) "type" := ⟨_, hC, rfl⟩
  refine wpAny_call (codeAny_of_tree ?_)
  show wpAny _ _ (callAny (.ref 44) _) _ _ _
  repeat (any_goals (first | assumption | with_reducible refine wpAny_loadPart_at hC ?_ | wp_step))
  refine ⟨rfl, ?_⟩
  refine codeAny_call_builtin_at (Code.quiet_builtin _ (by decide +kernel)) entry_typeCall (wpAny_check_type_call_sub hC ?_)
  repeat (first | with_reducible refine wpAny_loadPart_at hC ?_ | with_reducible refine wpAny_madeBy_exc hC ?_ | wp_step)
  refine codeAny_call_builtin_code (Code.quiet_builtin _ PySem.F.excBase_Exception.quiet) (wpAny_check_new_subU PySem.F.excBase_Exception (bmB := [.ref 31, .type "Exception", .type "BaseException", .type "object"]) (by decide +kernel) .base hC ?_)
  refine new_own PySem.F.excBase_Exception (by decide +kernel) (by decide +kernel) (by decide +kernel) hC ?_ hrest
  show wpAny _ _ _ _ _ _
  have hC₁ := Heap.get?_push_of_some { cls := .ref 44, data := .fields #[.ref h.objs.size, .none, .none, .none, .bool false, .none] }
    (Heap.get?_push_of_some { cls := .type "tuple", data := .seq rest.toArray } hC)
  have X₁ : (hd.heap_1 w.params).In ((h.push { cls := .type "tuple", data := .seq rest.toArray }).push { cls := .ref 44, data := .fields #[.ref h.objs.size, .none, .none, .none, .bool false, .none] }) :=
    X.keeps fun b o e => Heap.get?_push_of_some _ (Heap.get?_push_of_some _ e)
  have hget : ((h.push { cls := .type "tuple", data := .seq rest.toArray }).push
      { cls := .ref 44, data := .fields #[.ref h.objs.size, .none, .none, .none, .bool false, .none] }).get? (h.objs.size + 1) = some
      { cls := .ref 44, data := .fields #[.ref h.objs.size, .none, .none, .none, .bool false, .none] } := by heap_get
  have hcC : (Value.ref 44 :: [Value.ref 31, .type "Exception", .type "BaseException", .type "object"]).contains (.ref 44) = true := by simp
  unfold isInstance
  repeat (first | with_reducible refine wpAny_loadPart_at hget ?_ | (with_reducible refine wpAny_isSubtype_exc hC₁ ?_; rw [hcC]) | wp_step)
  show wpAny _ _ (isSubtype (.ref 44) (.ref 44)) _ _ _
  refine wpAny_isSubtype_exc hC₁ ?_
  rw [hcC]
  repeat wp_step
  show wpAny _ _ (typeLookup (.ref 44) _) _ _ _
  refine (looks_findIn X₁ (find44 w)).here ?_
  refine wpAny_holding (wpAny_bind ?_)
  refine (bind_fn X₁ _ (fn28 w)).here ?_
  refine wpAny_bind ?_
  refine wpAny_mono (show wpAny (model prog w) (A.under (.builtin "type.__call__" ⟨.ref 44 :: rest, []⟩)) (call (.ref 28) (.ref (h.objs.size + 1) :: rest)) _ E
      ⟨(h.push { cls := .type "tuple", data := .seq rest.toArray }).push { cls := .ref 44, data := .fields #[.ref h.objs.size, .none, .none, .none, .bool false, .none] }, g, d, t, os⟩ from hq) (fun r s' hr => ?_) fun _ _ x => x
  obtain ⟨rfl, hQ⟩ := hr
  wp_walk
  exact hQ
theorem fr_but1 {g h h' : Heap} {L x : Addr} {m : Str → Option Value} (F : Fr g L h m) (hk : ∀ b ob, b ≠ x → h.get? b = some ob → h'.get? b = some ob) (hL : L ≠ x) (hg : g.get? x = none) : Fr g L h' m :=
  ⟨F.ns.at' fun o e => hk _ o hL e, fun b o e => hk b o (fun q => by rw [q, hg] at e; cases e) (F.keep b o e), F.above⟩
theorem news_but1 {g h h' : Heap} {L x : Addr} {o o' : Obj} {l : List (Addr × Obj)} (N : News g L h ((x, o) :: l)) (hk : ∀ b ob, b ≠ x → h.get? b = some ob → h'.get? b = some ob) (hx : h'.get? x = some o') (hl : ∀ p ∈ l, p.1 ≠ x) : News g L h' ((x, o') :: l) := fun p hp => by
  rcases List.mem_cons.mp hp with rfl | hp
  · exact ⟨hx, (N _ (.head _)).2⟩
  · have z := N p (.tail _ hp)
    exact ⟨hk _ _ (hl p hp) z.1, z.2⟩
abbrev exO (t : Addr) : Obj := { cls := .ref 44, data := .fields #[.ref t, .none, .none, .none, .bool false, .none] }
abbrev tupO (vs : List Value) : Obj := { cls := .type "tuple", data := .seq vs.toArray }
theorem new_none {h₀ h : Heap} (k : ∀ b o, h₀.get? b = some o → h.get? b = some o) {a : Addr} (ha : h.objs.size ≤ a) : h₀.get? a = none := by
  cases e : h₀.get? a with
  | none => rfl
  | some o => exact absurd (Heap.lt_size (k _ _ e)) (Nat.not_lt.mpr ha)
theorem store44 {prog : Program} {w : World} {A : Around} {E : Value → Shared → Prop} {s : Shared} {x : Addr} {o : Obj} {v : Value} {Q : Unit → Shared → Prop} (X : (hd.heap_1 w.params).In s.heap) (hx : s.heap.get? x = some o) (hc : o.cls = .ref 44) (hdn : o.dict = none) (hnc : notCls o = true) (hfr : o.isFreed = false)
    (hq : ∀ h' tk' od, (∀ b ob, b ≠ x → s.heap.get? b = some ob → h'.get? b = some ob) → h'.get? x = some { o with dict := some s.heap.objs.size } → h'.get? s.heap.objs.size = some od → Q () { s with heap := h', toks := tk' }) :
    wpAny (model prog w) A (setAttr (.ref x) "message" v) Q E s := by
  have I : InstAt s.heap x o 44 none := ⟨hx, hc, hnc, by rw [hdn]; trivial⟩
  refine set_plain X I (sa44 w) ?_
  have SF := PySem.F.store_object
  obtain ⟨nm, q, N, bs, sn, sub, ab, col, dd, k0, k1, k2, k3, k5, hC⟩ := cls44 w X
  obtain ⟨h, g, d, t, os⟩ := s
  dsimp only at I X hC hx hq
  have sub' : Looks (model prog w) h (isInstance (.ref x) (.type "object")) true := I.type.andThen (looks_mroIn X (by k_is))
  refine codeAny_call_builtin SF.slot.plain SF.entry (@check_slot (model prog w) _ _ ⟨h, g, d, t + 1, os⟩ "object.__setattr__" "object" "__setattr__" (.ref x) [.str "message" t, v] [] _ SF.kind SF.split sub' (SF.args (.ref x) (.str "message" t) v) ?_)
  rw [osa_eq, refuse_eq]
  refine wpAny_bind (wpAny_bind (I.type.here (wpAny_bind (wpAny_mroOf_exc hC ?_))))
  rw [refuseLoop_ref, refuseLoop_ref, PySem.F.store_Exception.passes]
  refine wpAny_pure (wpAny_bind (I.type.here (wpAny_bind ((looks_findIn X (msg44 w)).here (wpAny_bind ?_)))))
  refine wpAny_pure ?_
  unfold Builtin.ObjectAttr.storeInOwnDict Builtin.ObjectAttr.ownDictForStores instanceDict
  repeat (first | (with_reducible refine wpAny_loadPart_at hx ?_; (try rw [hc])) | with_reducible refine wpAny_loadPart_at hC ?_ | wp_step)
  rw [hdn, if_neg (by simp [typeHasDict])]
  split
  · rename_i hcd
    cases hcd
  split
  · rename_i c hcd
    unfold notCls at hnc
    rw [hcd] at hnc
    cases hnc
  · have hx₁ : (h.push { cls := .type "dict", data := .dict #[] }).get? x = some o := Heap.get?_push_of_some _ hx
    have hxs : x ≠ h.objs.size := Nat.ne_of_lt (Heap.lt_size hx)
    refine wpAny_bind (wpAny_alloc' ?_)
    refine wpAny_bind (wpAny_update' hx₁ ?_)
    refine wpAny_pure ?_
    have hgd : ((h.push { cls := .type "dict", data := .dict #[] }).update x fun o => { cls := o.cls, dict := some h.objs.size, data := o.data, slots := o.slots }).get? h.objs.size
        = some { cls := .type "dict", data := .dict #[] } :=
      (Heap.get?_update_ne _ _ _ _ hxs.symm).trans (Heap.get?_push_at rfl rfl)
    have hnd : ((h.push { cls := .type "dict", data := .dict #[] }).update x fun o => { cls := o.cls, dict := some h.objs.size, data := o.data, slots := o.slots }).Ns h.objs.size (fun _ => none) :=
      ⟨_, #[], _, hgd, rfl, fun e he => absurd he (by simp), fun _ => rfl⟩
    show wpAny _ _ (Builtin.ObjectAttr.storeInDict h.objs.size (.str "message" t) "message" v) _ _ _
    unfold Builtin.ObjectAttr.storeInDict Builtin.ObjectAttr.newKeyGuard
    refine wpAny_bind (wpAny_pure (wpAny_bind (wpAny_nsSet1 (Heap.Ns1.of_empty hnd) fun h' hn' hs => ?_)))
    obtain ⟨oD, esD, epD, hoD, hdD, hcD⟩ := hn'.count (Within.cons (Str.ofString "message") v Within.nil)
    refine wpAny_bind (wpAny_lookBehind hoD (by rw [hdD]; exact pastItsLine_dict (Nat.le_trans hcD (by rw [List.length_cons, List.length_nil, sizeLine_eq]; omega))) ?_)
    wp_walk
    refine hq h' _ oD (fun b ob hbx hb => ?_) ?_ hoD
    · exact (hs.2 b (Nat.ne_of_lt (Heap.lt_size hb))).trans ((Heap.get?_update_ne _ _ _ _ hbx).trans (Heap.get?_push_of_some _ hb))
    · refine (hs.2 x hxs).trans ((Heap.get?_update_self _ hx₁ ?_).trans ?_)
      · obtain ⟨oc, od, odt, osl⟩ := o
        cases odt <;> first | rfl | exact hfr
      · rfl
theorem news_at {h₀ h : Heap} {L : Addr} {m : Str → Option Value} {news : List (Addr × Obj)} {o : Obj} (F : Fr h₀ L h m) (N : News h₀ L h news) (hf : o.isFreed = false) : Fr h₀ L (h.push o) m ∧ News h₀ L (h.push o) ((h.objs.size, o) :: news) :=
  ⟨F.push _, fun p hp => by
    rcases List.mem_cons.mp hp with rfl | hp
    · exact ⟨Heap.get?_push_size _ hf, Nat.ne_of_gt F.ns.lt, new_none F.keep (Nat.le_refl _)⟩
    · exact ⟨Heap.get?_push_of_some _ (N p hp).1, (N p hp).2⟩⟩
def exPost (news : List (Addr × Obj)) (v : Value) (n : List (Addr × Obj)) : Prop := ∃ e oe vs a0, v = .ref e ∧ n = (e, oe) :: news ∧ (∀ p ∈ news, p.1 < e) ∧ oe.cls = .ref 44 ∧ oe.data = .fields vs ∧ vs[0]? = some a0 ∧ vs[1]? = some .none
theorem fault_C (w : World) (mean mg mb) (msg : Str) (t1 : Tok) (news : List (Addr × Obj)) :
    callAt w mean mg mb 2 16 news 44 [.str msg t1] (exPost news) := by
  unfold callAt
  intro dp un gd cn cs a ccd cl outer A₀ base h₀ L m s Q E B F X N T hk hd hu hret
  obtain ⟨h, g, d, t, os⟩ := s
  have lt1 : ∀ p ∈ news, p.1 < h.objs.size := fun p hp => Heap.lt_size (N p hp).1
  refine call44 (X.keeps F.keep) (by rw [sizeLine_eq, List.length_singleton]; decide) ?_
  obtain ⟨F1, N1⟩ := news_at (o := tupO [.str msg t1]) F N rfl
  obtain ⟨F2, N2⟩ := news_at (o := exO h.objs.size) F1 N1 rfl
  clear F N F1 N1
  have hsz : (h.push (tupO [.str msg t1])).objs.size = h.objs.size + 1 := Heap.size_push _ _
  rw [hsz] at N2
  k_extra "my enter"
  k_extra "my steps"
  with_reducible rename Fr _ _ _ _ => kF
  with_reducible rename News _ _ _ _ => kN
  with_reducible rename Frag.In _ _ => kX
  have z0 := kN _ (.head _)
  refine store44 (kX.keeps kF.keep) z0.1 rfl rfl rfl rfl ?_
  intro h9 tk9 od9 hk9 hx9 hd9
  dsimp only at hk9 hx9 hd9 z0
  have F9 := fr_but1 kF hk9 (Ne.symm z0.2.1) z0.2.2
  have N9 := news_but1 kN hk9 hx9 (fun p hp => by
    rcases List.mem_cons.mp hp with rfl | hp
    · exact Nat.ne_of_lt (Nat.lt_succ_self _)
    · exact Nat.ne_of_lt (Nat.lt_succ_of_lt (lt1 p hp)))
  clear kF kN hk9 hx9 hd9 z0
  k_extra "my steps"
  with_reducible rename Fr _ _ _ _ => kF
  with_reducible rename News _ _ _ _ => kN
  exact hret _ _ _ _ ⟨_, _, _, _, rfl, rfl, fun p hp => Nat.lt_succ_of_lt (lt1 p hp), rfl, rfl, rfl, rfl⟩ kF (news_sub kN (news_drop1 news))
/-- what a raise asks of its value -/
def RaisableO (w : World) (E : Value → Shared → Prop) (v : Value) (s₁ : Shared) : Prop :=
  ∃ e oe vs, (hd.heap_1 w.params).In s₁.heap ∧ v = .ref e ∧ s₁.heap.get? e = some oe ∧ oe.cls = .ref 44 ∧ oe.data = .fields vs ∧ vs[1]? = some .none ∧ E (.ref e) s₁
theorem Raise_own {prog : Program} {w : World} {A : Around} {E : Value → Shared → Prop} {s : Shared} {env : Env} {e : Expr} {pos : Pos} {Q : Flow → Shared → Prop} (hh : A.handled = none)
    (h : wpAny (model prog w) A (eval e env) (RaisableO w E) E s) : wpAny (model prog w) A (exec (.Raise (some e) none pos) env) Q E s := by
  show wpAny (model prog w) A (do standAt pos; raiseStmt env (some (do let v ← eval e env; standAt pos; pure v)) none) Q E s
  refine wpAny_bind (wpAny_standAt ?_)
  unfold raiseStmt
  dsimp only
  refine wpAny_bind (wpAny_bind (wpAny_mono h (fun v s₁ h₁ => wpAny_bind (wpAny_standAt (wpAny_pure ?_))) fun _ _ x => x))
  obtain ⟨a, ob, vs, X, rfl, ha, hcls, hd, h1, hE⟩ := h₁
  obtain ⟨nm, q, N, bs, sn, sub, ab, col, dd, k0, k1, k2, k3, k5, hC⟩ := cls44 w X
  obtain ⟨oc, od, odt, osl⟩ := ob
  dsimp only at hcls hd
  subst hcls hd
  have hcB : (Value.ref 44 :: [Value.ref 31, .type "Exception", .type "BaseException", .type "object"]).contains (.type "BaseException") = true := by decide +kernel
  obtain ⟨hp, g, d, tk, os⟩ := s₁
  dsimp only at ha hC
  repeat (first | with_reducible refine wpAny_loadPart_at ha ?_ | with_reducible refine wpAny_loadPart_at hC ?_ | (with_reducible refine wpAny_isSubtype_exc hC ?_; rw [hcB]) | wp_step)
  rw [h1]
  refine wpAny_pure ?_
  rw [if_neg (by decide)]
  refine wpAny_pure ?_
  exact wpAny_raiseNew_none hh hE
section
variable {M : Model} {A : Around} {E : Value → Shared → Prop} {s' : Shared} {base g : Heap} {outer : List Env} {L a e : Addr} {m : Str → Option Value} {name : Str} {scope : Scope} {cd : Value} {Q : Unit → Shared → Prop} {news : List (Addr × Obj)}
structure KeepL (l : List (Addr × Obj)) : Prop where
theorem leave_own {oe : Obj} {vs : Array Value} {a0 : Value} {keep : List (Addr × Obj)} (_kp : KeepL keep) (K : Below A base outer g) (F : Fr g L s'.heap m) (N : News g L s'.heap ((e, oe) :: news)) (hlt : ∀ p ∈ news, p.1 < e) (hks : ∀ p ∈ keep, p ∈ news) (hd : oe.data = .fields vs) (h0 : vs[0]? = some a0) (h1 : vs[1]? = some .none)
    (hQ : ∀ h', RaisedSN base g outer e oe.cls keep h' → g.UpToSlots h' → Q () { s' with heap := h' }) (hk : scope.kind = .function := by rfl) :
    wpAny M (A.deeper (envOf name scope L a cd)) (leaving (envOf name scope L a cd) (.ref e)) Q E s' := by
  have K' := K.push (name := name) (a := a) (cd := cd) F hk
  have ne := N _ (.head _)
  have hin : ∀ env ∈ (envOf name scope L a cd :: outer), ∀ b, env.frame = some b → b ∈ e :: (envOf name scope L a cd :: outer).filterMap (·.frame) := fun env he b hb => .tail _ (List.mem_filterMap.mpr ⟨env, he, hb⟩)
  have st : base.StaysIn (hideAll s'.heap (e :: (envOf name scope L a cd :: outer).filterMap (·.frame))) := fun b o q => hideAll_get _ (K'.stays b o q) fun hm => by
    rcases List.mem_cons.mp hm with z | hm
    · rw [z, fresh_of_stays K.stays ne.2.2] at q; cases q
    · rw [(K'.frames.mem hm).1] at q; cases q
  have sg : ∀ b o, g.get? b = some o → b ∉ outer.filterMap (·.frame) → (hideAll s'.heap (e :: (envOf name scope L a cd :: outer).filterMap (·.frame))).get? b = some o := fun b o q nm => hideAll_get _ (F.keep b o q) fun hm => by
    rcases List.mem_cons.mp hm with z | hm
    · rw [z, ne.2.2] at q; cases q
    · rcases kts_mem hm with z | z
      · rw [z, kts_self F] at q
        cases q
      · exact nm z
  have hl : ∀ q ∈ keep, (hideAll s'.heap (e :: (envOf name scope L a cd :: outer).filterMap (·.frame))).get? q.1 = some q.2 ∧ g.get? q.1 = none ∧ base.get? q.1 = none := fun q hq => by
    have nq := N q (.tail _ (hks q hq))
    refine ⟨hideAll_get _ nq.1 fun hm => ?_, nq.2.2, fresh_of_stays K.stays nq.2.2⟩
    rcases List.mem_cons.mp hm with z | hm
    · exact absurd z (Nat.ne_of_lt (hlt q (hks q hq)))
    obtain ⟨env, he, hf⟩ := List.mem_filterMap.mp hm
    rcases List.mem_cons.mp he with rfl | he
    · exact nq.2.1 (Option.some.inj hf).symm
    · obtain ⟨o, ho, _⟩ := (K.frames.mem (List.mem_filterMap.mpr ⟨env, he, hf⟩)).2
      rw [nq.2.2] at ho; cases ho
  have hen : (hideAll s'.heap (e :: (envOf name scope L a cd :: outer).filterMap (·.frame))).get? e = none := hideAll_none _ (.head _)
  refine wpAny_leaving_firstW (a0 := a0) K'.stack (funFrames_hide K'.frames hin) rfl ne.1 (fun b o hb => of_hideAll _ hb) hen hd h1 h0 fun h' hL => ?_
  obtain ⟨k1, ⟨_, _, k2⟩, k3, k4⟩ := hL
  exact hQ h' ⟨_, a0, st, sg, hl, k1, hen, k2, k3⟩ ((Heap.UpToSlots.of_keeps F.keep).trans k4)
end
section
variable {prog : Program} {w : World} {A₀ : Around} {E : Value → Shared → Prop} {s' : Shared} {base g g₀ G : Heap} {outer : List Env} {L a e : Addr} {m : Str → Option Value} {name : Str} {scope : Scope} {cd : Value}
  {b₀ : Stmt} {suite : List Stmt} {pos np : Pos} {rest : List ExceptHandler} {Q : Flow → Shared → Prop} {news : List (Addr × Obj)}
  {p : Program} {loose : List Str} {mean : ExcName → Option Value} {mg mb : Str → Option Value} {x : Str}
theorem caught_own (R : RaisedSN base G (envOf name scope L a cd :: outer) e (.ref 44) news s'.heap) (F : Fr g L G m) (K : Below A₀ base outer g) (hsm : G.UpToSlots s'.heap) (XB : (hd.heap_1 w.params).In base) (TB : Top p loose mean mg mb base)
    (D : KtsDicts (outer.filterMap (·.frame)) g) (T0 : KtsTurn (outer.filterMap (·.frame)) g₀ g)
    (ex : nsIn (hd.heap_1 w.params) mainGlobals x = some (some (.ref 44)))
    (k : ∀ h' g', KtsTurn (outer.filterMap (·.frame)) g₀ g' → Fr g' L h' m → News g' L h' news → Below A₀ base outer g' → (hd.heap_1 w.params).In g' → Top p loose mean mg mb g' → KtsDicts (outer.filterMap (·.frame)) g' →
      wpAny (model prog w) ((A₀.deeper (envOf name scope L a cd)).mark (some (.ref e))) (execs (b₀ :: suite) (envOf name scope L a cd)) Q E { s' with heap := h' })
    (hk : scope.kind = .function := by rfl) (hx : (envOf name scope L a cd).kindOf x = some .globalImplicit := by rfl) (hd : (x == ("__debug__" : Str)) = false := by decide)
    (hE : PassesOwnAt (model prog w) ((A₀.deeper (envOf name scope L a cd)).mark (some (.ref e))) (A₀.deeper (envOf name scope L a cd)) (envOf name scope L a cd) E := by passes_own) :
    wpAny (model prog w) (A₀.deeper (envOf name scope L a cd)) (noteFrame (.ref e) (envOf name scope L a cd))
      (fun _ s₂ => wpAny (model prog w) (A₀.deeper (envOf name scope L a cd)) (setFlight (.ref e) none) (fun _ s₃ =>
        wpAny (model prog w) (A₀.deeper (envOf name scope L a cd)) (handleBy (.ref e) (envOf name scope L a cd) (.ExceptHandler (some (.Name x np)) none (b₀ :: suite) pos :: rest)) Q E s₃) E s₂) E s' := by
  obtain ⟨B, a0, hB, hBG, hl, hfl⟩ := R
  have hL : B.get? L = none := by
    obtain ⟨_, ⟨L', _, hf, hn', _⟩, _⟩ := hfl.2.2.1
    obtain rfl : L = L' := Option.some.inj hf
    exact hn'
  refine wpAny_looks_onW (Around.frames_deeper K.stack) rfl hfl fun h₄ hheld₄ hsm₄ => ?_
  refine wpAny_landsW hheld₄ fun h₅ hheld hsm₅' => ?_
  have hsm₅ := hsm₄.trans hsm₅'
  obtain ⟨g₅, T₅, F₅, K₅⟩ := kts_ground K F hBG hheld.1 (hsm.trans hsm₅)
  have X₅ : (Mine.hd.heap_1 w.params).In g₅ := XB.keeps K₅.stays
  have P₅ : TopRead p loose mg mb g₅ := topRead_of (TB.keeps K₅.stays)
  obtain ⟨ob, hob, hobc⟩ := hheld.there
  refine wpAny_handleBy_cons (codeAny_handlers_test (name_K F₅ X₅ P₅ ex ?_ hk hx hd)) (by intro q; cases q)
  obtain ⟨nm, q, N, bs, sn, sub, ab, col, dd, k0, k1, k2, k3, k5, hC⟩ := cls44 w X₅
  refine wpAny_excMatches_sub_self (F₅.keep _ _ hC) hob hobc (by decide +kernel) (codeAny_handlers_suite ?_)
  refine lands_againW hheld fun h₆ hfl₆ hsm₆ => ?_
  obtain ⟨g₆, T₆, F₆, K₆⟩ := kts_ground K F hBG hfl₆.1 ((hsm.trans hsm₅).trans hsm₆)
  have Nl : News g₆ L h₆ news := fun q hq => ⟨hfl₆.1 _ _ (hl q hq).1, (fun z => by have := (hl q hq).1; rw [z, hL] at this; cases this), T₆.none_ _ (kts_none F.keep (hl q hq).2.1)⟩
  have X₆ : (Mine.hd.heap_1 w.params).In g₆ := XB.keeps K₆.stays
  have P₆ : Top p loose mean mg mb g₆ := TB.keeps K₆.stays
  have D₆ : KtsDicts (outer.filterMap (·.frame)) g₆ := D.turn T₆
  exact wpAny_passesOwnAt hE (k h₆ g₆ (T0.trans T₆) F₆ Nl K₆ X₆ P₆ D₆)
end

theorem part13_ : True := by w_top off; exact trivial
theorem mac13a_ : True := by
  (k_with "my stop" => (with_reducible show wpAny _ _ (exec (Stmt.Raise _ _ _) _) _ _ _))
  (k_with "my raise" => (
    (refine Raise_own (by rfl) ?_)
    (k_extra "my steps")
    k_here
    (with_reducible show wpAny _ _ (call (Value.ref 44) [Value.str _ _]) _ _ _)
    (k_dflt (refine' callAt.use (fault_C _ _ _ _ _ _ _) ?kB ?kF ?kX ?kN ?kT ?kK ?kd ?ku ?_))
    (k_extra "my asks")
    (intro v9 n9 h9 tk9 p9 F9 N9)
    (obtain ⟨e9, oe9, vs9, a9, q1, q2, q3, q4, q5, q6, q7⟩ := p9)
    (subst q1; subst q2)
    (with_reducible rename Frag.In _ _ => kX)
    (refine ⟨e9, oe9, vs9, kX.keeps F9.keep, rfl, (N9 _ (.head _)).1, q4, q5, q7, ?_⟩)
    (with_reducible rename Below _ _ _ _ => kB)
    (with_reducible rename KeepL _ => kP)
    (refine leave_own kP kB F9 N9 q3 (fun p hp => by simp [hp]) q5 q6 q7 (fun h9 R9 U9 => ?_))
    (rw [q4] at R9)))
  (k_with "my steps" => repeat' ((fail_if_success k_extra "my stop"); (first | (k_unfold; (try dsimp only)) | (k_end; wrow_close) | walk1 | (dsimp only; walk1) | (dsimp only [List.cons_append, List.nil_append]; walk1) | (leave1; walk_say "STEP leave1"; try dsimp only) | fail "no step")))
  exact trivial
/-- a call that may come back or raise the project's fault -/
def callR (w : World) (mean : ExcName → Option Value) (mg mb : Str → Option Value) (D U : Nat) (news : List (Addr × Obj)) (f : Addr) (args : List Value) (keep : List (Addr × Obj)) (Rz : Prop)
    (Post : Value → (List (Addr × Obj)) → Prop) : Prop :=
  ∀ (dp un : Nat) (gd : Option (List Code)) (cn : Str) (cs : Scope) (a : Addr) (ccd : Value) (outer : List Env) (A₀ : Around) (base h₀ : Heap) (L : Addr) (m : Str → Option Value) (s : Shared) (Q E : Value → Shared → Prop),
    Below A₀ base outer h₀ → Fr h₀ L s.heap m → (hd.heap_1 w.params).In h₀ → News h₀ L s.heap news → Top top (looseW top [Str.ofString "fraction"]) mean mg mb h₀ → cs.kind = .function → dp + D < recursionLimit → un + U < cLine →
    (∀ v news' h' tk', Post v news' → Fr h₀ L h' m → News h₀ L h' news' → Q v { s with heap := h', toks := tk' }) →
    (Rz → ∀ g' e h' tk', Fr h₀ L g' m → RaisedSN base g' (envOf cn cs L a ccd :: outer) e (.ref 44) keep h' → g'.UpToSlots h' → E (.ref e) { s with heap := h', toks := tk' }) →
    wpAny (model PySem.Challenge.rw_on0225_01.row.prog w) (ktrTop dp un gd cn cs L a ccd [] outer) (call (.ref f) args) Q E s
theorem raised_sub {base G : Heap} {l : List Env} {e : Addr} {cls : Value} {k k' : List (Addr × Obj)} {h : Heap} (R : RaisedSN base G l e cls k h) (hs : ∀ p ∈ k', p ∈ k) : RaisedSN base G l e cls k' h := by
  obtain ⟨B, a0, h1, h2, h3, h4⟩ := R
  exact ⟨B, a0, h1, h2, fun q hq => h3 q (hs q hq), h4⟩
theorem callR.sub {w : World} {mean : ExcName → Option Value} {mg mb : Str → Option Value} {D U : Nat} {l l' : List (Addr × Obj)} {f : Addr} {args : List Value} {k k' : List (Addr × Obj)} {Rz : Prop} {Post Post' : Value → (List (Addr × Obj)) → Prop}
    (C : callR w mean mg mb D U l f args k Rz Post) (hs : ∀ p ∈ l, p ∈ l') (hk : ∀ p ∈ k', p ∈ k) (h : ∀ v n, Post v n → ∃ n', (∀ p ∈ n', p ∈ n) ∧ Post' v n') : callR w mean mg mb D U l' f args k' Rz Post' :=
  fun _ _ _ _ _ _ _ _ _ _ _ _ _ _ _ _ B F X N T hk' hd hu ret rais => C _ _ _ _ _ _ _ _ _ _ _ _ _ _ _ _ B F X (fun p hp => N p (hs p hp)) T hk' hd hu (fun v n h' tk' hp F' N' =>
    let ⟨n', h1, h2⟩ := h v n hp
    ret v n' h' tk' h2 F' fun p hp => N' p (h1 p hp)) fun z g' e h' tk' FG R U => rais z g' e h' tk' FG (raised_sub R hk) U
theorem callR.upd {w : World} {mean : ExcName → Option Value} {mg mb : Str → Option Value} {D U : Nat} {l : List (Addr × Obj)} {f : Addr} {args : List Value} {x dx : Addr} {ox od : Obj} {keep : List (Addr × Obj)} {Rz : Prop} {P : Value → Obj → Prop} {g : Obj → List (Addr × Obj)}
    (C : ∀ rest, (∀ p ∈ rest, p.1 ≠ dx) → (@Ne Nat x dx) → callR w mean mg mb D U ((x, ox) :: (dx, od) :: rest) f args rest Rz (fun v n => ∃ o', n = (x, ox) :: (dx, o') :: rest ∧ P v o'))
    (hx : (x, ox) ∈ l) (hne : ox ≠ od) (hU : UpdF dx od l g) (hkp : ∀ p ∈ keep, p ∈ l ∧ p.1 ≠ dx) : callR w mean mg mb D U l f args keep Rz (fun v n => ∃ o', n = g o' ∧ P v o') := by
  obtain ⟨pre, post, rfl, hg, h1, h2⟩ := hU.split
  have hxd : (@Ne Nat x dx) ∧ (x, ox) ∈ pre ++ post := by
    rcases List.mem_append.mp hx with h | h
    · exact ⟨h1 _ h, List.mem_append_left _ h⟩
    · rcases List.mem_cons.mp h with h | h
      · exact absurd (congrArg Prod.snd h) hne
      · exact ⟨h2 _ h, List.mem_append_right _ h⟩
  refine (C (pre ++ post) (fun p hp => (List.mem_append.mp hp).elim (h1 p) (h2 p)) hxd.1).sub (fun p hp => ?_) (fun p hp => ?_) fun v n hp => ?_
  · rcases List.mem_cons.mp hp with rfl | hp
    · exact hx
    · rcases List.mem_cons.mp hp with rfl | hp
      · exact List.mem_append_right _ (.head _)
      · exact (List.mem_append.mp hp).elim (fun h => List.mem_append_left _ h) fun h => List.mem_append_right _ (.tail _ h)
  · obtain ⟨hp1, hp2⟩ := hkp p hp
    rcases List.mem_append.mp hp1 with h | h
    · exact List.mem_append_left _ h
    · rcases List.mem_cons.mp h with rfl | h
      · exact absurd rfl hp2
      · exact List.mem_append_right _ h
  · obtain ⟨o', rfl, hP⟩ := hp
    refine ⟨g o', fun p hp => ?_, o', rfl, hP⟩
    rw [hg o'] at hp
    rcases List.mem_append.mp hp with h | h
    · exact .tail _ (.tail _ (List.mem_append_left _ h))
    · rcases List.mem_cons.mp h with rfl | h
      · exact .tail _ (.head _)
      · exact .tail _ (.tail _ (List.mem_append_right _ h))
theorem oneOf_two {x : Str} {i : Int} {sg : String} {a b : Nat} (h0 : 0 ≤ i) (hs : cs (Str.ofString sg) = [a, b]) : oneOf x i (Str.ofString sg) = headIs a b ((cs x).drop i.toNat) := by
  rw [oneOf_eq h0, hs]
  have e : (cs x)[i.toNat]? = ((cs x).drop i.toNat)[0]? := by rw [List.getElem?_drop]; rfl
  rw [e]
  cases (cs x).drop i.toNat with
  | nil => rfl
  | cons c r => rw [Bool.eq_iff_iff]; simp [headIs]
theorem item_ne (x : Str) {i : Int} (h0 : 0 ≤ i) (h1 : i + 1 ≤ x.length) : (Txt.item x i == Str.ofString "") = false := by
  rw [item_nat x h0 (by omega), beq_eq_false_iff_ne]
  intro q
  have := congrArg (fun y => (cs y).length) q
  have e : (cs (Str.ofString "")).length = 0 := by decide +kernel
  rw [e] at this
  simp at this
theorem S_nil {l : List Nat} (h : (S l == Str.ofString "") = true) : l.length = 0 := by
  have := congrArg (fun y => (cs y).length) (beq_iff_eq.mp h)
  have e : (cs (Str.ofString "")).length = 0 := by decide +kernel
  rw [e] at this
  exact this
theorem S_cons {l : List Nat} (h : (S l == Str.ofString "") = false) : l.length ≠ 0 := by
  intro q
  have : l = [] := by simpa using q
  subst this
  revert h
  decide +kernel
theorem signOf_no {l : List Nat} (h : headIs 43 45 l = false) : (signOf l).1 = false := by
  cases l with
  | nil => rfl
  | cons c r =>
    simp [headIs] at h
    unfold signOf
    split
    · rename_i q; simp at q; exact absurd q.1 h.2
    · rfl
    · rfl
theorem skip_T (w : World) (mean mg mb) (x dx : Addr) (txt : Str) (at_ : Int) (t1 t2 t3 t4) (sg : Str) (t5 : Tok) (news : List (Addr × Obj)) (g : Obj → List (Addr × Obj)) (hx : (x, rdI dx) ∈ news) (hU : UpdF dx (rdr w txt at_ t1 t2 t3 t4) news g) (h0 : 0 ≤ at_) (h2 : txt.length ≤ 100) (hb : oneOf txt at_ sg = true) :
    callAt w mean mg mb 3 24 news 89 [.ref x, .str sg t5]
      (fun v n => ∃ o', n = g o' ∧ ∃ t t', o' = rdr w txt (at_ + 1) t1 t2 t3 t' ∧ v = .str (Txt.item txt at_) t) :=
  (skip_C w mean mg mb x dx txt at_ t1 t2 t3 t4 sg t5 news g hx hU h0 h2).mono fun v n h => by simpa only [hb, if_true] using h
theorem skip_N (w : World) (mean mg mb) (x dx : Addr) (txt : Str) (at_ : Int) (t1 t2 t3 t4) (sg : Str) (t5 : Tok) (news : List (Addr × Obj)) (g : Obj → List (Addr × Obj)) (hx : (x, rdI dx) ∈ news) (hU : UpdF dx (rdr w txt at_ t1 t2 t3 t4) news g) (h0 : 0 ≤ at_) (h2 : txt.length ≤ 100) (hb : oneOf txt at_ sg = false) :
    callAt w mean mg mb 3 24 news 89 [.ref x, .str sg t5]
      (fun v n => ∃ o', n = g o' ∧ ∃ t t', o' = rdr w txt at_ t1 t2 t3 t' ∧ v = .str (S []) t) :=
  (skip_C w mean mg mb x dx txt at_ t1 t2 t3 t4 sg t5 news g hx hU h0 h2).mono fun v n h => by simpa only [hb, Bool.false_eq_true, if_false] using h
theorem mac13b_ : True := by
  (k_with "my call ref" => (k_here; (with_reducible show wpAny _ _ (call (Value.ref 89) [Value.ref _, Value.str _ _]) _ _ _); k_dflt (refine' callAt.use (skip_T _ _ _ _ _ _ _ _ _ _ _ _ _ _ _ _ ?hx ?hU ?h0 ?h2 ?hb) ?kB ?kF ?kX ?kN ?kT ?kK ?kd ?ku ?_); k_extra "my asks"; (case hx => k_mem); (case hU => k_updF); (case h0 => k_extra "my om"); (case h2 => k_extra "my om"); (case hb => assumption); intro v9 n9 h9 tk9 p9 F9 N9; (obtain ⟨o9, e9, t9, u9, e8, e7⟩ := p9); subst e9; subst e8; subst e7; (try dsimp only at N9); (try k_sweep); k_extra "my then"))
  (k_with "my call ref" => (k_here; (with_reducible show wpAny _ _ (call (Value.ref 89) [Value.ref _, Value.str _ _]) _ _ _); k_dflt (refine' callAt.use (skip_N _ _ _ _ _ _ _ _ _ _ _ _ _ _ _ _ ?hx ?hU ?h0 ?h2 ?hb) ?kB ?kF ?kX ?kN ?kT ?kK ?kd ?ku ?_); k_extra "my asks"; (case hx => k_mem); (case hU => k_updF); (case h0 => k_extra "my om"); (case h2 => k_extra "my om"); (case hb => assumption); intro v9 n9 h9 tk9 p9 F9 N9; (obtain ⟨o9, e9, t9, u9, e8, e7⟩ := p9); subst e9; subst e8; subst e7; (try dsimp only at N9); (try k_sweep); k_extra "my then"))
  exact trivial
theorem read_expo_0 (w : World) (mean mg mb) (x dx : Addr) (txt : Str) (at_ : Int) (t1 t2 t3 t4) (rest : List (Addr × Obj)) (hne : @Ne Nat x dx) (hoff : ∀ p ∈ rest, p.1 ≠ dx) (h0 : 0 ≤ at_) (h1 : at_ ≤ txt.length) (h2 : txt.length ≤ 100) :
    callR w mean mg mb 6 60 ((x, rdI dx) :: (dx, rdr w txt at_ t1 t2 t3 t4) :: rest) 117 [.ref x] rest (expoAt txt at_ = none)
      (fun v n => ∃ o', n = (x, rdI dx) :: (dx, o') :: rest ∧ ∃ e k t t', expoAt txt at_ = some (e, k) ∧ o' = rdr w txt k t1 t2 t3 t' ∧ v = .int e t) := by
  unfold callR
  intro dp un gd cn cs a ccd outer A₀ base h₀ L m s Q E B F X N T hk hd hu hret hrais
  have hlen := len_cs txt
  have kp : KeepL rest := ⟨⟩
  cases hE : headIs 101 69 ((Mine.cs txt).drop at_.toNat) with
  | false =>
    have hx := expoAt_n hE
    rw [← oneOf_two (sg := "eE") (a := 101) (b := 69) h0 (by decide +kernel)] at hE
    k_extra "my enter"
    k_extra "my steps"
    all_goals (with_reducible rename Fr _ _ _ _ => kF; with_reducible rename News _ _ _ _ => kN)
    exact hret _ _ _ _ ⟨_, rfl, _, _, _, _, hx, rfl, rfl⟩ kF kN
  | true =>
    have hlt : at_ + 1 ≤ txt.length := by
      by_cases hx : at_ + 1 ≤ txt.length
      · exact hx
      · rw [List.drop_of_length_le (by omega)] at hE
        cases hE
    obtain ⟨B, hB⟩ : ∃ B : Int, B = at_ + 1 + if headIs 43 45 ((Mine.cs txt).drop (at_ + 1).toNat) = true then 1 else 0 := ⟨_, rfl⟩
    obtain ⟨b1, b2, b3, b4, b5⟩ := sign_at txt (by omega) hlt hB
    have b6 := run_len_le ((Mine.cs txt).drop B.toNat)
    rw [List.length_drop] at b6
    have hx := expoAt_e h0 hlt hE b1 b2 b3
    have hm := minus_at h0 hE b1 b2 b4 b5
    have hE1 : oneOf txt at_ (Str.ofString "eE") = true := by rw [oneOf_two (sg := "eE") (a := 101) (b := 69) h0 (by decide +kernel)]; exact hE
    have hi1 := item_ne txt h0 hlt
    cases hS : headIs 43 45 ((Mine.cs txt).drop (at_ + 1).toNat) with
    | true =>
      rw [hS] at hB
      obtain rfl : B = at_ + 1 + 1 := hB
      have hS1 : oneOf txt (at_ + 1) (Str.ofString "+-") = true := by rw [oneOf_two (sg := "+-") (a := 43) (b := 45) (by omega) (by decide +kernel)]; exact hS
      k_extra "my enter"
      k_extra "my steps"
      · with_reducible rename (_ == _) = true => hq
        have hq := S_nil hq
        k_extra "my raise"
        with_reducible rename Fr h₀ L _ m => FG9
        with_reducible rename RaisedSN _ _ _ _ _ _ _ => R9
        with_reducible rename Heap.UpToSlots _ _ => U9
        exact hrais (by rw [hx, if_pos (by omega)]) _ _ _ _ FG9 R9 U9
      · with_reducible rename (9 : Int) < _ => hq
        k_extra "my raise"
        with_reducible rename Fr h₀ L _ m => FG9
        with_reducible rename RaisedSN _ _ _ _ _ _ _ => R9
        with_reducible rename Heap.UpToSlots _ _ => U9
        exact hrais (by rw [hx, if_pos (by omega)]) _ _ _ _ FG9 R9 U9
      · with_reducible rename (300 : Int) < _ => hq
        replace hq : (300 : Int) < (wor (run ((Mine.cs txt).drop (at_ + 1 + 1).toNat)) : Nat) := hq
        k_extra "my raise"
        with_reducible rename Fr h₀ L _ m => FG9
        with_reducible rename RaisedSN _ _ _ _ _ _ _ => R9
        with_reducible rename Heap.UpToSlots _ _ => U9
        exact hrais (by rw [hx, if_pos (by omega)]) _ _ _ _ FG9 R9 U9
      · with_reducible rename (Txt.item _ _ == _) = true => hq
        have hm' := hm.symm.trans (show (Txt.item txt (at_ + 1 + 1 - 1) == Str.ofString "-") = true by rw [show at_ + 1 + 1 - 1 = at_ + 1 by omega]; exact hq)
        with_reducible rename (S (run _) == _) = false => hq1
        have hq1 := S_cons hq1
        with_reducible rename ¬ (9 : Int) < _ => hq2
        with_reducible rename ¬ (300 : Int) < _ => hq3
        replace hq3 : ¬ (300 : Int) < (wor (run ((Mine.cs txt).drop (at_ + 1 + 1).toNat)) : Nat) := hq3
        with_reducible rename Fr _ _ _ _ => kF
        with_reducible rename News _ _ _ _ => kN
        exact hret _ _ _ _ ⟨_, rfl, _, _, _, _, by rw [hx, if_neg (by omega), hm', if_pos rfl], rfl, rfl⟩ kF (news_sub kN fun p hp => .tail _ hp)
      · with_reducible rename (Txt.item _ _ == _) = false => hq
        have hm' := hm.symm.trans (show (Txt.item txt (at_ + 1 + 1 - 1) == Str.ofString "-") = false by rw [show at_ + 1 + 1 - 1 = at_ + 1 by omega]; exact hq)
        with_reducible rename (S (run _) == _) = false => hq1
        have hq1 := S_cons hq1
        with_reducible rename ¬ (9 : Int) < _ => hq2
        with_reducible rename ¬ (300 : Int) < _ => hq3
        replace hq3 : ¬ (300 : Int) < (wor (run ((Mine.cs txt).drop (at_ + 1 + 1).toNat)) : Nat) := hq3
        with_reducible rename Fr _ _ _ _ => kF
        with_reducible rename News _ _ _ _ => kN
        exact hret _ _ _ _ ⟨_, rfl, _, _, _, _, by rw [hx, if_neg (by omega), hm', if_neg (by decide)], rfl, rfl⟩ kF (news_sub kN fun p hp => .tail _ hp)
    | false =>
      rw [hS] at hB
      obtain rfl : B = at_ + 1 := by rw [hB]; simp
      have hS1 : oneOf txt (at_ + 1) (Str.ofString "+-") = false := by rw [oneOf_two (sg := "+-") (a := 43) (b := 45) (by omega) (by decide +kernel)]; exact hS
      have hm' := signOf_no hS
      k_extra "my enter"
      k_extra "my steps"
      · with_reducible rename (_ == _) = true => hq
        have hq := S_nil hq
        k_extra "my raise"
        with_reducible rename Fr h₀ L _ m => FG9
        with_reducible rename RaisedSN _ _ _ _ _ _ _ => R9
        with_reducible rename Heap.UpToSlots _ _ => U9
        exact hrais (by rw [hx, if_pos (by omega)]) _ _ _ _ FG9 R9 U9
      · with_reducible rename (9 : Int) < _ => hq
        k_extra "my raise"
        with_reducible rename Fr h₀ L _ m => FG9
        with_reducible rename RaisedSN _ _ _ _ _ _ _ => R9
        with_reducible rename Heap.UpToSlots _ _ => U9
        exact hrais (by rw [hx, if_pos (by omega)]) _ _ _ _ FG9 R9 U9
      · with_reducible rename (300 : Int) < _ => hq
        replace hq : (300 : Int) < (wor (run ((Mine.cs txt).drop (at_ + 1).toNat)) : Nat) := hq
        k_extra "my raise"
        with_reducible rename Fr h₀ L _ m => FG9
        with_reducible rename RaisedSN _ _ _ _ _ _ _ => R9
        with_reducible rename Heap.UpToSlots _ _ => U9
        exact hrais (by rw [hx, if_pos (by omega)]) _ _ _ _ FG9 R9 U9
      · with_reducible rename (S (run _) == _) = false => hq0
        have hq1 := S_cons hq0
        with_reducible rename ¬ (9 : Int) < _ => hq2
        with_reducible rename ¬ (300 : Int) < _ => hq3
        replace hq3 : ¬ (300 : Int) < (wor (run ((Mine.cs txt).drop (at_ + 1).toNat)) : Nat) := hq3
        with_reducible rename Fr _ _ _ _ => kF
        with_reducible rename News _ _ _ _ => kN
        exact hret _ _ _ _ ⟨_, rfl, _, _, _, _, by rw [hx, if_neg (by omega), hm', if_neg (by decide)], rfl, rfl⟩ kF (news_sub kN fun p hp => .tail _ hp)

theorem part14_ : True := by w_top off; exact trivial
theorem expo_bound {x : Str} {p e k : Int} (h0 : 0 ≤ p) (h1 : p ≤ x.length) (h : expoAt x p = some (e, k)) : -300 ≤ e ∧ e ≤ 300 ∧ p ≤ k ∧ k ≤ x.length := by
  have hl := len_cs x
  cases hE : headIs 101 69 ((cs x).drop p.toNat) with
  | false =>
    rw [expoAt_n hE] at h
    simp only [Option.some.injEq, Prod.mk.injEq] at h
    omega
  | true =>
    have hlt : p + 1 ≤ x.length := by
      by_cases hx : p + 1 ≤ x.length
      · exact hx
      · rw [List.drop_of_length_le (by omega)] at hE
        cases hE
    obtain ⟨B, hB⟩ : ∃ B : Int, B = p + 1 + if headIs 43 45 ((cs x).drop (p + 1).toNat) = true then 1 else 0 := ⟨_, rfl⟩
    obtain ⟨b1, b2, b3, b4, b5⟩ := sign_at x (by omega) hlt hB
    have b6 := run_len_le ((cs x).drop B.toNat)
    rw [List.length_drop] at b6
    rw [expoAt_e h0 hlt hE b1 b2 b3] at h
    split at h
    · cases h
    · simp only [Option.some.injEq, Prod.mk.injEq] at h
      obtain ⟨rfl, rfl⟩ := h
      split <;> omega
theorem read_expo_C (w : World) (mean mg mb) (x dx : Addr) (txt : Str) (at_ : Int) (t1 t2 t3 t4) (news : List (Addr × Obj)) (g : Obj → List (Addr × Obj)) (hx : (x, rdI dx) ∈ news) (hU : UpdF dx (rdr w txt at_ t1 t2 t3 t4) news g) (h0 : 0 ≤ at_) (h1 : at_ ≤ txt.length) (h2 : txt.length ≤ 100) (keep : List (Addr × Obj)) (hkp : ∀ p ∈ keep, p ∈ news ∧ p.1 ≠ dx) :
    callR w mean mg mb 6 60 news 117 [.ref x] keep (expoAt txt at_ = none)
      (fun v n => ∃ o', n = g o' ∧ ∃ e k t t', (expoAt txt at_ = some (e, k) ∧ -300 ≤ e ∧ e ≤ 300 ∧ at_ ≤ k ∧ k ≤ txt.length) ∧ o' = rdr w txt k t1 t2 t3 t' ∧ v = .int e t) :=
  callR.upd (fun rest hoff hne => (read_expo_0 w mean mg mb x dx txt at_ t1 t2 t3 t4 rest hne hoff h0 h1 h2).sub (fun _ h => h) (fun _ h => h) fun v n h => by
    obtain ⟨o', e1, e, k, t, t', e2, e3, e4⟩ := h
    exact ⟨n, fun _ h => h, o', e1, e, k, t, t', ⟨e2, expo_bound h0 h1 e2⟩, e3, e4⟩) hx rd_ne hU hkp
/-- the sign at a text's head -/
theorem skip_sign (w : World) (mean mg mb) (x dx : Addr) (txt : Str) (t1 t2 t3 t4) (t5 : Tok) (news : List (Addr × Obj)) (g : Obj → List (Addr × Obj)) (hx : (x, rdI dx) ∈ news) (hU : UpdF dx (rdr w txt 0 t1 t2 t3 t4) news g) (h2 : txt.length ≤ 100) :
    callAt w mean mg mb 3 24 news 89 [.ref x, .str (Str.ofString "+-") t5]
      (fun v n => ∃ o', n = g o' ∧ ∃ (B : Int) (SG : Str) (t t' : Tok), (0 ≤ B ∧ B ≤ txt.length ∧ (cs txt).drop B.toNat = (signOf (cs txt)).2 ∧ (SG == Str.ofString "-") = (signOf (cs txt)).1 ∧ SG.length ≤ 1) ∧ o' = rdr w txt B t1 t2 t3 t' ∧ v = .str SG t) :=
  (skip_C w mean mg mb x dx txt 0 t1 t2 t3 t4 _ t5 news g hx hU (Int.le_refl 0) h2).mono fun v n h => by
    obtain ⟨o', e1, t, t', e2, e3⟩ := h
    have hO := oneOf_two (x := txt) (i := 0) (sg := "+-") (a := 43) (b := 45) (Int.le_refl 0) (by decide +kernel)
    have z : ((cs txt).drop (0 : Int).toNat) = cs txt := rfl
    obtain ⟨B, hB⟩ : ∃ B : Int, B = 0 + if headIs 43 45 ((cs txt).drop (0 : Int).toNat) = true then 1 else 0 := ⟨_, rfl⟩
    obtain ⟨b1, b2, b3, b4, b5⟩ := sign_at txt (Int.le_refl 0) (by omega) hB
    rw [z] at b3 b4 b5
    rw [hO] at e2 e3
    refine ⟨o', e1, B, _, t, t', ⟨b1, b2, b3, ?_, ?_⟩, ?_, e3⟩
    · cases hS : headIs 43 45 ((cs txt).drop (0 : Int).toNat) with
      | false =>
        rw [if_neg (by decide), signOf_no (by rw [← z]; exact hS)]
        decide +kernel
      | true =>
        rw [hS, if_pos rfl] at hB
        rw [if_pos rfl, item_nat txt (Int.le_refl 0) (by omega)]
        have e : Str.ofString "-" = ⟨#[45]⟩ := by decide +kernel
        rw [e]
        have hB0 : B.toNat - 1 = (0 : Int).toNat := by omega
        rw [hB0] at b4 b5
        cases hs : (signOf (cs txt)).1 with
        | true => rw [(b4 hs).2]; exact beq_iff_eq.mpr rfl
        | false => rw [b5 hs (by omega)]; rw [beq_eq_false_iff_ne]; decide
    · split
      · rename_i hS
        have : (0 : Int) < txt.length := by rw [← hO] at hS; exact oneOf_lt hS
        rw [item_nat txt (Int.le_refl 0) this]
        exact Nat.le_refl 1
      · exact Nat.zero_le 1
    · rw [e2, hB]
      split <;> rfl
theorem skip_dot (w : World) (mean mg mb) (x dx : Addr) (txt : Str) (at_ : Int) (t1 t2 t3 t4) (t5 : Tok) (news : List (Addr × Obj)) (g : Obj → List (Addr × Obj)) (hx : (x, rdI dx) ∈ news) (hU : UpdF dx (rdr w txt at_ t1 t2 t3 t4) news g) (h0 : 0 ≤ at_) (h2 : txt.length ≤ 100) :
    callAt w mean mg mb 3 24 news 89 [.ref x, .str (Str.ofString ".") t5]
      (fun v n => ∃ o', n = g o' ∧ ∃ (t t' : Tok), (oneOf txt at_ (Str.ofString ".") = true ∧ (Txt.item txt at_ != Str.ofString "") = true ∧ at_ + 1 ≤ txt.length ∧ o' = rdr w txt (at_ + 1) t1 t2 t3 t' ∧ v = .str (Txt.item txt at_) t) ∨
        (oneOf txt at_ (Str.ofString ".") = false ∧ (S [] != Str.ofString "") = false ∧ o' = rdr w txt at_ t1 t2 t3 t' ∧ v = .str (S []) t)) :=
  (skip_C w mean mg mb x dx txt at_ t1 t2 t3 t4 _ t5 news g hx hU h0 h2).mono fun v n h => by
    obtain ⟨o', e1, t, t', e2, e3⟩ := h
    refine ⟨o', e1, t, t', ?_⟩
    cases hb : oneOf txt at_ (Str.ofString ".") with
    | true =>
      have hl := oneOf_lt hb
      rw [hb, if_pos rfl] at e2 e3
      exact .inl ⟨rfl, by rw [bne, item_ne txt h0 (by omega)]; rfl, by omega, e2, e3⟩
    | false =>
      rw [hb, if_neg (by decide)] at e2 e3
      exact .inr ⟨rfl, by decide +kernel, e2, e3⟩
theorem digits_D (w : World) (mean mg mb) (x dx : Addr) (txt : Str) (at_ : Int) (t1 t2 t3 t4) (news : List (Addr × Obj)) (g : Obj → List (Addr × Obj)) (hx : (x, rdI dx) ∈ news) (hU : UpdF dx (rdr w txt at_ t1 t2 t3 t4) news g) (h0 : 0 ≤ at_) (h1 : at_ ≤ txt.length) (h2 : txt.length ≤ 100) :
    callAt w mean mg mb 3 24 news 96 [.ref x]
      (fun v n => ∃ o', n = g o' ∧ ∃ (d : List Nat) (t t' : Tok), (d = run ((cs txt).drop at_.toNat) ∧ at_ + d.length ≤ txt.length ∧ ∀ c ∈ d, isD c = true) ∧ o' = rdr w txt (at_ + d.length) t1 t2 t3 t' ∧ v = .str (S d) t) :=
  (digits_C w mean mg mb x dx txt at_ t1 t2 t3 t4 news g hx hU h0 h1 h2).mono fun v n h => by
    obtain ⟨o', e1, t, t', e2, e3⟩ := h
    have := run_len_le ((cs txt).drop at_.toNat)
    rw [List.length_drop, ← len_cs] at this
    exact ⟨o', e1, _, t, t', ⟨rfl, by omega, run_all⟩, e2, e3⟩
theorem add_SS {prog : Program} {w : World} {A : Around} {E : Value → Shared → Prop} {s : Shared} {a b : List Nat} {t u : Tok} {Q : Value → Shared → Prop} (hf : a.length + b.length ≤ 10000) (h : ∀ t' tk, Q (.str (S (a ++ b)) t') { s with toks := tk }) :
    wpAny (model prog w) A (binaryOp .Add (.str (S a) t) (.str (S b) u)) Q E s := by
  have e : S a ++ S b = S (a ++ b) := Str.ext' (by show a.toArray ++ b.toArray = (a ++ b).toArray; simp)
  exact PyProof.Rows.add_str (fun t' tk => e ▸ h t' tk) (by rw [len_S, len_S, sizeLine_eq]; omega)
theorem add_S0 {prog : Program} {w : World} {A : Around} {E : Value → Shared → Prop} {s : Shared} {a : List Nat} {t u : Tok} {Q : Value → Shared → Prop} (hf : a.length ≤ 10000) (h : ∀ t' tk, Q (.str (S (a ++ [])) t') { s with toks := tk }) :
    wpAny (model prog w) A (binaryOp .Add (.str (S a) t) (.str (Str.ofString "") u)) Q E s := by
  have e : Str.ofString "" = S [] := by decide +kernel
  rw [e]
  exact add_SS (by simpa using hf) h
theorem app_len {a b : List Nat} {n : Nat} (h : a.length + b.length ≤ n) : (S (a ++ b)).length ≤ n := by rw [len_S, List.length_append]; exact h
theorem app_figs {a b : List Nat} (ha : ∀ c ∈ a, isD c = true) (hb : ∀ c ∈ b, isD c = true) : ∀ c ∈ cs (S (a ++ b)), isD c = true := fun c hc => (List.mem_append.mp hc).elim (ha c) (hb c)
theorem callR.use {w : World} {mean : ExcName → Option Value} {mg mb : Str → Option Value} {D U : Nat} {news : List (Addr × Obj)} {f : Addr} {args : List Value} {keep : List (Addr × Obj)} {Rz : Prop} {Post : Value → (List (Addr × Obj)) → Prop} {dp un : Nat} {gd : Option (List Code)} {cn : Str} {cs : Scope} {a : Addr} {ccd : Value} {outer : List Env} {A₀ : Around} {base h₀ : Heap} {L : Addr} {m : Str → Option Value} {s : Shared} {Q E : Value → Shared → Prop}
    (C : callR w mean mg mb D U news f args keep Rz Post) (B : Below A₀ base outer h₀) (F : Fr h₀ L s.heap m) (X : (hd.heap_1 w.params).In h₀) (N : News h₀ L s.heap news) (T : Top top (looseW top [Str.ofString "fraction"]) mean mg mb h₀) (hk : cs.kind = .function) (hd : dp + D < recursionLimit) (hu : un + U < cLine)
    (rais : Rz → ∀ g' e h' tk', Fr h₀ L g' m → RaisedSN base g' (envOf cn cs L a ccd :: outer) e (.ref 44) keep h' → g'.UpToSlots h' → E (.ref e) { s with heap := h', toks := tk' })
    (ret : ∀ v news' h' tk', Post v news' → Fr h₀ L h' m → News h₀ L h' news' → Q v { s with heap := h', toks := tk' }) :
    wpAny (model PySem.Challenge.rw_on0225_01.row.prog w) (ktrTop dp un gd cn cs L a ccd [] outer) (call (.ref f) args) Q E s := C _ _ _ _ _ _ _ _ _ _ _ _ _ _ _ _ B F X N T hk hd hu ret rais
theorem keep_at {keep l : List (Addr × Obj)} {dx : Addr} (_kp : KeepL keep) (h1 : ∀ p ∈ keep, p ∈ l) (h2 : ∀ p ∈ keep, p.1 ≠ dx) : ∀ p ∈ keep, p ∈ l ∧ p.1 ≠ dx := fun p hp => ⟨h1 p hp, h2 p hp⟩
theorem mac14a_ : True := by
  (k_with "my keep" => (refine keep_at (by assumption) (fun p hp => by simp [hp]) ?_; assumption))
  (k_with "my call ref" => (k_here; (with_reducible show wpAny _ _ (call (Value.ref 117) [Value.ref _]) _ _ _); k_dflt (refine' callR.use (read_expo_C _ _ _ _ _ _ _ _ _ _ _ _ _ _ ?hx ?hU ?h0 ?h1 ?h2 _ ?hkp) ?kB ?kF ?kX ?kN ?kT ?kK ?kd ?ku ?_ ?_); k_extra "my asks"; (case hx => k_mem); (case hU => k_updF); (case h0 => k_extra "my om"); (case h1 => k_extra "my om"); (case h2 => k_extra "my om"); (case hkp => k_extra "my keep"); rotate_left; (intro v9 n9 h9 tk9 p9 F9 N9; (obtain ⟨o9, e9, x9, k9, t9, u9, ⟨y9, y8, y7, y6, y5⟩, e8, e7⟩ := p9); subst e9; subst e8; subst e7; (try dsimp only at N9); (try k_sweep); k_extra "my then")))
  exact trivial
theorem reader_C (w : World) (mean mg mb) (txt : Str) (t1 : Tok) (news : List (Addr × Obj)) :
    callAt w mean mg mb 2 16 news 99 [.str txt t1] (fun v n => ∃ x dx u1 u2 u3, v = .ref x ∧ n = (x, rdI dx) :: (dx, rdr w txt 0 u1 t1 u2 u3) :: news ∧ (∀ p ∈ news, p.1 < dx) ∧ dx < x) := by
  unfold callAt
  intro dp un gd cn cs a ccd cl outer A₀ base h₀ L m s Q E B F X N T hk hd hu hret
  refine' call_cls ?k1 ?k2 ?k3 ?k4 ?k5 ?k6 ?_
  (case k1 => k_asm)
  (case k2 => k_asm)
  (case k3 => k_asm)
  (case k4 => k_is)
  (case k5 => k_is)
  (case k6 => k_is)
  k_whole
  intro x' d' h' F' N' l1 l2
  clear F N
  have hoff : ∀ p ∈ news, p.1 ≠ d' := fun p hp => Nat.ne_of_lt (l1 p hp)
  have hne : (@Ne Nat x' d') := Nat.ne_of_gt l2
  k_dflt cell_enter
  k_extra "my steps"
  with_reducible rename Fr _ _ _ _ => kF
  with_reducible rename News _ _ _ _ => kN
  exact hret _ _ _ _ ⟨_, _, _, _, _, rfl, rfl, l1, l2⟩ kF kN
theorem mac14b_ : True := by
  (k_with "my call ref" => (k_here; (with_reducible show wpAny _ _ (call (Value.ref 99) [Value.str _ _]) _ _ _); k_dflt (refine' callAt.use (reader_C _ _ _ _ _ _ _) ?kB ?kF ?kX ?kN ?kT ?kK ?kd ?ku ?_); k_extra "my asks"; (intro v9 n9 h9 tk9 p9 F9 N9; (obtain ⟨x9, d9, a9, b9, c9, e8, e7, q9, r9⟩ := p9); subst e8; subst e7; (have q8 := fun p hp => Nat.ne_of_lt (q9 p hp)); (have r8 := Nat.ne_of_gt r9); (try k_sweep); k_extra "my then")))
  exact trivial
theorem mac14c_ : True := by
  (k_with "my call ref" => (k_here; (with_reducible show wpAny _ _ (call (Value.ref 96) [Value.ref _]) _ _ _); k_dflt (refine' callAt.use (digits_D _ _ _ _ _ _ _ _ _ _ _ _ _ _ ?hx ?hU ?h0 ?h1 ?h2) ?kB ?kF ?kX ?kN ?kT ?kK ?kd ?ku ?_); k_extra "my asks"; (case hx => k_mem); (case hU => k_updF); (case h0 => k_extra "my om"); (case h1 => k_extra "my om"); (case h2 => k_extra "my om"); intro v9 n9 h9 tk9 p9 F9 N9; (obtain ⟨o9, e9, d9, t9, u9, ⟨y9, y8, y7⟩, e8, e7⟩ := p9); subst e9; subst e8; subst e7; (try dsimp only at N9); (try k_sweep); k_extra "my then"))
  (k_with "my call ref" => (k_here; (with_reducible show wpAny _ _ (call (Value.ref 89) [Value.ref _, Value.str (Str.ofString "+-") _]) _ _ _); k_dflt (refine' callAt.use (skip_sign _ _ _ _ _ _ _ _ _ _ _ _ _ _ ?hx ?hU ?h2) ?kB ?kF ?kX ?kN ?kT ?kK ?kd ?ku ?_); k_extra "my asks"; (case hx => k_mem); (case hU => k_updF); (case h2 => k_extra "my om"); intro v9 n9 h9 tk9 p9 F9 N9; (obtain ⟨o9, e9, B9, G9, t9, u9, ⟨y9, y8, y7, y6, y5⟩, e8, e7⟩ := p9); subst e9; subst e8; subst e7; (try dsimp only at N9); (try k_sweep); k_extra "my then"))
  (k_with "my call ref" => (k_here; (with_reducible show wpAny _ _ (call (Value.ref 89) [Value.ref _, Value.str (Str.ofString ".") _]) _ _ _); k_dflt (refine' callAt.use (skip_dot _ _ _ _ _ _ _ _ _ _ _ _ _ _ _ ?hx ?hU ?h0 ?h2) ?kB ?kF ?kX ?kN ?kT ?kK ?kd ?ku ?_); k_extra "my asks"; (case hx => k_mem); (case hU => k_updF); (case h0 => k_extra "my om"); (case h2 => k_extra "my om"); intro v9 n9 h9 tk9 p9 F9 N9; (obtain ⟨o9, e9, t9, u9, ⟨y9, y8, y7, e8, e7⟩ | ⟨y9, y8, e8, e7⟩⟩ := p9 <;> (subst e9; subst e8; subst e7; (try dsimp only at N9); (try k_sweep); k_extra "my then"))))
  (k_with "my binaryOp Add str str" => ((with_reducible show wpAny _ _ (binaryOp Operator.Add (Value.str (S _) _) (Value.str (S _) _)) _ _ _); refine add_SS (by k_extra "my om") ?_; intro _ _))
  (k_with "my binaryOp Add str str" => ((with_reducible show wpAny _ _ (binaryOp Operator.Add (Value.str (S _) _) (Value.str (Str.ofString "") _)) _ _ _); refine add_S0 (by k_extra "my om") ?_; intro _ _))
  (k_with "my figs" => first | assumption | exact run_all | exact app_figs (by assumption) (by assumption) | exact app_figs (by assumption) (fun _ h => nomatch h))
  exact trivial
theorem pow10_pos (n : Nat) : (0 : Int) < 10 ^ n := Int.pow_pos (by decide)
theorem pow10_small {n : Nat} (h : n ≤ 500) : ((10 : Int) ^ n).natAbs < 2 ^ 2000 := by
  rw [Int.natAbs_pow]
  exact Nat.lt_of_le_of_lt (Nat.pow_le_pow_right (by decide) h) (by decide +kernel)
theorem mul10_ok {a : Int} {n : Nat} (ha : a.natAbs < 10 ^ 200) (hn : n ≤ 500) : IntMulOk a (10 ^ n) :=
  IntMulOk.of_le (m := 1000) (n := 2000) (intBits_le_iff.mpr (Nat.lt_of_lt_of_le ha (by decide +kernel))) (intBits_le_iff.mpr (pow10_small hn)) (by decide)
theorem small_app {a b : List Nat} (ha : ∀ c ∈ a, isD c = true) (hb : ∀ c ∈ b, isD c = true) (hl : a.length + b.length ≤ 200) : ((wor (cs (S (a ++ b))) : Nat) : Int).natAbs < 10 ^ 200 := by
  rw [Int.natAbs_natCast]
  refine Nat.lt_of_lt_of_le (wor_lt _ (app_figs ha hb)) (Nat.pow_le_pow_right (by decide) ?_)
  show (a ++ b).length ≤ 200
  rw [List.length_append]; exact hl
theorem small_neg {a : Int} {n : Nat} (h : a.natAbs < n) : (-a).natAbs < n := by rw [Int.natAbs_neg]; exact h
theorem mac14d_ : True := by
  (k_with "my small" => first | exact small_app (by assumption) (by assumption) (by k_extra "my om") | exact small_app (by assumption) (fun _ h => nomatch h) (by simp only [List.length_nil]; k_extra "my om") | exact small_neg (small_app (by assumption) (by assumption) (by k_extra "my om")) | exact small_neg (small_app (by assumption) (fun _ h => nomatch h) (by simp only [List.length_nil]; k_extra "my om")))
  (k_with "my binaryOp Mult int int" => ((with_reducible show wpAny _ _ (binaryOp Operator.Mult (Value.int _ _) (Value.int (10 ^ _) _)) _ _ _); refine PyProof.Rows.mul_int ?_ (mul10_ok (by k_extra "my small") (by k_extra "my om"))))
  (k_with "my call ref" => (k_here; (with_reducible show wpAny _ _ (call (Value.ref 61) [Value.int _ _, Value.int (10 ^ _) _]) _ _ _); k_dflt (refine' callAt.use (fraction_C _ _ _ _ _ _ _ _ _ ?hb ?hs) ?kB ?kF ?kX ?kN ?kT ?kK ?kd ?ku ?_); k_extra "my asks"; (case hb => exact pow10_pos _); (case hs => exact pow10_small (by k_extra "my om")); intro v9 n9 h9 tk9 p9 F9 N9; (obtain ⟨l9, ta9, tb9, e8, q9, e9⟩ := p9); subst e9; subst e8; (try k_lt q9); (try k_sweep); k_extra "my then"))
  exact trivial
/-- the fraction in lowest terms -/
def quot (neg : Bool) (n : Nat) (size : Int) : Int × Int :=
  let top : Int := (n : Int) * 10 ^ (max 0 size).toNat * (if neg then -1 else 1)
  let bot : Int := 10 ^ (max 0 (0 - size)).toNat
  (top.fdiv (Nat.gcd top.natAbs bot.toNat), bot.fdiv (Nat.gcd top.natAbs bot.toNat))
/-- a whole text's decimal -/
def deciAt (x : Str) : Option (Int × Int) :=
  let q := signOf (cs x)
  let B : Int := (cs x).length - q.2.length
  let d := run q.2
  let dot := oneOf x (B + d.length) (Str.ofString ".")
  let d2 := if dot then run ((cs x).drop (B + d.length + 1).toNat) else []
  let P := if dot then B + d.length + 1 + d2.length else B + d.length
  match expoAt x P with
  | none => none
  | some (e, k) => if (d ++ d2).length = 0 ∨ k ≠ x.length then none else some (quot q.1 (wor (d ++ d2)) (e - d2.length))
theorem deciAt_eq {x : Str} {B P : Int} {d d2 : List Nat} (h0 : 0 ≤ B) (h1 : B ≤ x.length) (hB : (cs x).drop B.toNat = (signOf (cs x)).2) (hd : d = run ((cs x).drop B.toNat))
    (hP : (oneOf x (B + d.length) (Str.ofString ".") = true ∧ d2 = run ((cs x).drop (B + d.length + 1).toNat) ∧ P = B + d.length + 1 + d2.length) ∨ (oneOf x (B + d.length) (Str.ofString ".") = false ∧ d2 = [] ∧ P = B + d.length)) :
    deciAt x = match expoAt x P with
      | none => none
      | some (e, k) => if (d ++ d2).length = 0 ∨ k ≠ x.length then none else some (quot (signOf (cs x)).1 (wor (d ++ d2)) (e - d2.length)) := by
  have hl := len_cs x
  have hb : (((cs x).length : Nat) : Int) - ((signOf (cs x)).2.length : Nat) = B := by
    rw [← hB, List.length_drop]; omega
  unfold deciAt
  simp only [hb]
  rw [← hB, ← hd]
  rcases hP with ⟨a, b, c⟩ | ⟨a, b, c⟩
  · simp only [a, if_true, ← b, ← c]
  · simp only [a, Bool.false_eq_true, if_false]
    rw [b, ← c]
theorem quot_lt {neg : Bool} {n : Nat} {size t : Int} (h : size < 0) (ht : t = if neg then -(n : Int) else n) :
    quot neg n size = (t.fdiv (Nat.gcd t.natAbs ((10 : Int) ^ (-size).toNat).toNat), ((10 : Int) ^ (-size).toNat).fdiv (Nat.gcd t.natAbs ((10 : Int) ^ (-size).toNat).toNat)) := by
  have e1 : (max 0 size).toNat = 0 := by omega
  have e2 : (max 0 (0 - size)).toNat = (-size).toNat := by omega
  have e3 : (n : Int) * 10 ^ 0 * (if neg then -1 else 1) = t := by
    rw [ht]
    cases neg <;> simp
  simp only [quot, e1, e2, e3]
theorem quot_ge {neg : Bool} {n : Nat} {size t : Int} (h : 0 ≤ size) (ht : t = if neg then -(n : Int) else n) : quot neg n size = (t * 10 ^ size.toNat, 1) := by
  have e1 : (max 0 size).toNat = size.toNat := by omega
  have e2 : (max 0 (0 - size)).toNat = 0 := by omega
  have e3 : (n : Int) * 10 ^ size.toNat * (if neg then -1 else 1) = t * 10 ^ size.toNat := by
    rw [ht]
    cases neg <;> simp [Int.neg_mul]
  simp only [quot, e1, e2, e3]
  have e4 : ((10 : Int) ^ 0).toNat = 1 := by decide
  rw [e4, Nat.gcd_one_right]
  simp
theorem read_dec_C (w : World) (mean mg mb) (txt : Str) (t1 : Tok) (news : List (Addr × Obj)) (h2 : txt.length ≤ 100) :
    callR w mean mg mb 10 200 news 124 [.str txt t1] news (deciAt txt = none) (fun v n => ∃ p l ta tb, deciAt txt = some p ∧ v = .ref l ∧ (∀ q ∈ news, q.1 < l) ∧ n = (l, tup2 (.int p.1 ta) (.int p.2 tb)) :: news) := by
  unfold callR
  intro dp un gd cn cs a ccd outer A₀ base h₀ L m s Q E B F X N T hk hd hu hret hrais
  have hlen := len_cs txt
  have kp : KeepL news := ⟨⟩
  k_extra "my enter"
  k_extra "my steps"
  · with_reducible rename List.drop _ _ = (signOf _).2 => zB
    with_reducible rename oneOf _ _ _ = true => zD
    with_reducible rename (_ == _) = (signOf _).1 => zS
    with_reducible rename _ = run _ => zd2
    revert zd2
    with_reducible rename _ = run _ => zd
    intro zd2
    have zx := deciAt_eq (by assumption) (by assumption) zB zd (.inl ⟨zD, zd2, rfl⟩)
    with_reducible rename (S (_ ++ _) == _) = true => hq
    have hq := S_nil hq
    k_extra "my raise"
    with_reducible rename Fr h₀ L _ m => FG9
    with_reducible rename RaisedSN _ _ _ _ _ _ _ => R9
    with_reducible rename Heap.UpToSlots _ _ => U9
    exact hrais (by rw [zx]; split <;> first | rfl | exact if_pos (.inl hq)) _ _ _ _ FG9 R9 U9
  · with_reducible rename List.drop _ _ = (signOf _).2 => zB
    with_reducible rename oneOf _ _ _ = true => zD
    with_reducible rename (_ == _) = (signOf _).1 => zS
    with_reducible rename _ = run _ => zd2
    revert zd2
    with_reducible rename _ = run _ => zd
    intro zd2
    have zx := deciAt_eq (by assumption) (by assumption) zB zd (.inl ⟨zD, zd2, rfl⟩)
    with_reducible rename expoAt _ _ = some _ => zE
    with_reducible rename _ < ((txt.length : Nat) : Int) => hq
    k_extra "my raise"
    with_reducible rename Fr h₀ L _ m => FG9
    with_reducible rename RaisedSN _ _ _ _ _ _ _ => R9
    with_reducible rename Heap.UpToSlots _ _ => U9
    exact hrais (by rw [zx]; simp only [zE]; exact if_pos (.inr (by omega))) _ _ _ _ FG9 R9 U9
  · with_reducible rename List.drop _ _ = (signOf _).2 => zB
    with_reducible rename oneOf _ _ _ = true => zD
    with_reducible rename (_ == _) = (signOf _).1 => zS
    with_reducible rename _ = run _ => zd2
    revert zd2
    with_reducible rename _ = run _ => zd
    intro zd2
    have zx := deciAt_eq (by assumption) (by assumption) zB zd (.inl ⟨zD, zd2, rfl⟩)
    with_reducible rename expoAt _ _ = some _ => zE
    with_reducible rename ¬ _ < ((txt.length : Nat) : Int) => hq
    with_reducible rename (S (_ ++ _) == _) = false => hn
    have hn := S_cons hn
    with_reducible rename (_ == Str.ofString "-") = true => hg
    rw [zS] at hg
    with_reducible rename _ < (0 : Int) => hz
    with_reducible rename Fr _ _ _ _ => kF
    with_reducible rename News _ _ _ _ => kN
    with_reducible rename _ ∧ _ ∧ _ ∧ AllLt _ _ => zl
    refine hret _ _ _ _ ⟨(_, _), _, _, _, ?_, rfl, lt_all zl.2.2.2, rfl⟩ kF (news_sub kN fun p hp => (List.mem_cons.mp hp).elim (fun e => e ▸ .head _) fun hp => by simp [hp])
    rw [zx]
    simp only [zE]
    rw [if_neg (by omega), quot_lt hz rfl, hg]
    rfl
  · with_reducible rename List.drop _ _ = (signOf _).2 => zB
    with_reducible rename oneOf _ _ _ = true => zD
    with_reducible rename (_ == _) = (signOf _).1 => zS
    with_reducible rename _ = run _ => zd2
    revert zd2
    with_reducible rename _ = run _ => zd
    intro zd2
    have zx := deciAt_eq (by assumption) (by assumption) zB zd (.inl ⟨zD, zd2, rfl⟩)
    with_reducible rename expoAt _ _ = some _ => zE
    with_reducible rename ¬ _ < ((txt.length : Nat) : Int) => hq
    with_reducible rename (S (_ ++ _) == _) = false => hn
    have hn := S_cons hn
    with_reducible rename (_ == Str.ofString "-") = true => hg
    rw [zS] at hg
    with_reducible rename ¬ _ < (0 : Int) => hz
    with_reducible rename Fr _ _ _ _ => kF
    with_reducible rename News _ _ _ _ => kN
    with_reducible rename _ ∧ _ ∧ _ ∧ AllLt _ _ => zl
    refine hret _ _ _ _ ⟨(_, _), _, _, _, ?_, rfl, lt_all zl.2.2.2, rfl⟩ kF (news_sub kN fun p hp => (List.mem_cons.mp hp).elim (fun e => e ▸ .head _) fun hp => by simp [hp])
    rw [zx]
    simp only [zE]
    rw [if_neg (by omega), quot_ge (by omega) rfl, hg]
    rfl
  · with_reducible rename List.drop _ _ = (signOf _).2 => zB
    with_reducible rename oneOf _ _ _ = true => zD
    with_reducible rename (_ == _) = (signOf _).1 => zS
    with_reducible rename _ = run _ => zd2
    revert zd2
    with_reducible rename _ = run _ => zd
    intro zd2
    have zx := deciAt_eq (by assumption) (by assumption) zB zd (.inl ⟨zD, zd2, rfl⟩)
    with_reducible rename expoAt _ _ = some _ => zE
    with_reducible rename ¬ _ < ((txt.length : Nat) : Int) => hq
    with_reducible rename (S (_ ++ _) == _) = false => hn
    have hn := S_cons hn
    with_reducible rename (_ == Str.ofString "-") = false => hg
    rw [zS] at hg
    with_reducible rename _ < (0 : Int) => hz
    with_reducible rename Fr _ _ _ _ => kF
    with_reducible rename News _ _ _ _ => kN
    with_reducible rename _ ∧ _ ∧ _ ∧ AllLt _ _ => zl
    refine hret _ _ _ _ ⟨(_, _), _, _, _, ?_, rfl, lt_all zl.2.2.2, rfl⟩ kF (news_sub kN fun p hp => (List.mem_cons.mp hp).elim (fun e => e ▸ .head _) fun hp => by simp [hp])
    rw [zx]
    simp only [zE]
    rw [if_neg (by omega), quot_lt hz rfl, hg]
    rfl
  · with_reducible rename List.drop _ _ = (signOf _).2 => zB
    with_reducible rename oneOf _ _ _ = true => zD
    with_reducible rename (_ == _) = (signOf _).1 => zS
    with_reducible rename _ = run _ => zd2
    revert zd2
    with_reducible rename _ = run _ => zd
    intro zd2
    have zx := deciAt_eq (by assumption) (by assumption) zB zd (.inl ⟨zD, zd2, rfl⟩)
    with_reducible rename expoAt _ _ = some _ => zE
    with_reducible rename ¬ _ < ((txt.length : Nat) : Int) => hq
    with_reducible rename (S (_ ++ _) == _) = false => hn
    have hn := S_cons hn
    with_reducible rename (_ == Str.ofString "-") = false => hg
    rw [zS] at hg
    with_reducible rename ¬ _ < (0 : Int) => hz
    with_reducible rename Fr _ _ _ _ => kF
    with_reducible rename News _ _ _ _ => kN
    with_reducible rename _ ∧ _ ∧ _ ∧ AllLt _ _ => zl
    refine hret _ _ _ _ ⟨(_, _), _, _, _, ?_, rfl, lt_all zl.2.2.2, rfl⟩ kF (news_sub kN fun p hp => (List.mem_cons.mp hp).elim (fun e => e ▸ .head _) fun hp => by simp [hp])
    rw [zx]
    simp only [zE]
    rw [if_neg (by omega), quot_ge (by omega) rfl, hg]
    rfl
  · with_reducible rename List.drop _ _ = (signOf _).2 => zB
    with_reducible rename oneOf _ _ _ = true => zD
    with_reducible rename (_ == _) = (signOf _).1 => zS
    with_reducible rename _ = run _ => zd2
    revert zd2
    with_reducible rename _ = run _ => zd
    intro zd2
    have zx := deciAt_eq (by assumption) (by assumption) zB zd (.inl ⟨zD, zd2, rfl⟩)
    with_reducible rename expoAt _ _ = none => zE
    with_reducible rename Fr h₀ L _ m => FG9
    with_reducible rename RaisedSN _ _ _ _ _ _ _ => R9
    with_reducible rename Heap.UpToSlots _ _ => U9
    with_reducible rename Below _ _ _ _ => kB
    with_reducible rename Fr _ _ _ _ => kF
    refine leave_onSN kB kF R9 U9 fun h8 R8 _ U8 => ?_
    exact hrais (by rw [zx]; simp only [zE]) _ _ _ _ FG9 R8 U8
  · with_reducible rename List.drop _ _ = (signOf _).2 => zB
    with_reducible rename oneOf _ _ _ = false => zD
    with_reducible rename (_ == _) = (signOf _).1 => zS
    with_reducible rename _ = run _ => zd
    have zx := deciAt_eq (by assumption) (by assumption) zB zd (.inr ⟨zD, rfl, rfl⟩)
    with_reducible rename (S (_ ++ _) == _) = true => hq
    have hq := S_nil hq
    k_extra "my raise"
    with_reducible rename Fr h₀ L _ m => FG9
    with_reducible rename RaisedSN _ _ _ _ _ _ _ => R9
    with_reducible rename Heap.UpToSlots _ _ => U9
    exact hrais (by rw [zx]; split <;> first | rfl | exact if_pos (.inl hq)) _ _ _ _ FG9 R9 U9
  · with_reducible rename List.drop _ _ = (signOf _).2 => zB
    with_reducible rename oneOf _ _ _ = false => zD
    with_reducible rename (_ == _) = (signOf _).1 => zS
    with_reducible rename _ = run _ => zd
    have zx := deciAt_eq (by assumption) (by assumption) zB zd (.inr ⟨zD, rfl, rfl⟩)
    with_reducible rename expoAt _ _ = some _ => zE
    with_reducible rename _ < ((txt.length : Nat) : Int) => hq
    k_extra "my raise"
    with_reducible rename Fr h₀ L _ m => FG9
    with_reducible rename RaisedSN _ _ _ _ _ _ _ => R9
    with_reducible rename Heap.UpToSlots _ _ => U9
    exact hrais (by rw [zx]; simp only [zE]; exact if_pos (.inr (by omega))) _ _ _ _ FG9 R9 U9
  · with_reducible rename List.drop _ _ = (signOf _).2 => zB
    with_reducible rename oneOf _ _ _ = false => zD
    with_reducible rename (_ == _) = (signOf _).1 => zS
    with_reducible rename _ = run _ => zd
    have zx := deciAt_eq (by assumption) (by assumption) zB zd (.inr ⟨zD, rfl, rfl⟩)
    with_reducible rename expoAt _ _ = some _ => zE
    with_reducible rename ¬ _ < ((txt.length : Nat) : Int) => hq
    with_reducible rename (S (_ ++ _) == _) = false => hn
    have hn := S_cons hn
    with_reducible rename (_ == Str.ofString "-") = true => hg
    rw [zS] at hg
    with_reducible rename _ < (0 : Int) => hz
    with_reducible rename Fr _ _ _ _ => kF
    with_reducible rename News _ _ _ _ => kN
    with_reducible rename _ ∧ _ ∧ _ ∧ AllLt _ _ => zl
    refine hret _ _ _ _ ⟨(_, _), _, _, _, ?_, rfl, lt_all zl.2.2.2, rfl⟩ kF (news_sub kN fun p hp => (List.mem_cons.mp hp).elim (fun e => e ▸ .head _) fun hp => by simp [hp])
    rw [zx]
    simp only [zE, List.length_nil]
    rw [if_neg (by omega), quot_lt hz rfl, hg]
    rfl
  · with_reducible rename List.drop _ _ = (signOf _).2 => zB
    with_reducible rename oneOf _ _ _ = false => zD
    with_reducible rename (_ == _) = (signOf _).1 => zS
    with_reducible rename _ = run _ => zd
    have zx := deciAt_eq (by assumption) (by assumption) zB zd (.inr ⟨zD, rfl, rfl⟩)
    with_reducible rename expoAt _ _ = some _ => zE
    with_reducible rename ¬ _ < ((txt.length : Nat) : Int) => hq
    with_reducible rename (S (_ ++ _) == _) = false => hn
    have hn := S_cons hn
    with_reducible rename (_ == Str.ofString "-") = true => hg
    rw [zS] at hg
    with_reducible rename ¬ _ < (0 : Int) => hz
    with_reducible rename Fr _ _ _ _ => kF
    with_reducible rename News _ _ _ _ => kN
    with_reducible rename _ ∧ _ ∧ _ ∧ AllLt _ _ => zl
    refine hret _ _ _ _ ⟨(_, _), _, _, _, ?_, rfl, lt_all zl.2.2.2, rfl⟩ kF (news_sub kN fun p hp => (List.mem_cons.mp hp).elim (fun e => e ▸ .head _) fun hp => by simp [hp])
    rw [zx]
    simp only [zE, List.length_nil]
    rw [if_neg (by omega), quot_ge (by omega) rfl, hg]
    rfl
  · with_reducible rename List.drop _ _ = (signOf _).2 => zB
    with_reducible rename oneOf _ _ _ = false => zD
    with_reducible rename (_ == _) = (signOf _).1 => zS
    with_reducible rename _ = run _ => zd
    have zx := deciAt_eq (by assumption) (by assumption) zB zd (.inr ⟨zD, rfl, rfl⟩)
    with_reducible rename expoAt _ _ = some _ => zE
    with_reducible rename ¬ _ < ((txt.length : Nat) : Int) => hq
    with_reducible rename (S (_ ++ _) == _) = false => hn
    have hn := S_cons hn
    with_reducible rename (_ == Str.ofString "-") = false => hg
    rw [zS] at hg
    with_reducible rename _ < (0 : Int) => hz
    with_reducible rename Fr _ _ _ _ => kF
    with_reducible rename News _ _ _ _ => kN
    with_reducible rename _ ∧ _ ∧ _ ∧ AllLt _ _ => zl
    refine hret _ _ _ _ ⟨(_, _), _, _, _, ?_, rfl, lt_all zl.2.2.2, rfl⟩ kF (news_sub kN fun p hp => (List.mem_cons.mp hp).elim (fun e => e ▸ .head _) fun hp => by simp [hp])
    rw [zx]
    simp only [zE, List.length_nil]
    rw [if_neg (by omega), quot_lt hz rfl, hg]
    rfl
  · with_reducible rename List.drop _ _ = (signOf _).2 => zB
    with_reducible rename oneOf _ _ _ = false => zD
    with_reducible rename (_ == _) = (signOf _).1 => zS
    with_reducible rename _ = run _ => zd
    have zx := deciAt_eq (by assumption) (by assumption) zB zd (.inr ⟨zD, rfl, rfl⟩)
    with_reducible rename expoAt _ _ = some _ => zE
    with_reducible rename ¬ _ < ((txt.length : Nat) : Int) => hq
    with_reducible rename (S (_ ++ _) == _) = false => hn
    have hn := S_cons hn
    with_reducible rename (_ == Str.ofString "-") = false => hg
    rw [zS] at hg
    with_reducible rename ¬ _ < (0 : Int) => hz
    with_reducible rename Fr _ _ _ _ => kF
    with_reducible rename News _ _ _ _ => kN
    with_reducible rename _ ∧ _ ∧ _ ∧ AllLt _ _ => zl
    refine hret _ _ _ _ ⟨(_, _), _, _, _, ?_, rfl, lt_all zl.2.2.2, rfl⟩ kF (news_sub kN fun p hp => (List.mem_cons.mp hp).elim (fun e => e ▸ .head _) fun hp => by simp [hp])
    rw [zx]
    simp only [zE, List.length_nil]
    rw [if_neg (by omega), quot_ge (by omega) rfl, hg]
    rfl
  · with_reducible rename List.drop _ _ = (signOf _).2 => zB
    with_reducible rename oneOf _ _ _ = false => zD
    with_reducible rename (_ == _) = (signOf _).1 => zS
    with_reducible rename _ = run _ => zd
    have zx := deciAt_eq (by assumption) (by assumption) zB zd (.inr ⟨zD, rfl, rfl⟩)
    with_reducible rename expoAt _ _ = none => zE
    with_reducible rename Fr h₀ L _ m => FG9
    with_reducible rename RaisedSN _ _ _ _ _ _ _ => R9
    with_reducible rename Heap.UpToSlots _ _ => U9
    with_reducible rename Below _ _ _ _ => kB
    with_reducible rename Fr _ _ _ _ => kF
    refine leave_onSN kB kF R9 U9 fun h8 R8 _ U8 => ?_
    exact hrais (by rw [zx]; simp only [zE]) _ _ _ _ FG9 R8 U8
theorem mac14e_ : True := by
  (k_with "my call ref" => (k_here; (with_reducible show wpAny _ _ (call (Value.ref 124) [Value.str _ _]) _ _ _); k_dflt (refine' callR.use (read_dec_C _ _ _ _ _ _ _ ?h2) ?kB ?kF ?kX ?kN ?kT ?kK ?kd ?ku ?_ ?_); k_extra "my asks"; (case h2 => k_extra "my om"); rotate_left; (intro v9 n9 h9 tk9 p9 F9 N9; (obtain ⟨p9, l9, ta9, tb9, y9, e8, q9, e9⟩ := p9); subst e9; subst e8; (try k_lt q9); (try k_sweep); k_extra "my then")))
  exact trivial

theorem part15_ : True := by w_top off; exact trivial
theorem law_run_D (w : World) (mean mg mb) (txt : Str) (at_ : Int) (t1 t2 : Tok) (news : List (Addr × Obj)) (h0 : 0 ≤ at_) (h1 : at_ ≤ txt.length) (h2 : txt.length ≤ 100) (hok : ∀ c ∈ Mine.cs txt, c < 128 ∧ c ≠ 63) :
    callAt w mean mg mb 1 100 news 150 [.str txt t1, .int at_ t2] (fun v n => n = news ∧ ∃ (d : List Nat) (t : Tok), (d = run ((Mine.cs txt).drop at_.toNat) ∧ at_ + d.length ≤ txt.length ∧ ∀ c ∈ d, isD c = true) ∧ v = .str (S d) t) :=
  (law_run_C w mean mg mb txt at_ t1 t2 news h0 h1 h2 hok).mono fun v n h => by
    obtain ⟨e1, t, e3⟩ := h
    have := run_len_le ((Mine.cs txt).drop at_.toNat)
    rw [List.length_drop, ← len_cs] at this
    exact ⟨e1, _, t, ⟨rfl, by omega, run_all⟩, e3⟩
theorem expo_cases {r : Option (Int × Int)} {news : List (Addr × Obj)} {v : Value} {n : List (Addr × Obj)} (h : optPair r news v n) : (r = none ∧ v = .none ∧ n = news) ∨ ∃ e k l ta tb, r = some (e, k) ∧ v = .ref l ∧ (∀ p ∈ news, p.1 < l) ∧ n = (l, tup2 (.int e ta) (.int k tb)) :: news := by
  cases r with
  | none => exact .inl ⟨rfl, h⟩
  | some q =>
    obtain ⟨e, k⟩ := q
    obtain ⟨l, ta, tb, h1, h2, h3⟩ := h
    exact .inr ⟨e, k, l, ta, tb, rfl, h1, h2, h3⟩
theorem head_c (x : Str) : ([Str.ofString "+", Str.ofString "-"].any fun y => y == Txt.slice x none (some 1)) = headIs 43 45 (cs x) := by
  rw [slice_to x 1 (by omega)]
  exact two_any (by decide +kernel) (by decide +kernel) _
theorem slice_dot (x : Str) {i j : Int} (h0 : 0 ≤ i) (hj : j = i + 1) : (Txt.slice x (some i) (some j) == Str.ofString ".") = oneOf x i (Str.ofString ".") := by
  rw [slice_one x h0 hj, oneOf_eq h0]
  have e : (cs x)[i.toNat]? = ((cs x).drop i.toNat)[0]? := by rw [List.getElem?_drop]; rfl
  rw [e, show cs (Str.ofString ".") = [46] from by decide +kernel, Bool.eq_iff_iff, beq_iff_eq, show Str.ofString "." = S [46] from by decide +kernel]
  cases (cs x).drop i.toNat with
  | nil =>
    constructor
    · intro h
      have h' : ([] : List Nat) = [46] := congrArg cs h
      cases h'
    · intro h
      cases h
  | cons c r =>
    show S [c] = S [46] ↔ _
    constructor
    · intro h
      have h' : [c] = [46] := congrArg cs h
      injection h' with h1
      simp [h1]
    · intro h
      have : c = 46 := by simpa using h
      rw [this]
theorem slice_minus (x : Str) : (Txt.slice x none (some 1) == Str.ofString "-") = (signOf (cs x)).1 := by
  rw [slice_to x 1 (by omega), Bool.eq_iff_iff, beq_iff_eq, show Str.ofString "-" = S [45] from by decide +kernel]
  cases hx : cs x with
  | nil =>
    constructor
    · intro h
      have h' : ([] : List Nat) = [45] := congrArg cs h
      cases h'
    · intro h
      cases h
  | cons c r =>
    show S [c] = S [45] ↔ _
    constructor
    · intro h
      have h' : [c] = [45] := congrArg cs h
      injection h' with h1
      subst h1
      rfl
    · intro h
      by_cases hc : c = 45
      · rw [hc]
      · exfalso
        revert h
        unfold signOf
        split
        · rename_i q; injection q with q1; exact absurd q1 hc
        · intro h; cases h
        · intro h; cases h
theorem mac15a_ : True := by
  (k_with "my om" => (split <;> omega))
  (k_with "my binaryOp Pow int int" => ((with_reducible refine pow_int_small ?zp1 ?zp2 ?zp3 ?_); (case zp1 => k_extra "my om"); (case zp2 => k_extra "my om"); (case zp3 => decide)))
  (k_with "my len" => first | k_extra "my om" | exact app_len (by k_extra "my om") | exact app_len (by simp only [List.length_nil]; k_extra "my om"))
  (k_with "my call ref" => (k_here; (with_reducible show wpAny _ _ (call (Value.ref 155) [Value.str _ _]) _ _ _); k_dflt (refine' callAt.use (law_worth_C _ _ _ _ _ _ _ ?hf ?hl) ?kB ?kF ?kX ?kN ?kT ?kK ?kd ?ku ?_); k_extra "my asks"; (case hf => k_extra "my figs"); (case hl => k_extra "my len"); intro v9 n9 h9 tk9 p9 F9 N9; (obtain ⟨e9, t9, e8⟩ := p9); subst e9; subst e8; (try k_sweep); k_extra "my then"))
  exact trivial
section
theorem mac15b_ : True := by
  (k_with "my stop15" => (with_reducible show wpAny _ _ (call (Value.ref 150) [Value.str _ _, Value.int _ _]) _ _ _))
  (k_with "my stop15" => (with_reducible show wpAny _ _ (call (Value.ref 162) [Value.str _ _, Value.int _ _]) _ _ _))
  (k_with "my stop15" => (with_reducible show wpAny _ _ (exec (Stmt.Return (some (Expr.Tuple _ _ _)) _) _) _ _ _))
  (k_with "my steps15" => repeat' ((fail_if_success (first | k_extra "my stop" | k_extra "my stop15")); (first | (k_unfold; (try dsimp only)) | (k_end; wrow_close) | walk1 | (dsimp only; walk1) | (leave1; walk_say "STEP leave1"; try dsimp only) | fail "no step")))
  exact trivial
theorem big_ex : ∃ B : Nat, B = 2 ^ 2000 := ⟨_, rfl⟩
noncomputable def Big : Nat := Classical.choose big_ex
theorem big_eq : Big = 2 ^ 2000 := Classical.choose_spec big_ex
theorem lt_big {n : Nat} (h : n < 2 ^ 2000) : n < Big := by rw [big_eq]; exact h
theorem big_log {n : Nat} (h : n < Big) : n.log2 < 9000 := log2_small (by rw [big_eq] at h; exact h)
theorem mac15c_ : True := by
  (k_with "my binaryOp FloorDiv int int" => ((with_reducible refine floordiv_int ?zfb ?_ (Or.inl (PyProof.noPylong_of_log2 ?zfp))); (case zfb => assumption); (case zfp => exact big_log (by assumption))))
  exact trivial
theorem w_ne {f c : Int} (h : 0 < f ∨ 0 < c) (hb : ¬ c > 0) : f ≠ 0 := by omega
theorem w_small {f c : Int} {n : Nat} (g1 : 0 ≤ f.fmod c) (g2 : f.fmod c < c) (h : c.natAbs < n) : (f.fmod c).natAbs < n := by
  generalize f.fmod c = z at *
  omega
theorem w_meas {f c : Int} (g1 : 0 ≤ f.fmod c) (g2 : f.fmod c < c) : (f.fmod c).toNat < c.toNat := by
  generalize f.fmod c = z at *
  omega
theorem w_out {f c : Int} {n : Nat} (h0 : 0 ≤ f) (hc : 0 ≤ c) (hb : ¬ c > 0) (h : Nat.gcd f.toNat c.toNat = n) : f = (n : Int) := by
  have hz : c.toNat = 0 := by omega
  rw [hz, Nat.gcd_zero_right] at h
  omega
theorem w_abs (T : Int) : (if T < 0 then -T else T) = ((T.natAbs : Nat) : Int) := by split <;> omega
theorem quot_if {neg : Bool} {n : Nat} {size T b : Int} (hT : T = (n : Int) * 10 ^ (if size > 0 then size else 0).toNat * (if neg then -1 else 1)) (hb : b = 10 ^ (if 0 - size > 0 then 0 - size else 0).toNat) :
    quot neg n size = (T.fdiv (Nat.gcd T.natAbs b.toNat), b.fdiv (Nat.gcd T.natAbs b.toNat)) := by
  have e1 : (max 0 size) = if size > 0 then size else 0 := by split <;> omega
  have e2 : (max 0 (0 - size)) = if 0 - size > 0 then 0 - size else 0 := by split <;> omega
  simp only [quot, e1, e2, ← hT, ← hb]
theorem top_small {n a : Nat} {k : Int} (hn : n < 10 ^ 200) (ha : a ≤ 300) (hk : k = 1 ∨ k = -1) : ((n : Int) * 10 ^ a * k).natAbs < 2 ^ 2000 := by
  have h1 : ((n : Int) * 10 ^ a * k).natAbs = n * 10 ^ a := by
    rw [Int.natAbs_mul, Int.natAbs_mul, Int.natAbs_pow, Int.natAbs_natCast]
    have h2 : k.natAbs = 1 := by omega
    rw [h2, Nat.mul_one]
    rfl
  rw [h1]
  have h3 : 10 ^ a ≤ 10 ^ 300 := Nat.pow_le_pow_right (by decide) ha
  have h4 : n * 10 ^ a ≤ 10 ^ 200 * 10 ^ 300 := Nat.mul_le_mul (Nat.le_of_lt hn) h3
  exact Nat.lt_of_le_of_lt h4 (by decide +kernel)
theorem wor_small {a b : List Nat} (ha : ∀ c ∈ a, isD c = true) (hb : ∀ c ∈ b, isD c = true) (hl : a.length + b.length ≤ 200) : wor (cs (S (a ++ b))) < 10 ^ 200 := by
  have := small_app ha hb hl
  rwa [Int.natAbs_natCast] at this
theorem via15 {txt : Str} {news : List (Addr × Obj)} {g : Heap} {L : Addr} {G : Heap → Nat → Prop} {goal : Prop}
    (main : (∀ (H : Heap) (n : Nat) (T b : Int) (u1 u2 u3 u4 : Tok) (r : Str → Option Value), Fr g L H (fun y => if y = Str.ofString "bottom" then some (.int b u1) else if y = Str.ofString "one" then some (.int ((T.natAbs : Nat) : Int) u2) else if y = Str.ofString "other" then some (.int b u3) else if y = Str.ofString "top" then some (.int T u4) else r y) → News g L H news → T.natAbs < Big → b.natAbs < Big → 0 < b → deciAt txt = some (T.fdiv (Nat.gcd T.natAbs b.toNat), b.fdiv (Nat.gcd T.natAbs b.toNat)) → G H n) → goal)
    (tail : ∀ (H : Heap) (n : Nat) (T b : Int) (u1 u2 u3 u4 : Tok) (r : Str → Option Value), Fr g L H (fun y => if y = Str.ofString "bottom" then some (.int b u1) else if y = Str.ofString "one" then some (.int ((T.natAbs : Nat) : Int) u2) else if y = Str.ofString "other" then some (.int b u3) else if y = Str.ofString "top" then some (.int T u4) else r y) → News g L H news → T.natAbs < Big → b.natAbs < Big → 0 < b → deciAt txt = some (T.fdiv (Nat.gcd T.natAbs b.toNat), b.fdiv (Nat.gcd T.natAbs b.toNat)) → G H n) : goal := main tail
theorem optPair_none {r : Option (Int × Int)} {news : List (Addr × Obj)} (h : r = none) : optPair r news .none news := by subst h; exact ⟨rfl, rfl⟩
theorem law_dec_C (w : World) (mean mg mb) (txt : Str) (t1 : Tok) (news : List (Addr × Obj)) (h2 : txt.length ≤ 100) (hok : ∀ c ∈ Mine.cs txt, c < 128 ∧ c ≠ 63) :
    callAt w mean mg mb 5 200 news 169 [.str txt t1] (optPair (deciAt txt) news) := by
  unfold callAt
  intro dp un gd cn cs a ccd cl outer A₀ base h₀ L m s Q E B' F X N T' hk hd hu hret
  have hlen := len_cs txt
  have hmn := slice_minus txt
  k_extra "my enter"
  apply via15 (txt := txt) (news := news)
  case main =>
    intro key
    k_extra "my steps15"
    obtain ⟨B, hB⟩ : ∃ B : Int, B = if ([Str.ofString "+", Str.ofString "-"].any fun x => x == Txt.slice txt none (some 1)) = true then 1 else 0 := ⟨_, rfl⟩
    with_reducible rename Fr _ _ _ _ => kF
    rw [← hB] at kF
    rw [← hB]
    rw [head_c] at hB
    obtain ⟨b1, b2, b3, -, -⟩ := sign_at txt (p := 0) (B := B) (Int.le_refl 0) (by omega) (by rw [hB, Int.zero_add]; rfl)
    replace b3 : (Mine.cs txt).drop B.toNat = (signOf (Mine.cs txt)).2 := b3
    k_here
    k_dflt (refine' callAt.use (law_run_D _ _ _ _ _ _ _ _ _ ?h0 ?h1 ?h2 ?hok) ?kB ?kF ?kX ?kN ?kT ?kK ?kd ?ku ?_)
    k_extra "my asks"
    (case h0 => k_extra "my om")
    (case h1 => k_extra "my om")
    (case h2 => k_extra "my om")
    (case hok => assumption)
    intro v9 n9 h9 tk9 p9 F9 N9
    obtain ⟨e9, d, t9, ⟨zd, zdl, zdf⟩, e8⟩ := p9
    subst e9
    subst e8
    (try k_sweep)
    k_extra "my then"
    k_extra "my steps15"
    · with_reducible rename (Txt.slice _ _ _ == Str.ofString ".") = true => hD
      rw [slice_dot txt (by omega) (by omega)] at hD
      have hD1 := oneOf_lt hD
      k_here
      k_dflt (refine' callAt.use (law_run_D _ _ _ _ _ _ _ _ _ ?h0 ?h1 ?h2 ?hok) ?kB ?kF ?kX ?kN ?kT ?kK ?kd ?ku ?_)
      k_extra "my asks"
      (case h0 => k_extra "my om")
      (case h1 => k_extra "my om")
      (case h2 => k_extra "my om")
      (case hok => assumption)
      intro v9 n9 h9 tk9 p9 F9 N9
      obtain ⟨e9, d2, t9, ⟨zd2, zd2l, zd2f⟩, e8⟩ := p9
      subst e9
      subst e8
      (try k_sweep)
      k_extra "my then"
      k_extra "my steps15"
      have zx := deciAt_eq b1 b2 b3 zd (.inl ⟨hD, zd2, rfl⟩)
      k_here
      k_dflt (refine' callAt.use (law_expo_C _ _ _ _ _ _ _ _ _ ?h0 ?h1 ?h2 ?hok) ?kB ?kF ?kX ?kN ?kT ?kK ?kd ?ku ?_)
      k_extra "my asks"
      (case h0 => k_extra "my om")
      (case h1 => k_extra "my om")
      (case h2 => k_extra "my om")
      (case hok => assumption)
      intro v9 n9 h9 tk9 p9 F9 N9
      rcases expo_cases p9 with ⟨zE, e8, e9⟩ | ⟨e, k, l, ta, tb, zE, e8, q9, e9⟩
      · clear p9
        subst e9
        subst e8
        (try k_sweep)
        k_extra "my then"
        k_extra "my steps15"
        all_goals
          with_reducible rename Fr _ _ _ _ => kF
          with_reducible rename News _ _ _ _ => kN
          exact hret _ _ _ _ (optPair_none (by rw [zx]; simp only [zE])) kF (news_sub kN fun p hp => by repeat (first | exact hp | apply List.mem_cons_of_mem))
      · clear p9
        have z9 := expo_bound (by omega) (by omega) zE
        subst e9
        subst e8
        (try k_lt q9)
        (try k_sweep)
        k_extra "my then"
        k_extra "my steps15"
        · with_reducible rename (S (_ ++ _) == _) = true => hn
          have hn := S_nil hn
          with_reducible rename Fr _ _ _ _ => kF
          with_reducible rename News _ _ _ _ => kN
          exact hret _ _ _ _ (optPair_none (by rw [zx]; simp only [zE]; exact if_pos (.inl hn))) kF (news_sub kN fun p hp => by repeat (first | exact hp | apply List.mem_cons_of_mem))
        · with_reducible rename ¬ k = _ => hn
          with_reducible rename Fr _ _ _ _ => kF
          with_reducible rename News _ _ _ _ => kN
          exact hret _ _ _ _ (optPair_none (by rw [zx]; simp only [zE]; exact if_pos (.inr hn))) kF (news_sub kN fun p hp => by repeat (first | exact hp | apply List.mem_cons_of_mem))
        · skip
          obtain ⟨T, hT⟩ : ∃ T : Int, T = ((wor (Mine.cs (S (d ++ d2))) : Nat) : Int) * 10 ^ (if e - ((d2.length : Nat) : Int) > 0 then e - ((d2.length : Nat) : Int) else 0).toNat * -1 := ⟨_, rfl⟩
          obtain ⟨b, hb⟩ : ∃ b : Int, b = 10 ^ (if 0 - (e - ((d2.length : Nat) : Int)) > 0 then 0 - (e - ((d2.length : Nat) : Int)) else 0).toNat := ⟨_, rfl⟩
          with_reducible rename (Txt.slice _ none _ == _) = true => hsg
          rw [hmn] at hsg
          with_reducible rename (S (_ ++ _) == _) = false => hn
          have hn := S_cons hn
          with_reducible rename k = _ => hk9
          with_reducible rename Fr _ _ _ _ => kF
          with_reducible rename News _ _ _ _ => kN
          rw [← hT, ← hb] at kF
          rw [w_abs] at kF
          have hTs : T.natAbs < Big := by
            clear kF kN
            rw [hT]
            exact lt_big (top_small (wor_small zdf zd2f (by omega)) (by split <;> omega) (by simp))
          have hbs : b.natAbs < Big := by
            clear kF kN
            rw [hb]
            exact lt_big (pow10_small (by split <;> omega))
          have hbp : 0 < b := by
            rw [hb]
            exact pow10_pos _
          have hend : deciAt txt = some (T.fdiv (Nat.gcd T.natAbs b.toNat), b.fdiv (Nat.gcd T.natAbs b.toNat)) := by
            rw [zx]
            simp only [zE]
            rw [if_neg (by omega), hsg]
            exact congrArg some (quot_if (size := e - ((d2.length : Nat) : Int)) hT hb)
          generalize tk = n0
          exact key _ n0 T b _ _ _ _ _ kF (news_sub kN fun p hp => by repeat (first | exact hp | apply List.mem_cons_of_mem)) hTs hbs hbp hend
        · skip
          obtain ⟨T, hT⟩ : ∃ T : Int, T = ((wor (Mine.cs (S (d ++ d2))) : Nat) : Int) * 10 ^ (if e - ((d2.length : Nat) : Int) > 0 then e - ((d2.length : Nat) : Int) else 0).toNat * 1 := ⟨_, rfl⟩
          obtain ⟨b, hb⟩ : ∃ b : Int, b = 10 ^ (if 0 - (e - ((d2.length : Nat) : Int)) > 0 then 0 - (e - ((d2.length : Nat) : Int)) else 0).toNat := ⟨_, rfl⟩
          with_reducible rename (Txt.slice _ none _ == _) = false => hsg
          rw [hmn] at hsg
          with_reducible rename (S (_ ++ _) == _) = false => hn
          have hn := S_cons hn
          with_reducible rename k = _ => hk9
          with_reducible rename Fr _ _ _ _ => kF
          with_reducible rename News _ _ _ _ => kN
          rw [← hT, ← hb] at kF
          rw [w_abs] at kF
          have hTs : T.natAbs < Big := by
            clear kF kN
            rw [hT]
            exact lt_big (top_small (wor_small zdf zd2f (by omega)) (by split <;> omega) (by simp))
          have hbs : b.natAbs < Big := by
            clear kF kN
            rw [hb]
            exact lt_big (pow10_small (by split <;> omega))
          have hbp : 0 < b := by
            rw [hb]
            exact pow10_pos _
          have hend : deciAt txt = some (T.fdiv (Nat.gcd T.natAbs b.toNat), b.fdiv (Nat.gcd T.natAbs b.toNat)) := by
            rw [zx]
            simp only [zE]
            rw [if_neg (by omega), hsg]
            exact congrArg some (quot_if (size := e - ((d2.length : Nat) : Int)) hT hb)
          skip
          exact key _ _ T b _ _ _ _ _ kF (news_sub kN fun p hp => by repeat (first | exact hp | apply List.mem_cons_of_mem)) hTs hbs hbp hend
    · with_reducible rename (Txt.slice _ _ _ == Str.ofString ".") = false => hD
      rw [slice_dot txt (by omega) (by omega)] at hD
      have zx := deciAt_eq b1 b2 b3 zd (.inr ⟨hD, rfl, rfl⟩)
      simp only [List.length_nil] at zx
      k_here
      k_dflt (refine' callAt.use (law_expo_C _ _ _ _ _ _ _ _ _ ?h0 ?h1 ?h2 ?hok) ?kB ?kF ?kX ?kN ?kT ?kK ?kd ?ku ?_)
      k_extra "my asks"
      (case h0 => k_extra "my om")
      (case h1 => k_extra "my om")
      (case h2 => k_extra "my om")
      (case hok => assumption)
      intro v9 n9 h9 tk9 p9 F9 N9
      rcases expo_cases p9 with ⟨zE, e8, e9⟩ | ⟨e, k, l, ta, tb, zE, e8, q9, e9⟩
      · clear p9
        subst e9
        subst e8
        (try k_sweep)
        k_extra "my then"
        k_extra "my steps15"
        all_goals
          with_reducible rename Fr _ _ _ _ => kF
          with_reducible rename News _ _ _ _ => kN
          exact hret _ _ _ _ (optPair_none (by rw [zx]; simp only [zE])) kF (news_sub kN fun p hp => by repeat (first | exact hp | apply List.mem_cons_of_mem))
      · clear p9
        have z9 := expo_bound (by omega) (by omega) zE
        subst e9
        subst e8
        (try k_lt q9)
        (try k_sweep)
        k_extra "my then"
        k_extra "my steps15"
        · with_reducible rename (S (_ ++ _) == _) = true => hn
          have hn := S_nil hn
          with_reducible rename Fr _ _ _ _ => kF
          with_reducible rename News _ _ _ _ => kN
          exact hret _ _ _ _ (optPair_none (by rw [zx]; simp only [zE]; exact if_pos (.inl hn))) kF (news_sub kN fun p hp => by repeat (first | exact hp | apply List.mem_cons_of_mem))
        · with_reducible rename ¬ k = _ => hn
          with_reducible rename Fr _ _ _ _ => kF
          with_reducible rename News _ _ _ _ => kN
          exact hret _ _ _ _ (optPair_none (by rw [zx]; simp only [zE]; exact if_pos (.inr hn))) kF (news_sub kN fun p hp => by repeat (first | exact hp | apply List.mem_cons_of_mem))
        · skip
          obtain ⟨T, hT⟩ : ∃ T : Int, T = ((wor (Mine.cs (S (d ++ []))) : Nat) : Int) * 10 ^ (if e - ((0 : Nat) : Int) > 0 then e - ((0 : Nat) : Int) else 0).toNat * -1 := ⟨_, rfl⟩
          obtain ⟨b, hb⟩ : ∃ b : Int, b = 10 ^ (if 0 - (e - ((0 : Nat) : Int)) > 0 then 0 - (e - ((0 : Nat) : Int)) else 0).toNat := ⟨_, rfl⟩
          with_reducible rename (Txt.slice _ none _ == _) = true => hsg
          rw [hmn] at hsg
          with_reducible rename (S (_ ++ _) == _) = false => hn
          have hn := S_cons hn
          with_reducible rename k = _ => hk9
          with_reducible rename Fr _ _ _ _ => kF
          with_reducible rename News _ _ _ _ => kN
          rw [← hT, ← hb] at kF
          rw [w_abs] at kF
          have hTs : T.natAbs < Big := by
            clear kF kN
            rw [hT]
            exact lt_big (top_small (wor_small zdf (fun _ h => nomatch h) (by simp only [List.length_nil]; omega)) (by split <;> omega) (by simp))
          have hbs : b.natAbs < Big := by
            clear kF kN
            rw [hb]
            exact lt_big (pow10_small (by split <;> omega))
          have hbp : 0 < b := by
            rw [hb]
            exact pow10_pos _
          have hend : deciAt txt = some (T.fdiv (Nat.gcd T.natAbs b.toNat), b.fdiv (Nat.gcd T.natAbs b.toNat)) := by
            rw [zx]
            simp only [zE]
            rw [if_neg (by omega), hsg]
            exact congrArg some (quot_if (size := e - ((0 : Nat) : Int)) hT hb)
          skip
          exact key _ _ T b _ _ _ _ _ kF (news_sub kN fun p hp => by repeat (first | exact hp | apply List.mem_cons_of_mem)) hTs hbs hbp hend
        · skip
          obtain ⟨T, hT⟩ : ∃ T : Int, T = ((wor (Mine.cs (S (d ++ []))) : Nat) : Int) * 10 ^ (if e - ((0 : Nat) : Int) > 0 then e - ((0 : Nat) : Int) else 0).toNat * 1 := ⟨_, rfl⟩
          obtain ⟨b, hb⟩ : ∃ b : Int, b = 10 ^ (if 0 - (e - ((0 : Nat) : Int)) > 0 then 0 - (e - ((0 : Nat) : Int)) else 0).toNat := ⟨_, rfl⟩
          with_reducible rename (Txt.slice _ none _ == _) = false => hsg
          rw [hmn] at hsg
          with_reducible rename (S (_ ++ _) == _) = false => hn
          have hn := S_cons hn
          with_reducible rename k = _ => hk9
          with_reducible rename Fr _ _ _ _ => kF
          with_reducible rename News _ _ _ _ => kN
          rw [← hT, ← hb] at kF
          rw [w_abs] at kF
          have hTs : T.natAbs < Big := by
            clear kF kN
            rw [hT]
            exact lt_big (top_small (wor_small zdf (fun _ h => nomatch h) (by simp only [List.length_nil]; omega)) (by split <;> omega) (by simp))
          have hbs : b.natAbs < Big := by
            clear kF kN
            rw [hb]
            exact lt_big (pow10_small (by split <;> omega))
          have hbp : 0 < b := by
            rw [hb]
            exact pow10_pos _
          have hend : deciAt txt = some (T.fdiv (Nat.gcd T.natAbs b.toNat), b.fdiv (Nat.gcd T.natAbs b.toNat)) := by
            rw [zx]
            simp only [zE]
            rw [if_neg (by omega), hsg]
            exact congrArg some (quot_if (size := e - ((0 : Nat) : Int)) hT hb)
          skip
          exact key _ _ T b _ _ _ _ _ kF (news_sub kN fun p hp => by repeat (first | exact hp | apply List.mem_cons_of_mem)) hTs hbs hbp hend
  case tail =>
    intro H n T b u1 u2 u3 u4 r kF kN hTs hbs hbp hend
    clear hmn hlen
    refine ksw_while (σ := Int × Tok × Int × Tok) (fun _ => news) (fun c => [(Str.ofString "one", .int c.1 c.2.1), (Str.ofString "other", .int c.2.2.1 c.2.2.2)]) (fun _ => True) [] (fun c => 0 ≤ c.1 ∧ 0 ≤ c.2.2.1 ∧ (0 < c.1 ∨ 0 < c.2.2.1) ∧ c.1.natAbs < Big ∧ c.2.2.1.natAbs < Big ∧ Nat.gcd c.1.toNat c.2.2.1.toNat = Nat.gcd T.natAbs b.toNat) (fun c => c.2.2.1.toNat) (((T.natAbs : Nat) : Int), _, b, _) kF kN trivial (List.forall_mem_cons.mpr ⟨rfl, List.forall_mem_cons.mpr ⟨rfl, List.forall_mem_nil _⟩⟩) ?_ ?_ ?_
    · exact ⟨Int.natCast_nonneg _, Int.le_of_lt hbp, .inr hbp, hTs, hbs, rfl⟩
    rotate_left
    · with_unfolding_all passes_own
    · rintro ⟨f, tf, c, tc⟩ u h tk _ ⟨hp1, hp2, hp4, hp5, hp6, hp3⟩ F₁ N₁
      clear kF kN
      dsimp only at hp1 hp2 hp3 hp4 hp5 hp6 N₁
      k_extra "my steps15"
      · with_reducible rename Fr _ _ _ _ => kF
        with_reducible rename News _ _ _ _ => kN
        have hb : 0 < c := by assumption
        obtain ⟨g1, g2, g3⟩ := gcd_step hp1 hb
        refine ksw_end (c, _, f.fmod c, _) kF kN (fun p hp => List.mem_cons_of_mem _ hp) trivial (List.forall_mem_cons.mpr ⟨rfl, List.forall_mem_cons.mpr ⟨rfl, List.forall_mem_nil _⟩⟩) ?_ ⟨hp2, g1, .inl hb, hp6, w_small g1 g2 hp6, g3.trans hp3⟩ (w_meas g1 g2)
        · intro z h2 _
          have hz1 : z ≠ Str.ofString "one" := h2 _ (.head _)
          have hz2 : z ≠ Str.ofString "other" := h2 _ (.tail _ (.head _))
          simp only [kstB, hz1, hz2, if_false, List.contains_nil, Bool.false_eq_true]
      · have hb : ¬ c > 0 := by assumption
        have hf0 : f ≠ 0 := w_ne hp4 hb
        first | walk1 | (dsimp only; walk1)
        k_extra "my steps15"
        with_reducible rename Fr _ _ _ _ => kF
        with_reducible rename News _ _ _ _ => kN
        have e : f = ((Nat.gcd T.natAbs b.toNat : Nat) : Int) := w_out hp1 hp2 hb hp3
        rw [← e] at hend
        exact hret _ _ _ _ (optPair_some hend (by assumption)) kF kN
end
theorem mac15d_ : True := by
  (k_with "my call ref" => (k_here; (with_reducible show wpAny _ _ (call (Value.ref 150) [Value.str _ _, Value.int _ _]) _ _ _); k_dflt (refine' callAt.use (law_run_D _ _ _ _ _ _ _ _ _ ?h0 ?h1 ?h2 ?hok) ?kB ?kF ?kX ?kN ?kT ?kK ?kd ?ku ?_); k_extra "my asks"; (case h0 => k_extra "my om"); (case h1 => k_extra "my om"); (case h2 => k_extra "my om"); (case hok => assumption); intro v9 n9 h9 tk9 p9 F9 N9; (obtain ⟨e9, d9, t9, ⟨y9, y8, y7⟩, e8⟩ := p9); subst e9; subst e8; (try k_sweep); k_extra "my then"))
  (k_with "my call ref" => (k_here; (with_reducible show wpAny _ _ (call (Value.ref 162) [Value.str _ _, Value.int _ _]) _ _ _); k_dflt (refine' callAt.use (law_expo_C _ _ _ _ _ _ _ _ _ ?h0 ?h1 ?h2 ?hok) ?kB ?kF ?kX ?kN ?kT ?kK ?kd ?ku ?_); k_extra "my asks"; (case h0 => k_extra "my om"); (case h1 => k_extra "my om"); (case h2 => k_extra "my om"); (case hok => assumption); intro v9 n9 h9 tk9 p9 F9 N9; (rcases expo_cases p9 with ⟨y9, e8, e9⟩ | ⟨x9, k9, l9, ta9, tb9, y9, e8, q9, e9⟩ <;> (clear p9; (try have z9 := expo_bound (by k_extra "my om") (by k_extra "my om") y9); subst e9; subst e8; (try k_lt q9); (try k_sweep); k_extra "my then"))))
  exact trivial

theorem part16_ : True := by w_top off; exact trivial
/-- a call of a def that catches the project's fault, seen from the law's own frame -/
def callT (w : World) (mean : ExcName → Option Value) (mg mb : Str → Option Value) (D U : Nat) (news : List (Addr × Obj)) (f : Addr) (args : List Value) (Post : Value → (List (Addr × Obj)) → Prop) : Prop :=
  ∀ (dp un : Nat) (gd : Option (List Code)) (cn : Str) (cs : Scope) (a : Addr) (ccd : Value) (A₀ : Around) (base h₀ : Heap) (L : Addr) (m : Str → Option Value) (s : Shared) (Q E : Value → Shared → Prop),
    Below A₀ base [] h₀ → Fr h₀ L s.heap m → (hd.heap_1 w.params).In h₀ → News h₀ L s.heap news → Top top (looseW top [Str.ofString "fraction"]) mean mg mb h₀ →
    (hd.heap_1 w.params).In base → Top top (looseW top [Str.ofString "fraction"]) mean mg mb base → cs.kind = .function → dp + D < recursionLimit → un + U < cLine →
    (∀ v news' h' tk', Post v news' → Fr h₀ L h' m → News h₀ L h' news' → Q v { s with heap := h', toks := tk' }) →
    wpAny (model PySem.Challenge.rw_on0225_01.row.prog w) (ktrTop dp un gd cn cs L a ccd [] []) (call (.ref f) args) Q E s
theorem callT.use {w : World} {mean : ExcName → Option Value} {mg mb : Str → Option Value} {D U : Nat} {news : List (Addr × Obj)} {f : Addr} {args : List Value} {Post : Value → (List (Addr × Obj)) → Prop} {dp un : Nat} {gd : Option (List Code)} {cn : Str} {cs : Scope} {a : Addr} {ccd : Value} {A₀ : Around} {base h₀ : Heap} {L : Addr} {m : Str → Option Value} {s : Shared} {Q E : Value → Shared → Prop}
    (C : callT w mean mg mb D U news f args Post) (B : Below A₀ base [] h₀) (F : Fr h₀ L s.heap m) (X : (hd.heap_1 w.params).In h₀) (N : News h₀ L s.heap news) (T : Top top (looseW top [Str.ofString "fraction"]) mean mg mb h₀)
    (XB : (hd.heap_1 w.params).In base) (TB : Top top (looseW top [Str.ofString "fraction"]) mean mg mb base) (hk : cs.kind = .function) (hd : dp + D < recursionLimit) (hu : un + U < cLine)
    (ret : ∀ v news' h' tk', Post v news' → Fr h₀ L h' m → News h₀ L h' news' → Q v { s with heap := h', toks := tk' }) :
    wpAny (model PySem.Challenge.rw_on0225_01.row.prog w) (ktrTop dp un gd cn cs L a ccd [] []) (call (.ref f) args) Q E s := C _ _ _ _ _ _ _ _ _ _ _ _ _ _ _ B F X N T XB TB hk hd hu ret
theorem mac16a_ : True := by
  (k_with "my stop" => (with_reducible show LeaveS0 _ _ _ _ _ _ _ _))
  (k_with "my stop" => (with_reducible show wpAny _ _ (noteFrame _ _) _ _ _))
  (k_with "my enterT" => (refine wpAny_call ?_; k_dflt (refine' code_defS0 ?k1 ?k2 ?k3 ?k4 ?k5 ?kA ?k6 ?k7 ?k8 ?k9 ?kB ?_ ?kK ?c2 ?c3 ?c4 ?c5; (case kA => exact rfl); (case kK => assumption); (case k1 => assumption); (case k2 => assumption); (case k3 => assumption); (case k4 => assumption); (case k5 => assumption); (case k6 => k_is); (case k7 => k_is); (case k8 => ktr_room); (case k9 => exact BindsTo.of_eq rfl); (case c5 => decide); (case kB => exact locs rfl); (case c2 => exact rfl); (case c3 => exact rfl); (case c4 => exact rfl); k_whole; intro g' L' h' FG' F' N' B' X' T' D'; (try dsimp only); (try k_fold))))
  exact trivial
theorem law_read_C (w : World) (mean mg mb) (txt : Str) (t1 : Tok) (news : List (Addr × Obj)) (h2 : txt.length ≤ 100) :
    callT w mean mg mb 12 240 news 176 [.str txt t1] (optPair (deciAt txt) news) := by
  unfold callT
  intro dp un gd cn cs a ccd A₀ base h₀ L m s Q E B F X N T XB TB hk hd hu hret
  k_extra "my enterT"
  k_extra "my steps"
  · with_reducible rename Fr _ _ _ _ => kF
    with_reducible rename News _ _ _ _ => kN
    refine leaveS0_ kF kN .refl fun F₀ N₀ => ?_
    exact hret _ _ _ _ (optPair_some (by assumption) (by assumption)) F₀ N₀
  · with_reducible rename deciAt txt = none => zx
    with_reducible rename RaisedSN _ _ _ _ _ _ _ => R9
    with_reducible rename Fr _ _ _ _ => F9
    with_reducible rename Heap.UpToSlots _ _ => U9
    with_reducible rename Below _ _ _ _ => kB
    with_reducible rename KtsDicts _ _ => kD
    refine caught_own R9 F9 kB U9 XB TB kD .refl (by k_is) ?_
    intro h9 g9 T9 F9 N9 B9 X9 P9 D9
    k_extra "my steps"
    show LeaveS0 _ _ _ _ _ _ _ _
    exact leaveS0_ F9 N9 T9 fun F₀ N₀ => hret _ _ _ _ (optPair_none zx) F₀ N₀
theorem mac16b_ : True := by
  (k_with "my asksT" => (
    k_extra "my asks"
    (case kXB => first | k_asm | fail "my call: the written part below")
    (case kTB => first | k_asm | fail "my call: the top below")))
  (k_with "my call ref" => (k_here; (with_reducible show wpAny _ _ (call (Value.ref 176) [Value.str _ _]) _ _ _); k_dflt (refine' callT.use (law_read_C _ _ _ _ _ _ _ ?h2) ?kB ?kF ?kX ?kN ?kT ?kXB ?kTB ?kK ?kd ?ku ?_); k_extra "my asksT"; (case h2 => k_extra "my om"); intro v9 n9 h9 tk9 p9 F9 N9; (rcases expo_cases p9 with ⟨y9, e8, e9⟩ | ⟨x9, k9, l9, ta9, tb9, y9, e8, q9, e9⟩ <;> (clear p9; subst e9; subst e8; (try k_lt q9); (try k_sweep); k_extra "my then"))))
  exact trivial
theorem law_power_C (w : World) (mean mg mb) (txt : Str) (t1 : Tok) (news : List (Addr × Obj)) (h2 : txt.length ≤ 100) :
    callT w mean mg mb 8 120 news 183 [.str txt t1] (fun v n => n = news ∧ ((expoAt txt 0 = none ∧ v = .none) ∨ ∃ e k t, expoAt txt 0 = some (e, k) ∧ v = .int e t)) := by
  unfold callT
  intro dp un gd cn cs a ccd A₀ base h₀ L m s Q E B F X N T XB TB hk hd hu hret
  have kp : KeepL news := ⟨⟩
  k_extra "my enterT"
  k_extra "my steps"
  · with_reducible rename Fr _ _ _ _ => kF
    with_reducible rename News _ _ _ _ => kN
    refine leaveS0_ kF (news_sub (l' := news) kN (fun p hp => by simp [hp])) .refl fun F₀ N₀ => ?_
    exact hret _ _ _ _ ⟨rfl, .inr ⟨_, _, _, by assumption, rfl⟩⟩ F₀ N₀
  · with_reducible rename expoAt txt 0 = none => zx
    with_reducible rename RaisedSN _ _ _ _ _ _ _ => R9
    with_reducible rename Fr _ _ _ _ => F9
    with_reducible rename Heap.UpToSlots _ _ => U9
    with_reducible rename Below _ _ _ _ => kB
    with_reducible rename KtsDicts _ _ => kD
    refine caught_own R9 F9 kB U9 XB TB kD .refl (by k_is) ?_
    intro h9 g9 T9 F9 N9 B9 X9 P9 D9
    k_extra "my steps"
    show LeaveS0 _ _ _ _ _ _ _ _
    exact leaveS0_ F9 N9 T9 fun F₀ N₀ => hret _ _ _ _ ⟨rfl, .inl ⟨zx, rfl⟩⟩ F₀ N₀
theorem mac16c_ : True := by
  (k_with "my call ref" => (k_here; (with_reducible show wpAny _ _ (call (Value.ref 183) [Value.str _ _]) _ _ _); k_dflt (refine' callT.use (law_power_C _ _ _ _ _ _ _ ?h2) ?kB ?kF ?kX ?kN ?kT ?kXB ?kTB ?kK ?kd ?ku ?_); k_extra "my asksT"; (case h2 => k_extra "my om"); intro v9 n9 h9 tk9 p9 F9 N9; (obtain ⟨e9, ⟨y9, e8⟩ | ⟨x9, k9, t9, y9, e8⟩⟩ := p9 <;> (subst e9; subst e8; (try k_sweep); k_extra "my then"))))
  exact trivial

theorem part17_ : True := by w_top off; exact trivial
theorem oneOf_q {x : Str} {i : Int} (h0 : 0 ≤ i) (hok : ∀ c ∈ cs x, c < 128 ∧ c ≠ 63) : oneOf x i (Str.ofString "?") = false := by
  rw [oneOf_eq h0, show cs (Str.ofString "?") = [63] from by decide +kernel]
  cases hc : (cs x)[i.toNat]? with
  | none => rfl
  | some c =>
    have := (hok c (List.mem_of_getElem? hc)).2
    simp [this]
theorem oneOf_self {x sg : Str} {i : Int} (h0 : 0 ≤ i) (h1 : i < x.length) (hs : (cs x).getD i.toNat 0 ∈ cs sg) : oneOf x i sg = true := by
  rw [oneOf_eq h0]
  have h2 : i.toNat < (cs x).length := by rw [← len_cs]; omega
  rw [List.getElem?_eq_getElem h2]
  rw [List.getD_eq_getElem?_getD, List.getElem?_eq_getElem h2] at hs
  simpa using hs
theorem item_cs {x : Str} {i : Int} (h0 : 0 ≤ i) (h1 : i < x.length) : cs (Txt.item x i) = [(cs x).getD i.toNat 0] := by rw [item_nat x h0 h1]
theorem cs_app (a b : Str) : cs (a ++ b) = cs a ++ cs b := by
  show (a.cps ++ b.cps).toList = a.cps.toList ++ b.cps.toList
  simp
section
theorem mac17a_ : True := by
  (k_with "my stop" => (with_reducible show wpAny _ _ (pyIter (Value.ref _)) _ _ _))
  (k_with "my stop" => (with_reducible show wpAny _ _ (call (Value.ref 99) [Value.str _ _]) _ _ _))
  exact trivial
theorem law_stood_C (w : World) (mean mg mb) (txt : Str) (at_ : Int) (t1 t2 : Tok) (news : List (Addr × Obj)) (h0 : 0 ≤ at_) (h1 : at_ ≤ txt.length) (h2 : txt.length ≤ 100) (hok : ∀ c ∈ Mine.cs txt, c < 128 ∧ c ≠ 63) :
    callAt w mean mg mb 6 80 news 190 [.str txt t1, .int at_ t2] (fun v n => ∃ x dx u1 u2 u3, v = .ref x ∧ n = (x, rdI dx) :: (dx, rdr w txt at_ u1 t1 u2 u3) :: news ∧ (∀ p ∈ news, p.1 < dx) ∧ dx < x) := by
  unfold callAt
  intro dp un gd cn cs a ccd cl outer A₀ base h₀ L m s Q E B F X N T hk hd hu hret
  k_extra "my enter"
  k_extra "my steps"
  k_here
  k_dflt (refine' callAt.use (reader_C _ _ _ _ _ _ _) ?kB ?kF ?kX ?kN ?kT ?kK ?kd ?ku ?_)
  k_extra "my asks"
  intro v9 n9 h9 tk9 p9 F9 N9
  obtain ⟨x, dx, u1, u2, u3, e8, e7, q9, r9⟩ := p9
  subst e8
  subst e7
  have q8 : ∀ p ∈ news, p.1 ≠ dx := fun p hp => Nat.ne_of_lt (q9 p hp)
  have r8 : (@Ne Nat x dx) := Nat.ne_of_gt r9
  (try k_sweep)
  k_extra "my then"
  k_extra "my steps"
  with_reducible rename Fr _ _ _ _ => lF'
  with_reducible rename News _ _ _ _ => kN
  with_unfolding_all refine' For_invVF lF' ?k1 ?k2 ?_
  case k1 => exact rfl
  case k2 => exact rfl
  k_extra "my steps"
  with_reducible rename Fr _ _ _ _ => kF
  with_reducible rename IsRange _ _ _ _ _ _ _ _ => hR
  with_reducible rename News _ _ _ _ => kN
  refine kst_range (σ := Int × Tok) (fun c => (x, rdI dx) :: (dx, rdr w txt c.1 u1 t1 u2 c.2) :: news) (fun _ => []) (fun _ => True) [] (fun pre c => c.1 = pre.length) (0, u3) (by rfl) hR (small_one (by omega) (by omega) (by omega) (by omega)) (rangeSize_nat _ _) kF (news_sub kN fun p hp => by simp only [List.mem_cons] at hp ⊢; simp [hp]) trivial (fun _ h => nomatch h) rfl ?_ ?_
  · rintro ⟨c, tc⟩ pre k tk u h tk' own hkk hpre hoff _ hp F₁ N₁
    clear kF kN hR
    dsimp only at hp N₁
    have hk0 : 0 ≤ k := by omega
    have hkl : k < txt.length := by omega
    obtain rfl : c = k := by omega
    have hrs : ∀ p ∈ news ++ own, p.1 ≠ dx := fun p hp => (List.mem_append.mp hp).elim (q8 p) (hoff.ne (by simp) p)
    obtain ⟨rs, hrs'⟩ : ∃ rs, rs = news ++ own := ⟨_, rfl⟩
    rw [List.cons_append, List.cons_append, ← hrs'] at N₁
    rw [← hrs'] at hrs
    have z1 := oneOf_q hk0 hok
    have zi := item_cs hk0 hkl
    have z2 : oneOf txt c (Txt.item txt c ++ Str.ofString "?") = true := oneOf_self hk0 hkl (by rw [cs_app, zi]; simp)
    have z3 : oneOf txt c (Str.ofString "?" ++ Txt.item txt c) = true := oneOf_self hk0 hkl (by rw [cs_app, zi]; simp)
    have z4 : (Txt.item txt c != Txt.item txt c) = false := by simp
    have z5 : (S [] != Str.ofString "") = false := by decide +kernel
    k_extra "my steps"
    · exfalso
      have hc : ¬ (c + 1 = c + 1) := by assumption
      exact hc rfl
    · with_reducible rename Fr _ _ _ _ => kF
      with_reducible rename News _ _ _ _ => kN
      rw [hrs', ← List.cons_append, ← List.cons_append] at kN
      refine kst_end (c + 1, _) kF kN (fun p hp => List.mem_append_left _ hp) (fun p hp => List.mem_append_right _ hp) rfl trivial (fun _ h => nomatch h) ?_ ?_
      · intro z h1 h2 _
        simp only [kstB, h1, if_false, List.contains_nil, Bool.false_eq_true]
      · dsimp only
        rw [List.length_append, List.length_singleton]
        omega
  · rintro ⟨c, tc⟩ u h tk _ hp F₁ N₁
    clear kF kN hR
    dsimp only at hp N₁
    obtain rfl : c = at_ := by rw [hp, rangeKs_length]; omega
    k_extra "my steps"
    with_reducible rename Fr _ _ _ _ => kF
    with_reducible rename News _ _ _ _ => kN
    exact hret _ _ _ _ ⟨x, dx, u1, u2, _, rfl, rfl, q9, r9⟩ kF kN
end
theorem mac17b_ : True := by
  (k_with "my call ref" => (k_here; (with_reducible show wpAny _ _ (call (Value.ref 190) [Value.str _ _, Value.int _ _]) _ _ _); k_dflt (refine' callAt.use (law_stood_C _ _ _ _ _ _ _ _ _ ?h0 ?h1 ?h2 ?hok) ?kB ?kF ?kX ?kN ?kT ?kK ?kd ?ku ?_); k_extra "my asks"; (case h0 => k_extra "my om"); (case h1 => k_extra "my om"); (case h2 => k_extra "my om"); (case hok => assumption); intro v9 n9 h9 tk9 p9 F9 N9; (obtain ⟨x9, d9, a9, b9, c9, e8, e7, q9, r9⟩ := p9); subst e8; subst e7; (have q8 := fun p hp => Nat.ne_of_lt (q9 p hp)); (have r8 := Nat.ne_of_gt r9); (try k_sweep); k_extra "my then"))
  exact trivial

theorem part18_ : True := by w_top off; exact trivial
/-- the source of draws -/
abbrev srcO (a b : Int) (ta tb : Tok) (k : Nat) : Obj := listOf #[.int a ta, .int b tb] k
theorem law_take_0 (w : World) (mean mg mb) (l : Addr) (a b top : Int) (ta tb t1 : Tok) (k : Nat) (rest : List (Addr × Obj)) (hoff : ∀ p ∈ rest, p.1 ≠ l) (ha : 0 ≤ a) (hb0 : 0 ≤ b) (hb1 : b < 2147483647) (ht0 : 1 ≤ top) (ht1 : top ≤ 200) :
    callAt w mean mg mb 1 16 ((l, srcO a b ta tb k) :: rest) 138 [.ref l, .int top t1]
      (fun v n => ∃ o', n = (l, o') :: rest ∧ ∃ r a' b' t ta' tb' k', v = .int r t ∧ (0 ≤ r ∧ r < top ∧ 0 ≤ a' ∧ 0 ≤ b' ∧ b' < 2147483647) ∧ o' = srcO a' b' ta' tb' k') := by
  unfold callAt
  intro dp un gd cn cs ad ccd cl outer A₀ base h₀ L m s Q E B F X N T hk hd hu hret
  k_extra "my enter"
  k_extra "my steps"
  · with_reducible rename Fr _ _ _ _ => kF
    with_reducible rename News _ _ _ _ => kN
    exact hret _ _ _ _ ⟨_, rfl, _, _, _, _, _, _, _, rfl, ⟨Int.fmod_nonneg_of_pos _ (by omega), Int.fmod_lt_of_pos _ (by omega), Int.fdiv_nonneg ha (by omega), hb0, hb1⟩, rfl⟩ kF kN
  · obtain ⟨C, hC⟩ : ∃ C : Int, C = (b * 39373 + 7).fmod 2147483647 := ⟨_, rfl⟩
    have hC0 : 0 ≤ C := hC ▸ Int.fmod_nonneg_of_pos _ (by omega)
    have hC1 : C < 2147483647 := hC ▸ Int.fmod_lt_of_pos _ (by omega)
    rw [show ([a, ([a, b].getD (Int.toNat 1) 0 * 39373 + 7).fmod 2147483647].getD (Int.toNat 1) 0) = C from hC.symm]
    refine PyProof.Rows.mul_int ?_ (IntMulOk.of_left (intBits_le_64 (by omega) (by omega)))
    k_extra "my steps"
    with_reducible rename Fr _ _ _ _ => kF
    with_reducible rename News _ _ _ _ => kN
    refine hret _ _ _ _ ⟨_, rfl, _, _, _, _, _, _, _, rfl, ⟨Int.fmod_nonneg_of_pos _ (by omega), Int.fmod_lt_of_pos _ (by omega), ha, ?_, ?_⟩, rfl⟩ kF kN
    · exact Int.fmod_nonneg_of_pos _ (by omega)
    · exact Int.fmod_lt_of_pos _ (by omega)
theorem callAt.upd1 {w : World} {mean : ExcName → Option Value} {mg mb : Str → Option Value} {D U : Nat} {l : List (Addr × Obj)} {f : Addr} {args : List Value} {dx : Addr} {od : Obj} {P : Value → Obj → Prop} {g : Obj → List (Addr × Obj)}
    (C : ∀ rest, (∀ p ∈ rest, p.1 ≠ dx) → callAt w mean mg mb D U ((dx, od) :: rest) f args (fun v n => ∃ o', n = (dx, o') :: rest ∧ P v o'))
    (hU : UpdF dx od l g) : callAt w mean mg mb D U l f args (fun v n => ∃ o', n = g o' ∧ P v o') := by
  obtain ⟨pre, post, rfl, hg, h1, h2⟩ := hU.split
  refine (C (pre ++ post) (fun p hp => (List.mem_append.mp hp).elim (h1 p) (h2 p))).sub (fun p hp => ?_) fun v n hp => ?_
  · rcases List.mem_cons.mp hp with rfl | hp
    · exact List.mem_append_right _ (.head _)
    · exact (List.mem_append.mp hp).elim (fun h => List.mem_append_left _ h) fun h => List.mem_append_right _ (.tail _ h)
  · obtain ⟨o', rfl, hP⟩ := hp
    refine ⟨g o', fun p hp => ?_, o', rfl, hP⟩
    rw [hg o'] at hp
    rcases List.mem_append.mp hp with h | h
    · exact .tail _ (List.mem_append_left _ h)
    · rcases List.mem_cons.mp h with rfl | h
      · exact .head _
      · exact .tail _ (List.mem_append_right _ h)
/-- a source that may be drawn from -/
def SrcOk (o : Obj) : Prop := ∃ a b ta tb k, o = srcO a b ta tb k ∧ 0 ≤ a ∧ 0 ≤ b ∧ b < 2147483647
theorem law_take_C (w : World) (mean mg mb) (l : Addr) (lo : Obj) (top : Int) (t1 : Tok) (news : List (Addr × Obj)) (g : Obj → List (Addr × Obj)) (hU : UpdF l lo news g) (hs : SrcOk lo) (ht0 : 1 ≤ top) (ht1 : top ≤ 200) :
    callAt w mean mg mb 1 16 news 138 [.ref l, .int top t1] (fun v n => ∃ o', n = g o' ∧ SrcOk o' ∧ ∃ r t, v = .int r t ∧ 0 ≤ r ∧ r < top) := by
  obtain ⟨a, b, ta, tb, k, rfl, ha, hb0, hb1⟩ := hs
  refine callAt.upd1 (fun rest hoff => (law_take_0 w mean mg mb l a b top ta tb t1 k rest hoff ha hb0 hb1 ht0 ht1).mono fun v n h => ?_) hU
  obtain ⟨o', h1, r, a', b', t, ta', tb', k', h2, ⟨h3, h4, h5, h6, h7⟩, h8⟩ := h
  exact ⟨o', h1, ⟨a', b', ta', tb', k', h8, h5, h6, h7⟩, r, t, h2, h3, h4⟩
theorem mac18a_ : True := by
  (k_with "my call ref" => (k_here; (with_reducible show wpAny _ _ (call (Value.ref 138) [Value.ref _, Value.int _ _]) _ _ _); k_dflt (refine' callAt.use (law_take_C _ _ _ _ _ _ _ _ _ _ ?hU ?hs ?h0 ?h1) ?kB ?kF ?kX ?kN ?kT ?kK ?kd ?ku ?_); k_extra "my asks"; (case hU => k_updF); (case hs => assumption); (case h0 => k_extra "my om"); (case h1 => k_extra "my om"); intro v9 n9 h9 tk9 p9 F9 N9; (obtain ⟨o9, e9, s9, r9, t9, e8, y9, y8⟩ := p9); subst e9; subst e8; (try dsimp only at N9); (try k_sweep); k_extra "my then"))
  exact trivial
theorem law_one_C (w : World) (mean mg mb) (l a : Addr) (lo : Obj) (vs : List Value) (k : Nat) (news : List (Addr × Obj)) (g : Obj → List (Addr × Obj)) (hU : UpdF l lo news g) (hs : SrcOk lo) (ha : (a, listOf vs.toArray k) ∈ news) (hag : ∀ o', (a, listOf vs.toArray k) ∈ g o') (hl0 : 1 ≤ vs.length) (hl1 : vs.length ≤ 100) :
    callAt w mean mg mb 3 40 news 145 [.ref l, .ref a] (fun v n => ∃ o', n = g o' ∧ SrcOk o' ∧ v ∈ vs) := by
  unfold callAt
  intro dp un gd cn cs ad ccd cl outer A₀ base h₀ L m s Q E B F X N T hk hd hu hret
  k_extra "my enter"
  k_extra "my steps"
  with_reducible rename Fr _ _ _ _ => kF
  with_reducible rename News _ _ _ _ => kN
  refine' len_list ?zl ?zf ?_
  case zl => exact ⟨_, (kN _ ha).1, rfl, _, rfl⟩
  case zf => rw [List.size_toArray]; omega
  rw [List.size_toArray]
  k_extra "my steps"
  k_here
  k_dflt (refine' callAt.use (law_take_C _ _ _ _ _ _ _ _ _ _ hU hs ?h0 ?h1) ?kB ?kF ?kX ?kN ?kT ?kK ?kd ?ku ?_)
  k_extra "my asks"
  (case h0 => omega)
  (case h1 => omega)
  intro v9 n9 h9 tk9 p9 F9 N9
  obtain ⟨o9, e9, s9, r, t9, e8, y9, y8⟩ := p9
  subst e9
  subst e8
  k_extra "my then"
  clear kF kN
  k_extra "my steps"
  have hi : r.toNat < vs.length := by omega
  refine item_listL (x := vs[r.toNat]) ⟨_, (N9 _ (hag o9)).1, rfl, _, rfl⟩ y9 (by omega) (List.getElem?_eq_getElem hi) ?_
  k_extra "my steps"
  with_reducible rename Fr _ _ _ _ => kF
  with_reducible rename News _ _ _ _ => kN
  exact hret _ _ _ _ ⟨_, rfl, s9, List.getElem_mem hi⟩ kF kN

theorem part19_ : True := by w_top off; exact trivial
def pieceB (x : Str) : Bool := decide (x.length ≤ 10) && (cs x).all fun c => c < 128 && c != 63
/-- a text that may be drawn: short, plain signs, no question mark -/
def OkN (n : Nat) (x : Str) : Prop := x.length ≤ n ∧ ∀ c ∈ cs x, c < 128 ∧ c ≠ 63
theorem okN_piece {x : Str} (h : pieceB x = true) : OkN 10 x := by
  unfold pieceB at h
  simp only [Bool.and_eq_true, decide_eq_true_eq, List.all_eq_true, bne_iff_ne] at h
  exact ⟨h.1, fun c hc => by have := h.2 c hc; simpa using this⟩
theorem okN_app {a b : Nat} {x y : Str} (hx : OkN a x) (hy : OkN b y) : OkN (a + b) (x ++ y) := by
  refine ⟨by rw [Str.length_append]; exact Nat.add_le_add hx.1 hy.1, fun c hc => ?_⟩
  rw [cs_app] at hc
  exact (List.mem_append.mp hc).elim (hx.2 c) (hy.2 c)
def piecesB (vs : List Value) : Bool := decide (1 ≤ vs.length) && decide (vs.length ≤ 100) && vs.all fun v => match v with
  | .str x _ => pieceB x
  | _ => false
theorem pieces_mem {vs : List Value} (h : piecesB vs = true) : 1 ≤ vs.length ∧ vs.length ≤ 100 ∧ ∀ v ∈ vs, ∃ x t, v = .str x t ∧ OkN 10 x := by
  unfold piecesB at h
  simp only [Bool.and_eq_true, decide_eq_true_eq, List.all_eq_true] at h
  refine ⟨h.1.1, h.1.2, fun v hv => ?_⟩
  have := h.2 v hv
  split at this
  · exact ⟨_, _, rfl, okN_piece this⟩
  · cases this
theorem law_one_S (w : World) (mean mg mb) (l a : Addr) (lo : Obj) (vs : List Value) (k : Nat) (news : List (Addr × Obj)) (g : Obj → List (Addr × Obj)) (hU : UpdF l lo news g) (hs : SrcOk lo) (ha : (a, listOf vs.toArray k) ∈ news) (hag : ∀ o', (a, listOf vs.toArray k) ∈ g o') (hok : piecesB vs = true) :
    callAt w mean mg mb 3 40 news 145 [.ref l, .ref a] (fun v n => ∃ o', n = g o' ∧ SrcOk o' ∧ ∃ x t, v = .str x t ∧ OkN 10 x) := by
  obtain ⟨h1, h2, h3⟩ := pieces_mem hok
  refine (law_one_C w mean mg mb l a lo vs k news g hU hs ha hag h1 h2).mono fun v n h => ?_
  obtain ⟨o', e1, e2, e3⟩ := h
  obtain ⟨x, t, h4, h5⟩ := h3 v e3
  exact ⟨o', e1, e2, x, t, h4, h5⟩
theorem mac19a_ : True := by
  (k_with "my call ref" => (k_here; (with_reducible show wpAny _ _ (call (Value.ref 145) [Value.ref _, Value.ref _]) _ _ _); k_dflt (refine' callAt.use (law_one_S _ _ _ _ _ _ _ _ _ _ _ ?hU ?hs ?ha ?hag ?hok) ?kB ?kF ?kX ?kN ?kT ?kK ?kd ?ku ?_); k_extra "my asks"; (case hU => k_updF); (case hs => assumption); (case ha => k_mem); (case hag => (intro _; k_mem)); (case hok => kernel_rfl); intro v9 n9 h9 tk9 p9 F9 N9; (obtain ⟨o9, e9, s9, x9, t9, e8, y9⟩ := p9); subst e9; subst e8; (try dsimp only at N9); (try k_sweep); k_extra "my then"))
  exact trivial
theorem add_ok {prog : Program} {w : World} {A : Around} {E : Value → Shared → Prop} {s : Shared} {x y : Str} {a b : Nat} {t u : Tok} {Q : Value → Shared → Prop} (hx : OkN a x) (hy : OkN b y) (hab : a + b ≤ 100) (h : ∀ z t' tk, OkN (a + b) z → Q (.str z t') { s with toks := tk }) :
    wpAny (model prog w) A (binaryOp .Add (.str x t) (.str y u)) Q E s :=
  PyProof.Rows.add_str (fun t' tk => h _ t' tk (okN_app hx hy)) (by have := hx.1; have := hy.1; rw [sizeLine_eq]; omega)
theorem mac19b_ : True := by
  (k_with "my binaryOp Add str str" => ((with_reducible show wpAny _ _ (binaryOp Operator.Add (Value.str _ _) (Value.str _ _)) _ _ _); refine' add_ok ?hx ?hy ?hab ?_; (case hx => assumption); (case hy => assumption); (case hab => decide); intro z9 t9 k9 y9))
  exact trivial
theorem okN_le {a b : Nat} {x : Str} (h : OkN a x) (hab : a ≤ b) : OkN b x := ⟨Nat.le_trans h.1 hab, h.2⟩
/-- what holds between the turns of the drawn pieces -/
def InvD (G : Obj → List (Addr × Obj)) (i : Nat) (ys : List Value) (nx : List (Addr × Obj)) : Prop := ∃ o, nx = G o ∧ SrcOk o ∧ ys.length = i ∧ ∃ ws, StrsAre ys ws ∧ ∀ x ∈ ws, OkN 10 x
theorem sum_ok {ws : List Str} (h : ∀ x ∈ ws, OkN 10 x) : (ws.map (·.length)).sum ≤ 10 * ws.length := by
  induction ws with
  | nil => simp
  | cons a r ih =>
    have h1 := (h a (by simp)).1
    have h2 := ih fun x hx => h x (by simp [hx])
    simp only [List.map_cons, List.sum_cons, List.length_cons]
    omega
theorem join_ok {ws : List Str} (h : ∀ x ∈ ws, OkN 10 x) : OkN (10 * ws.length) (Txt.join (Str.ofString "") ws) := by
  have e : Txt.join (Str.ofString "") ws = Str.join (Str.ofString "") ws := StrLaws.glued_eq_join _ ws
  rw [e]
  have hs := sum_ok h
  have h0 : (Str.ofString "").length = 0 := by decide +kernel
  refine ⟨?_, fun c hc => ?_⟩
  · have := StrLaws.join_length_le (Str.ofString "") ws
    rw [h0] at this
    omega
  · rcases (mem_join _ c ws).mp hc with ⟨t, ht, hct⟩ | ⟨_, hct⟩
    · exact (h t ht).2 c hct
    · have e0 : (Str.ofString "").cps.toList = [] := by decide +kernel
      rw [e0] at hct
      cases hct
theorem restD {prog : Program} {w : World} {A : Around} {s : Shared} {h₀ : Heap} {L : Addr} {m : Str → Option Value} {env : Env} {elt : Expr} {x : Str} {scope : Scope} {cl : List (Str × Addr)} {S : List (Addr × Obj) → Prop} {P : Nat → Value → Prop} {Fin : List Value → List (Addr × Obj) → Prop} {n : Nat} {l : Addr} {rest : List (Addr × Obj)} {e1 e2 e3 : Addr × Obj} {o : Obj}
    (so : SrcOk o)
    (turn : ∀ i v ys nx I oI C oC D m₂ h tk (E' : Value → Shared → Prop), i < n → P i v → InvD (fun z => e1 :: e2 :: e3 :: (l, z) :: rest) i ys nx → LCg.NsObj oC m₂ → m₂ x = some v → Fr h₀ L h m → News h₀ L h ((I, oI) :: (C, oC) :: (D, LCg.lst ys) :: nx) → LCg.Off3 I C D nx → ((@Ne Nat I C) ∧ (@Ne Nat I D) ∧ (@Ne Nat C D)) →
      wpAny (model prog w) A (eval elt (compEnvC scope cl C env)) (LCg.CompEnd h₀ L m { s with heap := h, toks := tk } I oI C oC D (LCg.lst ys) S (fun y nx' => InvD (fun z => e1 :: e2 :: e3 :: (l, z) :: rest) (i + 1) (ys ++ [y]) nx')) E' { s with heap := h, toks := tk })
    (fin : ∀ ys nx, InvD (fun z => e1 :: e2 :: e3 :: (l, z) :: rest) n ys nx → Fin ys nx) : LCg.CompRest prog w A h₀ L m env elt x scope cl s S P Fin n 0 [] (e1 :: e2 :: e3 :: (l, o) :: rest) := by
  exact restU (InvD (fun z => e1 :: e2 :: e3 :: (l, z) :: rest)) ⟨o, rfl, so, rfl, [], .nil, fun _ h => nomatch h⟩ turn fin
theorem law_drawn_0 (w : World) (mean mg mb) (l : Addr) (lo : Obj) (rest : List (Addr × Obj)) (hoff : ∀ p ∈ rest, p.1 ≠ l) (hs : SrcOk lo) :
    callAt w mean mg mb 6 160 ((l, lo) :: rest) 202 [.ref l] (fun v n => ∃ o', n = (l, o') :: rest ∧ SrcOk o' ∧ ∃ x t, v = .str x t ∧ OkN 60 x) := by
  unfold callAt
  intro dp un gd cn cs ad ccd cl outer A₀ base h₀ L m s Q E B F X N T hk hd hu hret
  k_extra "my enterC"
  with_reducible rename _ ∧ AllLt _ rest => hl1
  have c1 := fun (p : Addr × Obj) (hp : p ∈ rest) => Nat.ne_of_lt (Nat.lt_succ_of_lt (lt_all hl1.2 p hp))
  have c2 := fun (p : Addr × Obj) (hp : p ∈ rest) => Nat.ne_of_lt (Nat.lt_succ_of_lt (Nat.lt_succ_of_lt (lt_all hl1.2 p hp)))
  k_extra "my steps"
  · with_reducible rename Fr _ _ _ _ => kF
    with_reducible rename News _ _ _ _ => kN
    exact hret _ _ _ _ ⟨_, rfl, by assumption, _, _, rfl, okN_le (by assumption) (by decide)⟩ kF (news_sub kN fun p hp => (List.mem_cons.mp hp).elim (fun e => by simp [e]) fun hp => by simp [hp])
  · with_reducible rename Fr _ _ _ _ => kF
    with_reducible rename News _ _ _ _ => kN
    refine LCg.ListComp_U (F₀ := kF) (by with_unfolding_all rfl) (by decide) (by rfl) (by decide) (by rfl) ?_
    k_extra "my steps"
    with_reducible rename IsRange _ _ _ _ _ _ _ _ => hR
    with_reducible rename Fr _ _ _ _ => kF
    with_reducible rename News _ _ _ _ => kN
    refine LCg.CompSrc.range (by rfl) kF kN hR (small_one (by omega) (by omega) (by omega) (by omega)) (rangeSize_nat _ _) (by rw [sizeLine_eq]; omega) ?_
    intro g9
    dsimp only
    with_reducible rename SrcOk _ => so9
    refine restD so9 ?_ ?_
    · rintro i v ys nx I oI C oC D m₂ h tk E' hi ⟨t9, rfl⟩ ⟨o, rfl, so, hlen, ws, hw, hok⟩ hC hx F₁ N₁ off ne
      clear kF kN hR
      have off0 := off
      simp only [LCg.Off3] at off
      dsimp only at N₁
      k_extra "my steps"
      show LCg.CompEnd _ _ _ _ _ _ _ _ _ _ _ _ _ _
      with_reducible rename Fr _ _ _ _ => kF
      with_reducible rename News _ _ _ _ => kN
      with_reducible rename OkN 10 _ => ox
      with_reducible rename SrcOk _ => sx
      refine LCg.CompEnd.intro kF kN _ ?_ ?_ True.intro ⟨_, rfl, sx, by rw [List.length_append, List.length_singleton, hlen], ws ++ [_], KStt.strs_snoc hw, fun y hy => (List.mem_append.mp hy).elim (hok y) fun h => List.mem_singleton.mp h ▸ ox⟩
      · first | kst_in | kst_inAny
      · simpa only [LCg.Off3] using off0
    · rintro ys nx ⟨o, rfl, so, hlen, ws, hw, hok⟩
      clear kF kN hR
      intro D h tk kF kN o₂
      dsimp only at kN
      k_extra "my steps"
      have hsum := sum_ok hok
      have hwl : ws.length = ys.length := hw.length.symm
      have hle : ws.length ≤ 6 := by rw [hwl, hlen]; omega
      have hlD : h.IsList D ys.toArray := ⟨LCg.lst ys, (kN (D, LCg.lst ys) List.mem_cons_self).1, rfl, _, rfl⟩
      refine join_listW (ys := ws) hlD (by simpa using hw) (by decide +kernel) (by omega) ?_
      intro t' k'
      have hj := okN_le (join_ok hok) (show 10 * ws.length ≤ 60 by omega)
      k_extra "my steps"
      with_reducible rename Fr _ _ _ _ => kF
      with_reducible rename News _ _ _ _ => kN
      exact hret _ _ _ _ ⟨_, rfl, so, _, _, rfl, hj⟩ kF (news_sub kN fun p hp => (List.mem_cons.mp hp).elim (fun e => by simp [e]) fun hp => by simp [hp])
theorem law_drawn_C (w : World) (mean mg mb) (l : Addr) (lo : Obj) (news : List (Addr × Obj)) (g : Obj → List (Addr × Obj)) (hU : UpdF l lo news g) (hs : SrcOk lo) :
    callAt w mean mg mb 6 160 news 202 [.ref l] (fun v n => ∃ o', n = g o' ∧ SrcOk o' ∧ ∃ x t, v = .str x t ∧ OkN 60 x) :=
  callAt.upd1 (fun rest hoff => law_drawn_0 w mean mg mb l lo rest hoff hs) hU

theorem part20_ : True := by w_top off; exact trivial
theorem oneOf_any {x : Str} {i : Int} (h0 : 0 ≤ i) (h1 : i ≤ x.length) : oneOf x i (x ++ Str.ofString "?") = !decide (i = x.length) := by
  by_cases h : i = x.length
  · rw [decide_eq_true h]
    cases hc : oneOf x i (x ++ Str.ofString "?") with
    | false => rfl
    | true => have := oneOf_lt hc; omega
  · rw [decide_eq_false h]
    have h2 : i.toNat < (cs x).length := by rw [← len_cs]; omega
    refine oneOf_self h0 (by omega) ?_
    rw [cs_app, List.getD_eq_getElem?_getD, List.getElem?_eq_getElem h2]
    exact List.mem_append_left _ (List.getElem_mem h2)
theorem mac20a_ : True := by
  (k_with "my call ref" => (k_here; (with_reducible show wpAny _ _ (call (Value.ref 96) [Value.ref _]) _ _ _); k_dflt (refine' callAt.use (digits_C _ _ _ _ _ _ _ _ _ _ _ _ _ _ ?hx ?hU ?h0 ?h1 ?h2) ?kB ?kF ?kX ?kN ?kT ?kK ?kd ?ku ?_); k_extra "my asks"; (case hx => k_mem); (case hU => k_updF); (case h0 => k_extra "my om"); (case h1 => k_extra "my om"); (case h2 => k_extra "my om"); intro v9 n9 h9 tk9 p9 F9 N9; (obtain ⟨o9, e9, t9, u9, e8, e7⟩ := p9); subst e9; subst e8; subst e7; (try dsimp only at N9); (try k_sweep); k_extra "my then"))
  (k_with "my call ref" => (k_here; (with_reducible show wpAny _ _ (call (Value.ref 150) [Value.str _ _, Value.int _ _]) _ _ _); k_dflt (refine' callAt.use (law_run_C _ _ _ _ _ _ _ _ _ ?h0 ?h1 ?h2 ?hok) ?kB ?kF ?kX ?kN ?kT ?kK ?kd ?ku ?_); k_extra "my asks"; (case h0 => k_extra "my om"); (case h1 => k_extra "my om"); (case h2 => k_extra "my om"); (case hok => assumption); intro v9 n9 h9 tk9 p9 F9 N9; (obtain ⟨e9, t9, e8⟩ := p9); subst e9; subst e8; (try k_sweep); k_extra "my then"))
  (k_with "my call ref" => (k_here; (with_reducible show wpAny _ _ (call (Value.ref 162) [Value.str _ _, Value.int _ _]) _ _ _); k_dflt (refine' callAt.use (law_expo_C _ _ _ _ _ _ _ _ _ ?h0 ?h1 ?h2 ?hok) ?kB ?kF ?kX ?kN ?kT ?kK ?kd ?ku ?_); k_extra "my asks"; (case h0 => k_extra "my om"); (case h1 => k_extra "my om"); (case h2 => k_extra "my om"); (case hok => assumption); intro v9 n9 h9 tk9 p9 F9 N9; (rcases expo_cases p9 with ⟨y9, e8, e9⟩ | ⟨x9, k9, l9, ta9, tb9, y9, e8, q9, e9⟩ <;> (clear p9; (try have z9 := expo_bound (by k_extra "my om") (by k_extra "my om") y9); subst e9; subst e8; (try k_lt q9); (try k_sweep); k_extra "my then"))))
  (k_with "my len" => first | k_extra "my om" | exact app_len (by k_extra "my om") | exact app_len (by simp only [List.length_nil]; k_extra "my om"))
  (k_with "my call ref" => (k_here; (with_reducible show wpAny _ _ (call (Value.ref 155) [Value.str _ _]) _ _ _); k_dflt (refine' callAt.use (law_worth_C _ _ _ _ _ _ _ ?hf ?hl) ?kB ?kF ?kX ?kN ?kT ?kK ?kd ?ku ?_); k_extra "my asks"; (case hf => k_extra "my figs"); (case hl => first | assumption | k_extra "my len"); intro v9 n9 h9 tk9 p9 F9 N9; (obtain ⟨e9, t9, e8⟩ := p9); subst e9; subst e8; (try k_sweep); k_extra "my then"))
  (k_with "my call ref" => (k_here; (with_reducible show wpAny _ _ (call (Value.ref 190) [Value.str _ _, Value.int _ _]) _ _ _); k_dflt (refine' callAt.use (law_stood_C _ _ _ _ _ _ _ _ _ ?h0 ?h1 ?h2 ?hok) ?kB ?kF ?kX ?kN ?kT ?kK ?kd ?ku ?_); k_extra "my asks"; (case h0 => k_extra "my om"); (case h1 => k_extra "my om"); (case h2 => k_extra "my om"); (case hok => assumption); intro v9 n9 h9 tk9 p9 F9 N9; (obtain ⟨x9, d9, a9, b9, c9, e8, e7, q9, r9⟩ := p9); subst e8; subst e7; (have q8 := fun p hp => Nat.ne_of_lt (q9 p hp)); (try have q7 := fun p hp => q8 p (.tail _ (.tail _ hp))); (have r8 := Nat.ne_of_gt r9); (try k_lt q9); (try k_lt2 r9); (try k_sweep); k_extra "my then"))
  exact trivial
theorem law_place_C (w : World) (mean mg mb) (txt : Str) (at_ : Int) (t1 t2 : Tok) (news : List (Addr × Obj)) (h0 : 0 ≤ at_) (h1 : at_ ≤ txt.length) (h2 : txt.length ≤ 100) (hok : ∀ c ∈ Mine.cs txt, c < 128 ∧ c ≠ 63) :
    callT w mean mg mb 12 240 news 197 [.str txt t1, .int at_ t2] (fun v n => n = news ∧ v = .bool true) := by
  unfold callT
  intro dp un gd cn cs a ccd A₀ base h₀ L m s Q E B F X N T XB TB hk hd hu hret
  have kp : KeepL news := ⟨⟩
  have hlen := len_cs txt
  have z1 := oneOf_any h0 h1
  have z2 : (S (run ((Mine.cs txt).drop at_.toNat)) != S (run ((Mine.cs txt).drop at_.toNat))) = false := by simp
  have z3 : (S (run ((Mine.cs txt).drop at_.toNat))).length ≤ 200 := by
    have := run_len_le ((Mine.cs txt).drop at_.toNat)
    rw [List.length_drop] at this
    rw [len_S]
    omega
  have z4 : ((at_ == ((txt.length : Nat) : Int)) != !oneOf txt at_ (txt ++ Str.ofString "?")) = false := by
    rw [z1, Bool.not_not, show (at_ == ((txt.length : Nat) : Int)) = decide (at_ = ((txt.length : Nat) : Int)) from rfl]
    simp
  k_extra "my enterT"
  k_extra "my steps"
  · exfalso
    have hc : ¬ (at_ + ((run ((Mine.cs txt).drop at_.toNat)).length : Int) = at_ + ((run ((Mine.cs txt).drop at_.toNat)).length : Int)) := by assumption
    exact hc rfl
  · exfalso
    have hc : ¬ (((wor (Mine.cs (S (run ((Mine.cs txt).drop at_.toNat)))) : Nat) : Int) = ((wor (Mine.cs (S (run ((Mine.cs txt).drop at_.toNat)))) : Nat) : Int)) := by assumption
    exact hc rfl
  · exfalso
    with_reducible rename expoAt _ _ = none => y1
    with_reducible rename expoAt _ _ = some _ => y2
    rw [y1] at y2
    cases y2
  · with_reducible rename RaisedSN _ _ _ _ _ _ _ => R9
    with_reducible rename Fr _ _ _ _ => F9
    with_reducible rename Heap.UpToSlots _ _ => U9
    with_reducible rename Below _ _ _ _ => kB
    with_reducible rename KtsDicts _ _ => kD
    refine caught_own R9 F9 kB U9 XB TB kD .refl (by k_is) ?_
    intro h9 g9 T9 F9 N9 B9 X9 P9 D9
    k_extra "my steps"
    show LeaveS0 _ _ _ _ _ _ _ _
    exact leaveS0_ F9 N9 T9 fun F₀ N₀ => hret _ _ _ _ ⟨rfl, rfl⟩ F₀ N₀
  · with_reducible rename Fr _ _ _ _ => kF
    with_reducible rename News _ _ _ _ => kN
    with_reducible rename expoAt _ _ = some _ => y1
    revert y1
    with_reducible rename expoAt _ _ = some _ => y2
    intro y1
    have q := Option.some.inj (y1.symm.trans y2)
    injection q with q1 q2
    subst q1
    subst q2
    refine leaveS0_ kF (news_sub (l' := news) kN (fun p hp => by simp [hp])) .refl fun F₀ N₀ => ?_
    exact hret _ _ _ _ ⟨rfl, by simp⟩ F₀ N₀
  · exfalso
    with_reducible rename expoAt _ _ = none => y1
    with_reducible rename expoAt _ _ = some _ => y2
    rw [y1] at y2
    cases y2
theorem mac20b_ : True := by
  (k_with "my call ref" => (k_here; (with_reducible show wpAny _ _ (call (Value.ref 197) [Value.str _ _, Value.int _ _]) _ _ _); k_dflt (refine' callT.use (law_place_C _ _ _ _ _ _ _ _ _ ?h0 ?h1 ?h2 ?hok) ?kB ?kF ?kX ?kN ?kT ?kXB ?kTB ?kK ?kd ?ku ?_); k_extra "my asksT"; (case h0 => k_extra "my om"); (case h1 => k_extra "my om"); (case h2 => k_extra "my om"); (case hok => assumption); intro v9 n9 h9 tk9 p9 F9 N9; (obtain ⟨e9, e8⟩ := p9); subst e9; subst e8; (try k_sweep); k_extra "my then"))
  exact trivial

theorem part21_ : True := by w_top off; exact trivial
theorem callT.mono {w : World} {mean : ExcName → Option Value} {mg mb : Str → Option Value} {D U : Nat} {news : List (Addr × Obj)} {f : Addr} {args : List Value} {Post Post' : Value → (List (Addr × Obj)) → Prop}
    (C : callT w mean mg mb D U news f args Post) (h : ∀ v n, Post v n → Post' v n) : callT w mean mg mb D U news f args Post' :=
  fun _ _ _ _ _ _ _ _ _ _ _ _ _ _ _ B F X N T XB TB hk hd hu ret => C _ _ _ _ _ _ _ _ _ _ _ _ _ _ _ B F X N T XB TB hk hd hu fun v n h' tk' hp => ret v n h' tk' (h v n hp)
theorem law_power_S (w : World) (mean mg mb) (txt : Str) (t1 : Tok) (news : List (Addr × Obj)) (e k : Int) (h2 : txt.length ≤ 100) (hx : expoAt txt 0 = some (e, k)) :
    callT w mean mg mb 8 120 news 183 [.str txt t1] (fun v n => n = news ∧ ∃ t, v = .int e t) :=
  (law_power_C w mean mg mb txt t1 news h2).mono fun v n h => by
    rcases h with ⟨h1, ⟨h3, _⟩ | ⟨e', k', t, h3, h4⟩⟩
    · rw [hx] at h3; cases h3
    · rw [hx] at h3
      have q := Option.some.inj h3
      injection q with q1 q2
      subst q1
      exact ⟨h1, t, h4⟩
theorem law_power_N (w : World) (mean mg mb) (txt : Str) (t1 : Tok) (news : List (Addr × Obj)) (h2 : txt.length ≤ 100) (hx : expoAt txt 0 = none) :
    callT w mean mg mb 8 120 news 183 [.str txt t1] (fun v n => n = news ∧ v = .none) :=
  (law_power_C w mean mg mb txt t1 news h2).mono fun v n h => by
    rcases h with ⟨h1, ⟨h3, h4⟩ | ⟨e', k', t, h3, h4⟩⟩
    · exact ⟨h1, h4⟩
    · rw [hx] at h3; cases h3
theorem p1 : expoAt (Str.ofString "e000000300") 0 = some (300, 10) := by decide +kernel
theorem p2 : expoAt (Str.ofString "E-7") 0 = some (-7, 3) := by decide +kernel
theorem p3 : expoAt (Str.ofString "x") 0 = some (0, 0) := by decide +kernel
theorem p4 : expoAt (Str.ofString "e0000000300") 0 = none := by decide +kernel
theorem p5 : expoAt (Str.ofString "e301") 0 = none := by decide +kernel
theorem p6 : expoAt (Str.ofString "e") 0 = none := by decide +kernel
theorem p7 : deciAt (Str.ofString "-12.50e+1") = some (-125, 1) := by decide +kernel
theorem p8 : deciAt (Str.ofString "1e301") = none := by decide +kernel

theorem part22_ : True := by w_top off; exact trivial
/-- a call of a def that reads a list of the base heap -/
def callL (w : World) (mean : ExcName → Option Value) (mg mb : Str → Option Value) (K : Heap → Prop) (D U : Nat) (news : List (Addr × Obj)) (f : Addr) (args : List Value) (Post : Value → (List (Addr × Obj)) → Prop) : Prop :=
  ∀ (dp un : Nat) (gd : Option (List Code)) (cn : Str) (cs : Scope) (a : Addr) (ccd : Value) (cl : List (Str × Addr)) (outer : List Env) (A₀ : Around) (base h₀ : Heap) (L : Addr) (m : Str → Option Value) (s : Shared) (Q E : Value → Shared → Prop),
    K h₀ → Below A₀ base outer h₀ → Fr h₀ L s.heap m → (hd.heap_1 w.params).In h₀ → News h₀ L s.heap news → Top top (looseW top [Str.ofString "fraction"]) mean mg mb h₀ → cs.kind = .function → dp + D < recursionLimit → un + U < cLine →
    (∀ v news' h' tk', Post v news' → Fr h₀ L h' m → News h₀ L h' news' → Q v { s with heap := h', toks := tk' }) →
    wpAny (model PySem.Challenge.rw_on0225_01.row.prog w) (ktrTop dp un gd cn cs L a ccd cl outer) (call (.ref f) args) Q E s
theorem callL.use {w : World} {mean : ExcName → Option Value} {mg mb : Str → Option Value} {K : Heap → Prop} {D U : Nat} {news : List (Addr × Obj)} {f : Addr} {args : List Value} {Post : Value → (List (Addr × Obj)) → Prop} {dp un : Nat} {gd : Option (List Code)} {cn : Str} {cs : Scope} {a : Addr} {ccd : Value} {cl : List (Str × Addr)} {outer : List Env} {A₀ : Around} {base h₀ : Heap} {L : Addr} {m : Str → Option Value} {s : Shared} {Q E : Value → Shared → Prop}
    (C : callL w mean mg mb K D U news f args Post) (hK : K h₀) (B : Below A₀ base outer h₀) (F : Fr h₀ L s.heap m) (X : (hd.heap_1 w.params).In h₀) (N : News h₀ L s.heap news) (T : Top top (looseW top [Str.ofString "fraction"]) mean mg mb h₀) (hk : cs.kind = .function) (hd : dp + D < recursionLimit) (hu : un + U < cLine)
    (ret : ∀ v news' h' tk', Post v news' → Fr h₀ L h' m → News h₀ L h' news' → Q v { s with heap := h', toks := tk' }) :
    wpAny (model PySem.Challenge.rw_on0225_01.row.prog w) (ktrTop dp un gd cn cs L a ccd cl outer) (call (.ref f) args) Q E s := C _ _ _ _ _ _ _ _ _ _ _ _ _ _ _ _ _ hK B F X N T hk hd hu ret
theorem law_pool_C (w : World) (mean mg mb) (sl : Addr) (vs : List Value) (ns : List Int) (k : Int) (t1 : Tok) (news : List (Addr × Obj)) (hI : IntsAre vs ns) (hn : ns.length ≤ 63) (k0 : 0 ≤ k) (k1 : k ≤ 2) :
    callL w mean mg mb (fun h => h.IsList sl vs.toArray) 4 60 news 131 [.ref sl, .int k t1] (fun v n => ∃ l o, v = .ref l ∧ (∀ p ∈ news, p.1 < l) ∧ n = (l, o) :: news ∧ SrcOk o) := by
  unfold callL
  intro dp un gd cn cs a ccd cl outer A₀ base h₀ L m s Q E hL B F X N T hk hd hu hret
  have hvn : vs.length = ns.length := hI.length
  k_extra "my enter"
  k_extra "my steps"
  with_reducible rename Fr h₀ L _ m => kG
  with_reducible rename Fr _ _ _ _ => kF
  have hLg := kG.lst hL
  refine' len_list (kF.lst hLg) ?zf ?_
  case zf => rw [List.size_toArray]; omega
  rw [List.size_toArray, hvn]
  k_extra "my steps"
  all_goals
    with_reducible rename Fr h₀ L _ m => kF
    with_reducible rename News h₀ L _ _ => kN
    refine hret _ _ _ _ ⟨_, _, rfl, by assumption, rfl, _, _, _, _, _, rfl, ?_, Int.fmod_nonneg_of_pos _ (by decide), Int.fmod_lt_of_pos _ (by decide)⟩ kF kN
    first | exact Int.le_refl 0 | (clear kF kN; split <;> omega)
theorem mac22a_ : True := by
  (k_with "my call ref" => (k_here; (with_reducible show wpAny _ _ (call (Value.ref 131) [Value.ref _, Value.int _ _]) _ _ _); k_dflt (refine' callL.use (law_pool_C _ _ _ _ _ _ _ _ _ _ ?hI ?hn ?h0 ?h1) ?hK ?kB ?kF ?kX ?kN ?kT ?kK ?kd ?ku ?_); k_extra "my asks"; (case hI => assumption); (case hK => assumption); (case hn => omega); (case h0 => k_extra "my om"); (case h1 => k_extra "my om"); intro v9 n9 h9 tk9 p9 F9 N9; (obtain ⟨l9, o9, e8, q9, e9, s9⟩ := p9); subst e9; subst e8; (try k_lt q9); (try k_sweep); k_extra "my then"))
  exact trivial

theorem part23_ : True := by w_top off; exact trivial
theorem law_read_S (w : World) (mean mg mb) (txt : Str) (t1 : Tok) (news : List (Addr × Obj)) (a b : Int) (h2 : txt.length ≤ 100) (hx : deciAt txt = some (a, b)) :
    callT w mean mg mb 12 240 news 176 [.str txt t1] (fun v n => ∃ l ta tb, v = .ref l ∧ (∀ p ∈ news, p.1 < l) ∧ n = (l, tup2 (.int a ta) (.int b tb)) :: news) :=
  (law_read_C w mean mg mb txt t1 news h2).mono fun v n h => by
    rw [hx] at h
    exact h
theorem law_read_N (w : World) (mean mg mb) (txt : Str) (t1 : Tok) (news : List (Addr × Obj)) (h2 : txt.length ≤ 100) (hx : deciAt txt = none) :
    callT w mean mg mb 12 240 news 176 [.str txt t1] (fun v n => v = .none ∧ n = news) :=
  (law_read_C w mean mg mb txt t1 news h2).mono fun v n h => by
    rw [hx] at h
    exact h
theorem mac23a_ : True := by
  (k_with "my call ref" => (k_here; (with_reducible show wpAny _ _ (call (Value.ref 183) [Value.str _ _]) _ _ _); k_dflt (refine' callT.use (law_power_S _ _ _ _ _ _ _ _ _ ?h2 ?hx) ?kB ?kF ?kX ?kN ?kT ?kXB ?kTB ?kK ?kd ?ku ?_); k_extra "my asksT"; (case hx => first | exact p1 | exact p2 | exact p3); (case h2 => decide +kernel); intro v9 n9 h9 tk9 p9 F9 N9; (obtain ⟨e9, t9, e8⟩ := p9); subst e9; subst e8; (try k_sweep); k_extra "my then"))
  (k_with "my call ref" => (k_here; (with_reducible show wpAny _ _ (call (Value.ref 183) [Value.str _ _]) _ _ _); k_dflt (refine' callT.use (law_power_N _ _ _ _ _ _ _ ?h2 ?hx) ?kB ?kF ?kX ?kN ?kT ?kXB ?kTB ?kK ?kd ?ku ?_); k_extra "my asksT"; (case hx => first | exact p4 | exact p5 | exact p6); (case h2 => decide +kernel); intro v9 n9 h9 tk9 p9 F9 N9; (obtain ⟨e9, e8⟩ := p9); subst e9; subst e8; (try k_sweep); k_extra "my then"))
  (k_with "my call ref" => (k_here; (with_reducible show wpAny _ _ (call (Value.ref 202) [Value.ref _]) _ _ _); k_dflt (refine' callAt.use (law_drawn_C _ _ _ _ _ _ _ _ ?hU ?hs) ?kB ?kF ?kX ?kN ?kT ?kK ?kd ?ku ?_); k_extra "my asks"; (case hU => k_updF); (case hs => assumption); intro v9 n9 h9 tk9 p9 F9 N9; (obtain ⟨o9, e9, s9, x9, t9, e8, y9⟩ := p9); subst e9; subst e8; (try dsimp only at N9); (try k_sweep); k_extra "my then"))
  (k_with "my call ref" => (k_here; (with_reducible show wpAny _ _ (call (Value.ref 176) [Value.str (Str.ofString "-12.50e+1") _]) _ _ _); k_dflt (refine' callT.use (law_read_S _ _ _ _ _ _ _ _ _ ?h2 p7) ?kB ?kF ?kX ?kN ?kT ?kXB ?kTB ?kK ?kd ?ku ?_); k_extra "my asksT"; (case h2 => decide +kernel); intro v9 n9 h9 tk9 p9 F9 N9; (obtain ⟨l9, ta9, tb9, e8, q9, e9⟩ := p9); subst e9; subst e8; (try k_lt q9); (try k_sweep); k_extra "my then"))
  (k_with "my call ref" => (k_here; (with_reducible show wpAny _ _ (call (Value.ref 176) [Value.str (Str.ofString "1e301") _]) _ _ _); k_dflt (refine' callT.use (law_read_N _ _ _ _ _ _ _ ?h2 p8) ?kB ?kF ?kX ?kN ?kT ?kXB ?kTB ?kK ?kd ?ku ?_); k_extra "my asksT"; (case h2 => decide +kernel); intro v9 n9 h9 tk9 p9 F9 N9; (obtain ⟨e8, e9⟩ := p9); subst e9; subst e8; (try k_sweep); k_extra "my then"))
  exact trivial
theorem mac23b_ : True := by
  (k_with "my stop" => (with_reducible show wpAny _ _ (call (Value.ref 176) [Value.str _ _]) _ _ _))
  (k_with "my stop" => (with_reducible show wpAny _ _ (pyIter (Value.ref _)) _ _ _))
  exact trivial
theorem law_dec_S (w : World) (mean mg mb) (txt : Str) (t1 : Tok) (news : List (Addr × Obj)) (a b : Int) (h2 : txt.length ≤ 100) (hok : ∀ c ∈ Mine.cs txt, c < 128 ∧ c ≠ 63) (hx : deciAt txt = some (a, b)) :
    callAt w mean mg mb 5 200 news 169 [.str txt t1] (fun v n => ∃ l ta tb, v = .ref l ∧ (∀ p ∈ news, p.1 < l) ∧ n = (l, tup2 (.int a ta) (.int b tb)) :: news) :=
  (law_dec_C w mean mg mb txt t1 news h2 hok).mono fun v n h => by
    rw [hx] at h
    exact h
theorem law_dec_N (w : World) (mean mg mb) (txt : Str) (t1 : Tok) (news : List (Addr × Obj)) (h2 : txt.length ≤ 100) (hok : ∀ c ∈ Mine.cs txt, c < 128 ∧ c ≠ 63) (hx : deciAt txt = none) :
    callAt w mean mg mb 5 200 news 169 [.str txt t1] (fun v n => v = .none ∧ n = news) :=
  (law_dec_C w mean mg mb txt t1 news h2 hok).mono fun v n h => by
    rw [hx] at h
    exact h
theorem fr_one {g h : Heap} {L : Addr} {m : Str → Option Value} {x : Str} {v : Value} (F : Fr g L h m) (e : m x = some v) : ∃ r : Str → Option Value, Fr g L h (fun y => if y = x then some v else r y) :=
  ⟨m, by
    have : (fun y => if y = x then some v else m y) = m := funext fun y => by
      by_cases hy : y = x
      · rw [if_pos hy, hy, e]
      · rw [if_neg hy]
    rw [this]
    exact F⟩
theorem range_three {h : Heap} {r : Addr} {n : Nat} {t u v : Tok} (R : IsRange h r 0 (if (if (3 : Int) < n then 3 else (n : Int)) > 1 then if (3 : Int) < n then 3 else (n : Int) else 1) 1 t u v) : ∃ b, 1 ≤ b ∧ b ≤ 3 ∧ IsRange h r 0 b 1 t u v :=
  ⟨_, by split <;> omega, by split <;> (try split) <;> omega, R⟩
theorem lower_len {x : Str} (h : ∀ c ∈ Mine.cs x, c < 128 ∧ c ≠ 63) : (Txt.lower x).length = x.length := by
  rw [lower_ascii fun c hc => (h c hc).1]
  show (x.cps.map lo1).size = x.cps.size
  exact Array.size_map ..
theorem find_e {x : Str} (h : (Txt.lower x).length = x.length) : -1 ≤ Txt.find (Txt.lower x) (Str.ofString "e") ∧ Txt.find (Txt.lower x) (Str.ofString "e") ≤ x.length := by
  have := fact_find (Txt.lower x) (Str.ofString "e")
  omega
theorem off4 {a b c d z : Str} (h : [a, b, c, d].contains z = false) : z ≠ a ∧ z ≠ b ∧ z ≠ c ∧ z ≠ d := by simpa [not_or] using h
theorem off2 {a b z : Str} (h : [a, b].contains z = false) : z ≠ a ∧ z ≠ b := by simpa [not_or] using h
theorem on2 {a b z : Str} (ha : z ≠ a) (hb : z ≠ b) : [a, b].contains z = false := by simp [ha, hb]
theorem mac23c_ : True := by
  (k_with "my stop" => (with_reducible show InvEndN _ _ _ _ _ _ _))
  exact trivial
theorem via23 {g : Heap} {L : Addr} {v : Value} {G : Heap → Nat → Prop} {goal : Prop}
    (main : (∀ (H : Heap) (n : Nat) (r : Str → Option Value), Fr g L H (fun y => if y = Str.ofString "script" then some v else r y) → News g L H [] → G H n) → goal)
    (tail : ∀ (H : Heap) (n : Nat) (r : Str → Option Value), Fr g L H (fun y => if y = Str.ofString "script" then some v else r y) → News g L H [] → G H n) : goal := main tail
theorem fr_at {g H : Heap} {L : Addr} {x : Str} {v v' : Value} {m : Str → Option Value} (F : Fr g L H (fun y => if y = x then some v else if y = x then some v' else m y)) : Fr g L H (fun y => if y = x then some v else m y) := by
  have : (fun y => if y = x then some v else if y = x then some v' else m y) = (fun y => if y = x then some v else m y) := funext fun y => by
    by_cases hy : y = x
    · rw [if_pos hy, if_pos hy]
    · rw [if_neg hy, if_neg hy, if_neg hy]
  rw [← this]
  exact F
theorem viaAt {tx : Str} {rs : List (Addr × Obj)} {l : Addr} {g h₁ : Heap} {L : Addr} {r : Str → Option Value} {G : Heap → Nat → Prop} {goal : Prop} (k0 : Fr g L h₁ r)
    (main : (∀ (H : Heap) (n : Nat) (c : Obj) (a : Int) (u : Tok), Fr g L H (fun y => if y = Str.ofString "at" then some (.int a u) else r y) → News g L H ((l, c) :: rs) → SrcOk c → 0 ≤ a → a ≤ tx.length → G H n) → goal)
    (tail : ∀ (H : Heap) (n : Nat) (c : Obj) (a : Int) (u : Tok), Fr g L H (fun y => if y = Str.ofString "at" then some (.int a u) else r y) → News g L H ((l, c) :: rs) → SrcOk c → 0 ≤ a → a ≤ tx.length → G H n) : goal := main tail
theorem mac23d_ : True := by
  (k_with "my stop" => (with_reducible show wpAny _ _ (call (Value.ref 131) _) _ _ _))
  (k_with "my stop" => (with_reducible show wpAny _ _ (call (Value.ref 202) _) _ _ _))
  (k_with "my stop" => (with_reducible show wpAny _ _ (call (Value.ref 138) _) _ _ _))
  (k_with "my stop" => (with_reducible show wpAny _ _ (call (Value.ref 197) _) _ _ _))
  (k_with "my stop" => (with_reducible show wpAny _ _ (call (Value.ref 169) _) _ _ _))
  (k_with "my stop" => (with_reducible show wpAny _ _ (call (Value.builtin "str.lower") _) _ _ _))
  (k_with "my stop" => (with_reducible show wpAny _ _ (call (Value.builtin "str.find") _) _ _ _))
  (k_with "my steps23" => repeat' ((fail_if_success (first | k_extra "my stop" | (with_reducible show wpAny _ _ (exec (Stmt.If (Expr.BoolOp _ _ _) _ _ _) _) _ _ _))); (first | (k_unfold; (try dsimp only)) | (k_end; wrow_close) | walk1 | (dsimp only; walk1) | (leave1; walk_say "STEP leave1"; try dsimp only) | fail "no step")))
  exact trivial
theorem holds_ : PySem.Challenge.rw_on0225_01.Holds := hd (by
  k_go0
  all_goals (try k_fold)
  k_extra "my steps"
  apply via23
  case main =>
    intro key
    (first | walk1 | (dsimp only; walk1))
    k_extra "my steps"
    (first | walk1 | (dsimp only; walk1))
    k_extra "my steps"
    k_here
    k_dflt (refine' callT.use (law_read_S _ _ _ _ _ _ _ _ _ ?h2 p7) ?kB ?kF ?kX ?kN ?kT ?kXB ?kTB ?kK ?kd ?ku ?_)
    k_extra "my asksT"
    (case h2 => decide +kernel)
    intro v9 n9 h9 tk9 p9 F9 N9
    (obtain ⟨l9, ta9, tb9, e8, q9, e9⟩ := p9)
    subst e9
    subst e8
    k_lt q9
    k_sweep
    k_extra "my then"
    k_extra "my steps"
    k_here
    k_dflt (refine' callT.use (law_read_N _ _ _ _ _ _ _ ?h2 p8) ?kB ?kF ?kX ?kN ?kT ?kXB ?kTB ?kK ?kd ?ku ?_)
    k_extra "my asksT"
    (case h2 => decide +kernel)
    intro v9 n9 h9 tk9 p9 F9 N9
    (obtain ⟨e8, e9⟩ := p9)
    subst e9
    subst e8
    k_sweep
    k_extra "my then"
    k_extra "my steps"
    with_reducible rename Fr _ _ _ _ => lF'
    with_reducible rename News _ _ _ _ => kN
    obtain ⟨r, lF'⟩ := fr_one (x := Str.ofString "script") lF' (by rfl)
    generalize tk9 = n0
    exact key _ n0 r lF' (news_sub (l' := []) kN (fun p hp => nomatch hp))
  case tail =>
  intro H n r lF' kN
  with_unfolding_all refine' For_invVF lF' ?k1 ?k2 ?_
  case k1 => exact rfl
  case k2 => exact rfl
  k_extra "my steps"
  with_reducible rename Fr _ _ _ _ => kF
  with_reducible rename News _ _ _ _ => kN
  with_reducible rename IsRange _ _ _ _ _ _ _ _ => hR
  obtain ⟨b, hb1, hb3, hR⟩ := range_three hR
  clear lF'
  refine kst_range (σ := Unit) (fun _ => []) (fun _ => []) (fun _ => True) [Str.ofString "source", Str.ofString "turn", Str.ofString "text", Str.ofString "at"] (fun _ _ => True) () (by rfl) hR (small_one (by omega) (by omega) (by omega) (by omega)) (rangeSize_nat _ _) kF kN trivial (fun _ h => nomatch h) trivial ?_ ?_
  · rintro ⟨⟩ pre k tk u h tk' own hkk hpre hoff _ _ F₁ N₁
    clear kF kN hR
    replace N₁ : News _ _ _ own := N₁
    k_extra "my steps"
    k_here
    k_dflt (refine' callL.use (law_pool_C _ _ _ _ _ _ _ _ _ _ ?hI ?hn ?h0 ?h1) ?hK ?kB ?kF ?kX ?kN ?kT ?kK ?kd ?ku ?_)
    k_extra "my asks"
    (case hI => assumption)
    (case hK => assumption)
    (case hn => omega)
    (case h0 => omega)
    (case h1 => omega)
    intro v9 n9 h9 tk9 p9 F9 N9
    (obtain ⟨l, o9, e8, q9, e9, s9⟩ := p9)
    subst e9
    subst e8
    k_sweep
    k_extra "my then"
    clear F₁ N₁
    k_extra "my steps"
    with_reducible rename Fr _ _ _ _ => lF'
    with_unfolding_all refine' For_invVF lF' ?k1 ?k2 ?_
    case k1 => exact rfl
    case k2 => exact rfl
    k_extra "my steps"
    with_reducible rename Fr _ _ _ _ => kF
    with_reducible rename News _ _ _ _ => kN
    with_reducible rename IsRange _ _ _ _ _ _ _ _ => hR
    (try clear lF')
    refine kst_range (σ := Obj) (fun c => (l, c) :: own) (fun _ => []) (fun _ => True) [Str.ofString "text", Str.ofString "at"] (fun _ c => SrcOk c) o9 (by rfl) hR (small_one (by omega) (by omega) (by omega) (by omega)) (rangeSize_nat _ _) kF kN trivial (fun _ h => nomatch h) s9 ?_ ?_
    · rintro c pre2 k2 tk u2 h tk' own2 hkk2 hpre2 hoff2 _ so F₁ N₁
      clear kF kN hR
      have hrs : ∀ p ∈ own ++ own2, p.1 ≠ l := fun p hp => (List.mem_append.mp hp).elim (fun hp => Nat.ne_of_lt (q9 p hp)) (hoff2.ne (by simp) p)
      obtain ⟨rs, hrs'⟩ : ∃ rs, rs = own ++ own2 := ⟨_, rfl⟩
      (try dsimp only at N₁ so)
      rw [List.cons_append, ← hrs'] at N₁
      rw [← hrs'] at hrs
      k_extra "my steps"
      k_extra "my call ref"
      clear F₁ N₁
      k_extra "my steps"
      with_reducible rename OkN 60 _ => ox
      rename Str => tx
      have hx1 : tx.length ≤ 60 := ox.1
      have hok : ∀ c ∈ Mine.cs tx, c < 128 ∧ c ≠ 63 := ox.2
      have hlow := lower_len hok
      have hfe := find_e hlow
      with_reducible rename Fr _ _ _ _ => kF1
      apply viaAt (tx := tx) (l := l) (rs := rs) kF1
      case main =>
        intro key
        refine SCL.lower (by omega) ?_
        intro _
        k_extra "my steps23"
        refine SC.find ?_
        obtain ⟨f, hf⟩ : ∃ f : Int, f = Txt.find (Txt.lower tx) (Str.ofString "e") := ⟨_, rfl⟩
        rw [← hf]
        rw [← hf] at hfe
        k_extra "my steps23"
        all_goals (try ((with_reducible show wpAny _ _ (call (Value.ref 138) _) _ _ _); k_extra "my call ref"; k_extra "my steps23"))
        all_goals (try ((with_reducible show wpAny _ _ (call (Value.ref 138) _) _ _ _); k_extra "my call ref"; k_extra "my steps23"))
        all_goals
          with_reducible rename Fr _ _ _ _ => kF
          with_reducible rename News _ _ _ _ => kN
          with_reducible rename SrcOk _ => sx
          exact key _ tk _ _ _ (fr_at kF) kN sx (by omega) (by omega)
      case tail =>
      intro H n c9 a9 u9 kF kN so9 ha0 ha1
      clear kF1 so
      walk1
      k_extra "my steps"
      k_extra "my call ref"
      k_extra "my steps"
      all_goals
        rcases hdz : deciAt tx with _ | ⟨A, B⟩
        · k_here
          k_dflt (refine' callT.use (law_read_N _ _ _ _ _ _ _ ?h2 hdz) ?kB ?kF ?kX ?kN ?kT ?kXB ?kTB ?kK ?kd ?ku ?_)
          k_extra "my asksT"
          (case h2 => omega)
          intro v9 n9 h9 tk9 p9 F9 N9
          (obtain ⟨e8, e9⟩ := p9)
          subst e9
          subst e8
          k_sweep
          k_extra "my then"
          k_extra "my steps"
          k_here
          k_dflt (refine' callAt.use (law_dec_N _ _ _ _ _ _ _ ?h2 hok hdz) ?kB ?kF ?kX ?kN ?kT ?kK ?kd ?ku ?_)
          k_extra "my asks"
          (case h2 => omega)
          intro v9 n9 h9 tk9 p9 F9 N9
          (obtain ⟨e8, e9⟩ := p9)
          subst e9
          subst e8
          k_sweep
          k_extra "my then"
          k_extra "my steps"
          with_reducible rename Fr _ _ _ _ => kF
          with_reducible rename News _ _ _ _ => kN
          with_reducible rename SrcOk _ => sx
          refine kst_end _ kF kN (fun p hp => ?_) (fun p hp => ?_) ?_ trivial (fun _ h => nomatch h) ?_ sx
          · rcases List.mem_cons.mp hp with rfl | hp
            · repeat (first | exact List.Mem.head _ | apply List.Mem.tail)
            · have hp' : p ∈ rs := by rw [hrs']; exact List.mem_append_left _ hp
              repeat (first | exact hp' | apply List.Mem.tail)
          · have hp' : p ∈ rs := by rw [hrs']; exact List.mem_append_right _ hp
            repeat (first | exact hp' | apply List.Mem.tail)
          · rfl
          · intro z h1 _ h3
            obtain ⟨ha, hb⟩ := off2 h3
            simp only [kstB, h1, ha, hb, h3, if_false, Bool.false_eq_true]
        · k_here
          k_dflt (refine' callT.use (law_read_S _ _ _ _ _ _ _ _ _ ?h2 hdz) ?kB ?kF ?kX ?kN ?kT ?kXB ?kTB ?kK ?kd ?ku ?_)
          k_extra "my asksT"
          (case h2 => omega)
          intro v9 n9 h9 tk9 p9 F9 N9
          (obtain ⟨l8, ta9, tb9, e8, q8, e9⟩ := p9)
          subst e9
          subst e8
          k_lt q8
          k_sweep
          k_extra "my then"
          k_extra "my steps"
          k_here
          k_dflt (refine' callAt.use (law_dec_S _ _ _ _ _ _ _ _ _ ?h2 hok hdz) ?kB ?kF ?kX ?kN ?kT ?kK ?kd ?ku ?_)
          k_extra "my asks"
          (case h2 => omega)
          intro v9 n9 h9 tk9 p9 F9 N9
          (obtain ⟨l7, tc9, td9, e8, q7, e9⟩ := p9)
          subst e9
          subst e8
          k_lt q7
          k_sweep
          k_extra "my then"
          k_extra "my steps"
          with_reducible rename Fr _ _ _ _ => kF
          with_reducible rename News _ _ _ _ => kN
          with_reducible rename SrcOk _ => sx
          refine kst_end _ kF kN (fun p hp => ?_) (fun p hp => ?_) ?_ trivial (fun _ h => nomatch h) ?_ sx
          · rcases List.mem_cons.mp hp with rfl | hp
            · repeat (first | exact List.Mem.head _ | apply List.Mem.tail)
            · have hp' : p ∈ rs := by rw [hrs']; exact List.mem_append_left _ hp
              repeat (first | exact hp' | apply List.Mem.tail)
          · have hp' : p ∈ rs := by rw [hrs']; exact List.mem_append_right _ hp
            repeat (first | exact hp' | apply List.Mem.tail)
          · rfl
          · intro z h1 _ h3
            obtain ⟨ha, hb⟩ := off2 h3
            simp only [kstB, h1, ha, hb, h3, if_false, Bool.false_eq_true]
    · rintro c u2 h tk _ so F₁ N₁
      clear kF kN hR
      k_extra "my steps"
      with_reducible rename Fr _ _ _ _ => kF
      with_reducible rename News _ _ _ _ => kN
      refine kst_end () kF kN (fun p hp => nomatch hp) (fun p hp => List.mem_cons_of_mem _ hp) rfl trivial (fun _ h => nomatch h) ?_ trivial
      intro z h1 _ h3
      obtain ⟨ha, hb, hc, hd⟩ := off4 h3
      simp only [kstB, h1, ha, hb, hc, hd, on2 hc hd, h3, if_false, Bool.false_eq_true]
  · rintro ⟨⟩ u h tk _ _ F₁ N₁
    clear kF kN hR
    k_extra "my steps")

end Mine
theorem PySem.Challenge.cw_on0225_01_holds : PySem.Challenge.rw_on0225_01.Holds :=
  Mine.holds_
