import PyProof.Rows.All
import Wide.All
import OpenK.AllK
import Wide.FinOn
import PySem.Challenge.RW_no0074_01
open PySem PySem.W PyProof.Rows
set_option Elab.async false
namespace Mine
def view : Program := { PySem.Challenge.pw_no0074_01 with main := { PySem.Challenge.pw_no0074_01.main with body := PySem.Challenge.pw_no0074_01.main.body.filter fun st => match st with
  | .Assign [.Name n _] _ _ => n != Str.ofString "__name__"
  | _ => true } }
set_option hygiene false in
local macro_rules | `(tactic| o_head $H) => `(tactic| (
  refine holds_open (q := Mine.view) (loose := []) (Xt := fun s => xlAt Mine.view [] s && recOk (RowW.records (OpenRow.toRowW (OpenLaw.row PySem.Challenge.rw_no0074_01))) s) (XP := XL Mine.view []) (Yf := Hook.obs $H) (Ya := Hook.val $H) (YP := Hook.says $H) (N := 3204) ?hl (Hook.of $H) (Hook.keeps $H) (fun s e => xl_of s (Bool.and_eq_true_iff.mp e).1) XL.keeps (by rfl) (by rfl) (by rfl) (fun s e => recFacts_of (Bool.and_eq_true_iff.mp e).2) (by rfl) (by first | assumption | decide +kernel) (by decide +kernel) ⟨rfl, rfl, rfl, rfl, rfl, by decide +kernel⟩ ?hw ?hc
  (case hl => intro w; kernel_rfl)
  all_goals (try clear said)))
set_option maxRecDepth 100000 in
set_option maxHeartbeats 8000000 in
open_top hd for PySem.Challenge.rw_no0074_01

section
/-- what a call hands back to its caller: the answer, and the ledger behind it -/
abbrev Back (h₀ : Heap) (L : Addr) (m : Str → Option Value) (s : Shared) (Q : Value → Shared → Prop) (r : Value) (n : List (Addr × Obj)) : Prop :=
  ∀ (h' : Heap) (tk' : Nat), Fr h₀ L h' m → News h₀ L h' n → Q r { s with heap := h', toks := tk' }
/-- a contract: what a call of the def at `f` gives, from any frame, over the ledger `news`; `P` says what the caller must show -/
abbrev Ctr (w : World) (mean : ExcName → Option Value) (mg mb : Str → Option Value) (f : Addr) (vs : List Value) (news : List (Addr × Obj)) (N M : Nat) (P : (Value → List (Addr × Obj) → Prop) → Prop) : Prop :=
  ∀ (dp un : Nat) (gd : Option (List Code)) (cn : Str) (cs : Scope) (a : Addr) (ccd : Value) (cl : List (Str × Addr)) (outer : List Env) (A₀ : Around) (base h₀ : Heap) (L : Addr) (m : Str → Option Value) (s : Shared) (Q E : Value → Shared → Prop),
    Below A₀ base outer h₀ → Fr h₀ L s.heap m → (Mine.hd.heap_39 w.params).In h₀ → News h₀ L s.heap news → Top Mine.view (looseW Mine.view []) mean mg mb h₀ → cs.kind = .function →
    dp + N < recursionLimit → un + M < cLine → P (Back h₀ L m s Q) →
      wpAny (model PySem.Challenge.rw_no0074_01.row.prog w) (ktrTop dp un gd cn cs L a ccd cl outer) (call (.ref f) vs) Q E s
/-- a mark at which the walk halts -/
def Stop (P : Prop) : Prop := P
theorem stop_here {P : Prop} (h : Stop P) : P := h
theorem news_sel2 {h₀ h : Heap} {L : Addr} {news rest : List (Addr × Obj)} {p1 p2 : Addr × Obj} (N : News h₀ L h news) (h1 : p1 ∈ news) (h2 : p2 ∈ news) (hr : ∀ p ∈ rest, p ∈ news) : News h₀ L h (p1 :: p2 :: rest) := by
  intro p hp
  rcases List.mem_cons.mp hp with rfl | hp
  · exact N _ h1
  rcases List.mem_cons.mp hp with rfl | hp
  · exact N _ h2
  exact N _ (hr p hp)
theorem news_rot {h₀ h : Heap} {L : Addr} {r : List (Addr × Obj)} {p1 p2 p3 : Addr × Obj} (N : News h₀ L h (p1 :: p2 :: p3 :: r)) : News h₀ L h (p2 :: p3 :: p1 :: r) := by
  refine news_sel2 N (.tail _ (.head _)) (.tail _ (.tail _ (.head _))) (fun p hp => ?_)
  rcases List.mem_cons.mp hp with rfl | hp
  · exact .head _
  · exact .tail _ (.tail _ (.tail _ hp))
theorem news_sel4 {h₀ h : Heap} {L : Addr} {news rest : List (Addr × Obj)} {p1 p2 p3 p4 : Addr × Obj} (N : News h₀ L h news) (h1 : p1 ∈ news) (h2 : p2 ∈ news) (h3 : p3 ∈ news) (h4 : p4 ∈ news) (hr : ∀ p ∈ rest, p ∈ news) : News h₀ L h (p1 :: p2 :: p3 :: p4 :: rest) := by
  intro p hp
  rcases List.mem_cons.mp hp with rfl | hp
  · exact N _ h1
  exact news_sel2 (p1 := p2) (p2 := p3) (rest := p4 :: rest) N h2 h3 (fun q hq => (List.mem_cons.mp hq).elim (fun e => e ▸ h4) (hr q)) p hp

theorem ctr_use {w : World} {mean : ExcName → Option Value} {mg mb : Str → Option Value} {f : Addr} {vs : List Value} {news : List (Addr × Obj)} {K M : Nat} {P : (Value → List (Addr × Obj) → Prop) → Prop} (C : Ctr w mean mg mb f vs news K M P)
    {dp un : Nat} {gd : Option (List Code)} {cn : Str} {cs : Scope} {a : Addr} {ccd : Value} {cl : List (Str × Addr)} {outer : List Env} {A₀ : Around} {base h₀ : Heap} {L : Addr} {m : Str → Option Value} {s : Shared} {Q E : Value → Shared → Prop}
    (B : Below A₀ base outer h₀) (F : Fr h₀ L s.heap m) (X : (Mine.hd.heap_39 w.params).In h₀) (N : News h₀ L s.heap news) (T : Top Mine.view (looseW Mine.view []) mean mg mb h₀) (hk : cs.kind = .function)
    (hd : dp + K < recursionLimit) (hu : un + M < cLine) (ret : P (Back h₀ L m s Q)) :
    wpAny (model PySem.Challenge.rw_no0074_01.row.prog w) (ktrTop dp un gd cn cs L a ccd cl outer) (call (.ref f) vs) Q E s :=
  C dp un gd cn cs a ccd cl outer A₀ base h₀ L m s Q E B F X N T hk hd hu ret
theorem room_of {a k n c R : Nat} (h : a + n < R) (e : (c + k).ble n = true) : a + c + k < R :=
  Nat.lt_of_le_of_lt (by rw [Nat.add_assoc]; exact Nat.add_le_add_left (Nat.le_of_ble_eq_true e) a) h
/-- a test's end: its answer, and nothing changed but the count of tokens -/
def Same {α : Type} (b : α) (s : Shared) (b' : α) (s' : Shared) : Prop := b' = b ∧ ∃ tk, s' = { s with toks := tk }
theorem same_of {α : Type} {b b' : α} {s : Shared} {tk : Nat} (e : b' = b) : Same b s b' { s with toks := tk } := ⟨e, tk, rfl⟩
theorem merge_test {α : Type} {M : Model} {A : Around} {t : Sem α} {Q : α → Shared → Prop} {E : Value → Shared → Prop} {s : Shared} (b : α) (h1 : wpAny M A t (Same b s) E s) (h2 : ∀ tk, Q b { s with toks := tk }) : wpAny M A t Q E s :=
  wpAny_mono h1 (fun b' s' e => by obtain ⟨rfl, tk, rfl⟩ := e; exact h2 tk) fun _ _ e => e
end

section
theorem mul_le_mul_of {a b c d : Int} (h1 : a ≤ b) (h2 : c ≤ d) (h3 : 0 ≤ c) (h4 : 0 ≤ b) : a * c ≤ b * d :=
  Int.le_trans (Int.mul_le_mul_of_nonneg_right h1 h3) (Int.mul_le_mul_of_nonneg_left h2 h4)
theorem cube_le {a b : Int} (h0 : 0 ≤ a) (h : a ≤ b) : a * a * a ≤ b * b * b := by
  have h1 : a * a ≤ b * b := mul_le_mul_of h h h0 (by omega)
  exact mul_le_mul_of h1 h h0 (Int.mul_nonneg (by omega) (by omega))
theorem cube_lt_of {a b : Int} (h0 : 0 ≤ b) (h : a * a * a < b * b * b) : a < b := by
  by_cases hb : b ≤ a
  · have := cube_le h0 hb; omega
  · omega

def P1 (n h : Int) : Prop := 0 ≤ n ∧ n < 10 ^ 24 ∧ 1 ≤ h ∧ h ≤ 200000000
def P2 (n l h : Int) : Prop := 0 ≤ n ∧ n < 10 ^ 24 ∧ 0 ≤ l ∧ l < h ∧ h ≤ 200000000 ∧ l * l * l ≤ n ∧ n < h * h * h
theorem P1.start {n : Int} (h0 : 0 ≤ n) (h1 : n < 10 ^ 24) : P1 n 1 := ⟨h0, h1, by omega, by omega⟩
theorem P1.step {n h : Int} (p : P1 n h) (q : h * h * h ≤ n) : P1 n (2 * h) := by
  obtain ⟨h0, h1, h2, h3⟩ := p
  have : h < 100000000 := cube_lt_of (by omega) (by omega)
  exact ⟨h0, h1, by omega, by omega⟩
theorem P1.small {n h : Int} (p : P1 n h) : 0 ≤ h ∧ h ≤ 200000000 := ⟨by have := p.2.2.1; omega, p.2.2.2⟩
theorem P2.start {n h : Int} (p : P1 n h) (q : ¬ h * h * h ≤ n) : P2 n 0 h := by
  obtain ⟨h0, h1, h2, h3⟩ := p
  exact ⟨h0, h1, by omega, by omega, h3, by omega, by omega⟩

theorem w1_start {n : Int} (h0 : 0 ≤ n) (h1 : n < 10 ^ 24) : 1 ≤ (1 : Int) ∧ (1 : Int) ≤ 200000000 ∧ P1 n 1 := ⟨by omega, by omega, P1.start h0 h1⟩
theorem w1_step {n h : Int} (p : P1 n h) (q : h * h * h ≤ n) : 1 ≤ 2 * h ∧ 2 * h ≤ 200000000 ∧ P1 n (2 * h) := ⟨(P1.step p q).2.2.1, (P1.step p q).2.2.2, P1.step p q⟩
theorem w2_start {n h : Int} (p : P1 n h) (q : ¬ h * h * h ≤ n) : 0 ≤ (0 : Int) ∧ 0 < h ∧ h ≤ 200000000 ∧ P2 n 0 h := ⟨by omega, (P2.start p q).2.2.2.1, p.2.2.2, P2.start p q⟩
theorem w2_low {n l h c : Int} (p : P2 n l h) (h1 : l < c) (h2 : c < h) (q : c * c * c ≤ n) : 0 ≤ c ∧ c < h ∧ h ≤ 200000000 ∧ P2 n c h := by
  obtain ⟨a, b, e, f, g, i, j⟩ := p
  exact ⟨by omega, h2, g, a, b, by omega, h2, g, q, j⟩
theorem w2_high {n l h c : Int} (p : P2 n l h) (h1 : l < c) (h2 : c < h) (q : ¬ c * c * c ≤ n) : 0 ≤ l ∧ l < c ∧ c ≤ 200000000 ∧ P2 n l c := by
  obtain ⟨a, b, e, f, g, i, j⟩ := p
  exact ⟨by omega, h1, by omega, a, b, e, h1, by omega, i, by omega⟩
theorem w2_done {n l h : Int} (p : P2 n l h) (q : ¬ 1 < h - l) : 0 ≤ l ∧ l * l * l ≤ n ∧ n < (l + 1) * (l + 1) * (l + 1) := by
  obtain ⟨a, b, e, f, g, i, j⟩ := p
  have : h = l + 1 := by omega
  subst this
  exact ⟨e, i, j⟩

theorem fdiv_two (x : Int) : 2 * x.fdiv 2 ≤ x ∧ x < 2 * x.fdiv 2 + 2 := by
  rw [Int.fdiv_eq_ediv_of_nonneg x (by omega)]
  omega
theorem w2_low2 {n l h : Int} (p : P2 n l h) (g : 1 < h - l) (q : (l + h).fdiv 2 * (l + h).fdiv 2 * (l + h).fdiv 2 ≤ n) : 0 ≤ (l + h).fdiv 2 ∧ (l + h).fdiv 2 < h ∧ h ≤ 200000000 ∧ P2 n ((l + h).fdiv 2) h :=
  have := fdiv_two (l + h)
  w2_low p (by omega) (by omega) q
theorem w2_high2 {n l h : Int} (p : P2 n l h) (g : 1 < h - l) (q : ¬ (l + h).fdiv 2 * (l + h).fdiv 2 * (l + h).fdiv 2 ≤ n) : 0 ≤ l ∧ l < (l + h).fdiv 2 ∧ (l + h).fdiv 2 ≤ 200000000 ∧ P2 n l ((l + h).fdiv 2) :=
  have := fdiv_two (l + h)
  w2_high p (by omega) (by omega) q
theorem w2_mlow {l h : Int} (g : 1 < h - l) : (h - (l + h).fdiv 2).toNat < (h - l).toNat := by
  have := fdiv_two (l + h)
  omega
theorem w2_mhigh {l h : Int} (g : 1 < h - l) : ((l + h).fdiv 2 - l).toNat < (h - l).toNat := by
  have := fdiv_two (l + h)
  omega

theorem pow_three (z : Int) : z ^ Int.toNat 3 = z * z * z := by
  show z ^ 3 = _
  rw [Int.pow_succ, Int.pow_succ, Int.pow_succ, Int.pow_zero, Int.one_mul]
theorem root_facts {n l : Int} (hn : n < 10 ^ 24) (h : 0 ≤ l ∧ l * l * l ≤ n ∧ n < (l + 1) * (l + 1) * (l + 1)) : 0 ≤ l ∧ l * l * l ≤ n ∧ n < (l + 1) * (l + 1) * (l + 1) ∧ l < 100000000 ∧ l ^ Int.toNat 3 ≤ n ∧ n < (l + 1) ^ Int.toNat 3 ∧ ∀ y : Int, 0 ≤ y → n = y ^ Int.toNat 3 → l = y := by
  obtain ⟨a, b, c⟩ := h
  refine ⟨a, b, c, cube_lt_of (by omega) (by omega), by rw [pow_three]; exact b, by rw [pow_three]; exact c, fun y hy e => ?_⟩
  rw [pow_three] at e
  subst e
  have h1 : ¬ y < l := fun h => by
    have := cube_le (a := y + 1) (b := l) (by omega) (by omega)
    have h3 : y * y * y < (y + 1) * (y + 1) * (y + 1) := by
      have := Int.mul_nonneg hy hy
      have := Int.mul_nonneg this hy
      have e1 : (y + 1) * (y + 1) * (y + 1) = y * y * y + 3 * (y * y) + 3 * y + 1 := by
        simp only [Int.add_mul, Int.mul_add, Int.one_mul, Int.mul_one]
        omega
      omega
    omega
  have h2 : y < l + 1 := cube_lt_of (by omega) c
  omega
theorem root_cube0 {z : Int} (h : 0 ≤ z) : 0 ≤ z ^ Int.toNat 3 := by
  rw [pow_three]
  exact Int.mul_nonneg (Int.mul_nonneg h h) h
theorem root_cube1 {z : Int} (h : 0 ≤ z) (h1 : z < 100000000) : z ^ Int.toNat 3 < 10 ^ 24 := by
  rw [pow_three]
  have := cube_le (a := z) (b := 99999999) h (by omega)
  omega

set_option maxRecDepth 100000 in
set_option maxHeartbeats 8000000 in
theorem cubeRoot_ctr (w : World) (mean : ExcName → Option Value) (mg mb : Str → Option Value) (news : List (Addr × Obj)) (n : Int) (t : Tok) (hn : 0 ≤ n) (hn2 : n < 10 ^ 24) :
    Ctr w mean mg mb 133 [.int n t] news 2 16 (fun K => ∀ (z : Int) (t : Tok), 0 ≤ z → z * z * z ≤ n → n < (z + 1) * (z + 1) * (z + 1) → z < 100000000 → z ^ Int.toNat 3 ≤ n → n < (z + 1) ^ Int.toNat 3 → (∀ y : Int, 0 ≤ y → n = y ^ Int.toNat 3 → z = y) → K (.int z t) news) := by
  unfold Ctr
  k_fill
  intro dp un gd cn cs a ccd cl outer A₀ base h₀ L m s Q E B F X N T hk hd hu hret
  refine wpAny_call ?_
  k_dflt cell_enter
  k_with_none
  k_with "exec While Compare cons nil" => k_while_given ["n"] (fun n _ h => 1 ≤ h ∧ h ≤ 200000000 ∧ P1 n h) (fun n _ h => (200000001 - h).toNat) "high"
  k_with "exec While Compare cons nil" => k_while_given ["n"] (fun n _ l h => 0 ≤ l ∧ l < h ∧ h ≤ 200000000 ∧ P2 n l h) (fun n _ l h => (h - l).toNat) "low" "high"
  k_with "state" => first
    | exact w1_start (by assumption) (by assumption)
    | exact w1_step (by assumption) (by assumption)
    | exact w2_start (by assumption) (by assumption)
    | exact w2_low2 (by assumption) (by assumption) (by assumption)
    | exact w2_high2 (by assumption) (by assumption) (by assumption)
  k_with "measure" => first | exact w2_mlow (by assumption) | exact w2_mhigh (by assumption) | omega
  k_steps
  have q := root_facts hn2 (w2_done (by assumption) (by assumption))
  exact hret _ _ q.1 q.2.1 q.2.2.1 q.2.2.2.1 q.2.2.2.2.1 q.2.2.2.2.2.1 q.2.2.2.2.2.2 _ _ (by k_asm) (cb_drop (by k_asm) fun _ h9 => List.mem_cons_of_mem _ h9)
end

section
section
variable {prog : Program} {w : World} {A : Around} {E : Value → Shared → Prop} {s : Shared} {h₀ : Heap} {L D : Addr} {m : Str → Option Value} {news news' : List (Addr × Obj)} {vs : List Value} {ns : List Int} {n : Nat} {u : Tok}
theorem pop_first {Q : Value → Shared → Prop} (F : Fr h₀ L s.heap m) (N : News h₀ L s.heap news) (hI : IntsAre vs ns) (h0 : 0 < (ns.length : Int)) (hlen : ns.length ≤ 24)
    (U : Upd D (listOf vs.toArray n) (listOf vs.tail.toArray (n + 1)) news news')
    (h : ∀ i t h', Fr h₀ L h' m → News h₀ L h' news' → IntsAre vs.tail ns.tail → Q (.int i t) { s with heap := h' }) :
    wpAny (model prog w) A (call (.builtin "list.pop") [.ref D, .int 0 u]) Q E s := by
  have hl := hI.length
  cases hI with
  | nil => simp at h0
  | cons i t r =>
    refine kl_popAt (p := []) F N rfl (k := 0) (by simp [seqIndex?]) rfl U ?_ (fun h' F' N' => h i t h' F' N' r)
    rw [PySem.sizeLine_eq]
    simp only [List.length_cons] at hl hlen ⊢
    omega
end
theorem ten_twelve : (10 : Int) ^ Int.toNat 12 = 1000000000000 := by decide +kernel
theorem fmod_range (a k : Int) (hk : 0 < k) : 0 ≤ a.fmod k ∧ a.fmod k < k := ⟨Int.fmod_nonneg_of_pos a hk, Int.fmod_lt_of_pos a hk⟩

local macro_rules | `(tactic| k_all) => `(tactic| assumption)
set_option maxRecDepth 100000 in
set_option maxHeartbeats 8000000 in
theorem take_ctr (w : World) (mean : ExcName → Option Value) (mg mb : Str → Option Value) (b l : Addr) (vs : List Value) (ns : List Int) (cb nl : Nat) (sd k : Int) (ts t : Tok) (rest : List (Addr × Obj))
    (hI : IntsAre vs ns) (hlen : ns.length ≤ 24) (hs : 0 ≤ sd) (hs2 : sd < 2147483647) (hk0 : 0 < k) (hk1 : k ≤ 1000000000000) (hbl : @Ne Nat b l) (hrb : ∀ p ∈ rest, p.1 ≠ b) (hrl : ∀ p ∈ rest, p.1 ≠ l) :
    Ctr w mean mg mb 215 [.ref b, .int k t] ((b, listOf #[.ref l, .int sd ts] cb) :: (l, listOf vs.toArray nl) :: rest) 2 16
      (fun K => ∀ (z : Int) (tz : Tok) (vs' : List Value) (ns' : List Int) (nl' : Nat) (sd' : Int) (ts' : Tok),
        0 ≤ z → z < k → IntsAre vs' ns' → ns'.length ≤ 24 → 0 ≤ sd' → sd' < 2147483647 → K (.int z tz) ((b, listOf #[.ref l, .int sd' ts'] cb) :: (l, listOf vs'.toArray nl') :: rest)) := by
  unfold Ctr
  k_fill
  intro dp un gd cn cs a ccd cl outer A₀ base h₀ L m s Q E B F X N T hk hd hu hret
  refine wpAny_call ?_
  k_dflt cell_enter
  k_with_none
  k_with "call builtin:list.pop" => (k_here; k_dflt (refine' pop_first ?F ?N ?i ?l ?z ?U ?_; (case F => k_asm); (case N => k_asm); (case U => k_upd); (case i => with_reducible assumption); (case l => with_reducible assumption); (case z => with_reducible assumption)); (intro i9 t9 h9 F9 N9 I9; (try k_sweep)))
  k_steps
  · exact hret _ _ vs.tail ns.tail _ sd ts (fmod_range _ _ hk0).1 (fmod_range _ _ hk0).2 I9 (by rw [List.length_tail]; omega) hs hs2 _ _ (by k_asm) (by k_asm)
  · exact hret _ _ vs ns _ _ _ (fmod_range _ _ hk0).1 (fmod_range _ _ hk0).2 hI hlen (fmod_range _ _ (by decide)).1 (fmod_range _ _ (by decide)).2 _ _ (by k_asm) (by k_asm)
end

section
def CubTime (tw wd d z : Int) : Prop := 0 ≤ z ∧ z ≤ 100000000 ∧ (tw ≤ wd → z = 0) ∧ (wd < tw → 2 * d * (z * z * z) ≤ (tw - wd) * 5000000000000000000 ∧ (tw - wd) * 5000000000000000000 < 2 * d * ((z + 1) * (z + 1) * (z + 1)))
theorem ct_quot {x d : Int} (hx : 0 ≤ x) (hx1 : x ≤ 100000000) (hd0 : 1200 ≤ d) : 0 ≤ (x * 5 * 1000000 * 1000000 * 1000000).fdiv (2 * d) ∧ (x * 5 * 1000000 * 1000000 * 1000000).fdiv (2 * d) < 10 ^ 24 ∧
    2 * d * (x * 5 * 1000000 * 1000000 * 1000000).fdiv (2 * d) ≤ x * 5000000000000000000 ∧ x * 5000000000000000000 < 2 * d * ((x * 5 * 1000000 * 1000000 * 1000000).fdiv (2 * d) + 1) := by
  have e : x * 5 * 1000000 * 1000000 * 1000000 = x * 5000000000000000000 := by omega
  rw [e, Int.fdiv_eq_ediv_of_nonneg _ (by omega)]
  have h1 := Int.mul_ediv_self_le (x := x * 5000000000000000000) (k := 2 * d) (by omega)
  have h2 := Int.lt_mul_ediv_self_add (x := x * 5000000000000000000) (k := 2 * d) (by omega)
  have h3 : 0 ≤ x * 5000000000000000000 / (2 * d) := Int.ediv_nonneg (by omega) (by omega)
  have h4 : 2400 * (x * 5000000000000000000 / (2 * d)) ≤ 2 * d * (x * 5000000000000000000 / (2 * d)) := Int.mul_le_mul_of_nonneg_right (by omega) h3
  refine ⟨h3, by omega, h1, ?_⟩
  rw [Int.mul_add, Int.mul_one]
  exact h2
theorem ct_some {tw wd d z q : Int} (hw : ¬ tw ≤ wd) (hd0 : 1200 ≤ d) (h0 : 0 ≤ z) (h1 : z * z * z ≤ q) (h2 : q < (z + 1) * (z + 1) * (z + 1)) (hq : 0 ≤ q ∧ q < 10 ^ 24 ∧ 2 * d * q ≤ (tw - wd) * 5000000000000000000 ∧ (tw - wd) * 5000000000000000000 < 2 * d * (q + 1)) : CubTime tw wd d z := by
  have hz : z < 100000000 := cube_lt_of (by omega) (by omega)
  refine ⟨h0, by omega, fun h => absurd h hw, fun _ => ⟨?_, ?_⟩⟩
  · exact Int.le_trans (Int.mul_le_mul_of_nonneg_left h1 (by omega)) hq.2.2.1
  · exact Int.lt_of_lt_of_le hq.2.2.2 (Int.mul_le_mul_of_nonneg_left (by omega) (by omega))
theorem ct_none {tw wd d : Int} (hw : tw ≤ wd) : CubTime tw wd d 0 := ⟨by omega, by omega, fun _ => rfl, fun h => by omega⟩

set_option maxRecDepth 100000 in
set_option maxHeartbeats 8000000 in
theorem cubicTime_ctr (w : World) (mean : ExcName → Option Value) (mg mb : Str → Option Value) (news : List (Addr × Obj)) (tw wd d : Int) (t1 t2 t3 : Tok) (h1 : tw - wd ≤ 100000000) (hd0 : 1200 ≤ d) (hd1 : d ≤ 9000) :
    Ctr w mean mg mb 140 [.int tw t1, .int wd t2, .int d t3] news 4 32 (fun K => ∀ (z : Int) (t : Tok), CubTime tw wd d z → K (.int z t) news) := by
  unfold Ctr
  k_fill
  intro dp un gd cn cs a ccd cl outer A₀ base h₀ L m s Q E B F X N T hk hd hu hret
  refine wpAny_call ?_
  k_dflt cell_enter
  k_with_none
  k_with "call ref" => (k_here; k_dflt ((refine' ctr_use (cubeRoot_ctr _ _ _ _ _ _ _ ?c1 ?c2) ?k1 ?k2 ?k3 ?k4 ?k5 ?kK ?kd ?ku ?_); (case k1 => k_asm); (case k2 => k_asm); (case k3 => k_asm); (case k4 => k_asm); (case k5 => k_asm); (case kK => first | exact rfl | assumption); (case kd => first | exact room_of hd rfl | exact Nat.le_of_ble_eq_true rfl | ktr_room); (case ku => first | exact room_of hu rfl | exact Nat.le_of_ble_eq_true rfl | ktr_units); (case c1 => exact (ct_quot (by omega) h1 hd0).1); (case c2 => exact (ct_quot (by omega) h1 hd0).2.1); (intro z9 t9 a1 a2 a3 a4 a5 a6 a7 hp9 tk9 F9 N9; (try k_sweep); (try dsimp only); (try k_fold))))
  k_steps
  · exact hret _ _ (ct_none (by assumption)) _ _ (by k_asm) (by k_asm)
  · exact hret _ _ (ct_some (by assumption) hd0 a1 a2 a3 (ct_quot (by omega) h1 hd0)) _ _ (by k_asm) (by k_asm)
end

section
set_option maxRecDepth 100000 in
set_option maxHeartbeats 8000000 in
theorem cubicWindow_ctr (w : World) (mean : ExcName → Option Value) (mg mb : Str → Option Value) (news : List (Addr × Obj)) (el me tw d : Int) (t0 t1 t2 t3 : Tok) (he0 : 0 ≤ el) (he1 : el ≤ 200000000) (hm0 : 0 ≤ me) (hm1 : me ≤ 200000000) (hd0 : 1200 ≤ d) (hd1 : d ≤ 9000) :
    Ctr w mean mg mb 147 [.int el t0, .int me t1, .int tw t2, .int d t3] news 2 16 (fun K => ∀ (t : Tok), K (.int (tw + (2 * d * (el - me) * (el - me) * (el - me)).fdiv 5000000000000000000) t) news) := by
  unfold Ctr
  k_fill
  intro dp un gd cn cs a ccd cl outer A₀ base h₀ L m s Q E B F X N T hk hd hu hret
  refine wpAny_call ?_
  k_dflt cell_enter
  k_with_none
  k_steps
  exact hret _ _ _ (by k_asm) (by k_asm)
end

section
theorem Ctr.mono {w : World} {mean : ExcName → Option Value} {mg mb : Str → Option Value} {f : Addr} {vs : List Value} {news : List (Addr × Obj)} {K M : Nat} {P P' : (Value → List (Addr × Obj) → Prop) → Prop}
    (C : Ctr w mean mg mb f vs news K M P) (h : ∀ K, P' K → P K) : Ctr w mean mg mb f vs news K M P' := by
  intro dp un gd cn cs a ccd cl outer A₀ base h₀ L m s Q E B F X N T hk hd hu hret
  exact C dp un gd cn cs a ccd cl outer A₀ base h₀ L m s Q E B F X N T hk hd hu (h _ hret)
def CW (d a g : Int) : Prop := 5000000000000000000 * g ≤ 2 * d * (a * a * a) ∧ 2 * d * (a * a * a) < 5000000000000000000 * (g + 1)
theorem cw_of (d a : Int) : CW d a ((2 * d * a * a * a).fdiv (5 * 1000000 * 1000000 * 1000000)) := by
  have e : 2 * d * a * a * a = 2 * d * (a * a * a) := by simp only [Int.mul_assoc]
  rw [e]
  show CW d a ((2 * d * (a * a * a)).fdiv 5000000000000000000)
  rw [Int.fdiv_eq_ediv_of_nonneg _ (by omega)]
  unfold CW
  omega
theorem cubicWindow2_ctr (w : World) (mean : ExcName → Option Value) (mg mb : Str → Option Value) (news : List (Addr × Obj)) (el me tw d : Int) (t0 t1 t2 t3 : Tok) (he0 : 0 ≤ el) (he1 : el ≤ 200000000) (hm0 : 0 ≤ me) (hm1 : me ≤ 200000000) (hd0 : 1200 ≤ d) (hd1 : d ≤ 9000) :
    Ctr w mean mg mb 147 [.int el t0, .int me t1, .int tw t2, .int d t3] news 2 16 (fun K => ∀ (g : Int) (t : Tok), CW d (el - me) g → K (.int (tw + g) t) news) :=
  (cubicWindow_ctr w mean mg mb news el me tw d t0 t1 t2 t3 he0 he1 hm0 hm1 hd0 hd1).mono (fun _ h t => h _ t (cw_of _ _))
theorem ten_eighteen : (10 : Int) ^ Int.toNat 18 = 1000000000000000000 := by decide +kernel
theorem ct_zero {tw wd d z : Int} (h : CubTime tw wd d z) (hw : tw ≤ wd) : z = 0 := h.2.2.1 hw
theorem ct_both {tw wd d z : Int} (hd : 1200 ≤ d) (h : CubTime tw wd d z) (hw : wd ≤ tw) : 2 * d * (z * z * z) ≤ (tw - wd) * 5000000000000000000 ∧ (tw - wd) * 5000000000000000000 < 2 * d * ((z + 1) * (z + 1) * (z + 1)) := by
  by_cases h1 : wd < tw
  · exact h.2.2.2 h1
  · have e := h.2.2.1 (by omega)
    subst e
    exact ⟨by omega, by omega⟩
theorem ct_pow {tw wd d z : Int} (hd : 1200 ≤ d) (h : CubTime tw wd d z) (hw : wd ≤ tw) : 2 * d * z ^ Int.toNat 3 ≤ (tw - wd) * 5 * 10 ^ Int.toNat 18 ∧ (tw - wd) * 5 * 10 ^ Int.toNat 18 < 2 * d * (z + 1) ^ Int.toNat 3 := by
  rw [pow_three, pow_three, ten_eighteen]
  have := ct_both hd h hw
  exact ⟨by omega, by omega⟩
theorem cw_same {d m g : Int} (h : CW d (m - m) g) : g = 0 := by
  unfold CW at h
  rw [Int.sub_self] at h
  omega
theorem cube_neg (d a : Int) : 2 * d * ((0 - a) * (0 - a) * (0 - a)) = -(2 * d * (a * a * a)) := by
  simp only [Int.zero_sub, Int.neg_mul, Int.mul_neg, Int.neg_neg]
theorem cw_next {tw wd d m g : Int} (hd : 1200 ≤ d) (c : CubTime tw wd d m) (hw : wd ≤ tw) (h : CW d (0 - (m + 1)) g) : tw + g ≤ wd := by
  have h1 := (ct_both hd c hw).2
  unfold CW at h
  rw [cube_neg] at h
  generalize 2 * d * ((m + 1) * (m + 1) * (m + 1)) = X at *
  omega
theorem cw_begin {tw wd d m g : Int} (hd : 1200 ≤ d) (c : CubTime tw wd d m) (hw : wd ≤ tw) (h : CW d (0 - m) g) : wd ≤ tw + g := by
  have h1 := (ct_both hd c hw).1
  unfold CW at h
  rw [cube_neg] at h
  generalize 2 * d * (m * m * m) = X at *
  omega
theorem cw_pow {d a g : Int} (tw : Int) (h : CW d a g) : 5 * 10 ^ Int.toNat 18 * (tw + g - tw) ≤ 2 * d * a ^ Int.toNat 3 ∧ 2 * d * a ^ Int.toNat 3 < 5 * 10 ^ Int.toNat 18 * (tw + g - tw + 1) := by
  rw [pow_three, ten_eighteen, show tw + g - tw = g by omega]
  unfold CW at h
  exact ⟨by omega, by omega⟩
theorem cw_pow2 {tw wd d m a g : Int} (_c : CubTime tw wd d m) (h : CW d a g) : 5 * 10 ^ Int.toNat 18 * (tw + g - tw) ≤ 2 * d * a ^ Int.toNat 3 ∧ 2 * d * a ^ Int.toNat 3 < 5 * 10 ^ Int.toNat 18 * (tw + g - tw + 1) := cw_pow tw h
theorem cube_mono {a b : Int} (h : a ≤ b) : a * a * a ≤ b * b * b := by
  by_cases h0 : 0 ≤ a
  · exact cube_le h0 h
  · by_cases h1 : 0 ≤ b
    · have h2 : 0 ≤ (0 - a) * (0 - a) * (0 - a) := Int.mul_nonneg (Int.mul_nonneg (by omega) (by omega)) (by omega)
      have h3 : (0 - a) * (0 - a) * (0 - a) = -(a * a * a) := by simp only [Int.zero_sub, Int.neg_mul, Int.mul_neg, Int.neg_neg]
      have h4 : 0 ≤ b * b * b := Int.mul_nonneg (Int.mul_nonneg h1 h1) h1
      omega
    · have h2 := cube_le (a := 0 - b) (b := 0 - a) (by omega) (by omega)
      have h3 : (0 - a) * (0 - a) * (0 - a) = -(a * a * a) := by simp only [Int.zero_sub, Int.neg_mul, Int.mul_neg, Int.neg_neg]
      have h4 : (0 - b) * (0 - b) * (0 - b) = -(b * b * b) := by simp only [Int.zero_sub, Int.neg_mul, Int.mul_neg, Int.neg_neg]
      omega
theorem cw_mono {d a a' g g' : Int} (hd : 1200 ≤ d) (h : CW d a g) (h' : CW d a' g') (ha : a ≤ a') : g ≤ g' := by
  have h1 : 2 * d * (a * a * a) ≤ 2 * d * (a' * a' * a') := Int.mul_le_mul_of_nonneg_left (cube_mono ha) (by omega)
  unfold CW at h h'
  generalize 2 * d * (a * a * a) = X at *
  generalize 2 * d * (a' * a' * a') = Y at *
  omega
section
variable {prog : Program} {w : World} {A : Around} {E : Value → Shared → Prop} {s : Shared} {h₀ : Heap} {L l : Addr} {news : List (Addr × Obj)} {n : Nat} {k : Int} {u u1 u2 u3 : Tok}
theorem pick_datagram {value slice : PySem.Expr} {Q : Value → Shared → Prop} (N : News h₀ L s.heap news) (hm : (l, listOf #[.int 1200 u1, .int 1472 u2, .int 9000 u3] n) ∈ news) (h0 : 0 ≤ k) (h1 : k < 3)
    (h : ∀ d t, 1200 ≤ d → d ≤ 9000 → Q (.int d t) s) (hs : subscripted slice false (.ref l) (.int k u) = operate [.ref l, .int k u] (getItem (.ref l) (.int k u)) := by with_unfolding_all rfl) :
    wpAny (model prog w) A (subscriptTail value slice (.ref l) (.int k u)) Q E s := by
  refine ksa_sub (vs := [.int 1200 u1, .int 1472 u2, .int 9000 u3]) (ns := [1200, 1472, 9000]) N hm (.cons _ _ (.cons _ _ (.cons _ _ .nil))) h0 (by simpa using h1) (by omega) (fun t => ?_) hs
  have hc : k = 0 ∨ k = 1 ∨ k = 2 := by omega
  rcases hc with rfl | rfl | rfl
  · exact h 1200 t (by omega) (by omega)
  · exact h 1472 t (by omega) (by omega)
  · exact h 9000 t (by omega) (by omega)
end
theorem growth_end {h₀ : Heap} {L : Addr} {m : Str → Option Value} {s : Shared} {Q : Value → Shared → Prop} {h' : Heap} {tk' : Nat} {b l : Addr} {cb nl : Nat} {vs : List Value} {ns : List Int} {sd : Int} {ts : Tok} {v : Bool}
    (hret : ∀ (vs' : List Value) (ns' : List Int) (nl' : Nat) (sd' : Int) (ts' : Tok), IntsAre vs' ns' → ns'.length ≤ 24 → 0 ≤ sd' → sd' < 2147483647 → Back h₀ L m s Q (.bool true) [(b, listOf #[.ref l, .int sd' ts'] cb), (l, listOf vs'.toArray nl')])
    (hI : IntsAre vs ns) (hl : ns.length ≤ 24) (h0 : 0 ≤ sd) (h1 : sd < 2147483647) (F : Fr h₀ L h' m) (N : News h₀ L h' [(b, listOf #[.ref l, .int sd ts] cb), (l, listOf vs.toArray nl)]) (hv : v = true) : Q (.bool v) { s with heap := h', toks := tk' } := by
  subst hv
  exact hret vs ns nl sd ts hI hl h0 h1 h' tk' F N
local macro_rules | `(tactic| k_ne) => `(tactic| first | assumption | exact Ne.symm (by assumption) | exact Nat.ne_of_gt (by assumption) | exact Nat.ne_of_lt (by assumption))
local macro_rules | `(tactic| mul_fits) => `(tactic| first | exact PySem.IntMulOk.of_left (PySem.intBits_le_64 (by decide) (by decide)) | exact PySem.IntMulOk.of_right (PySem.intBits_le_64 (by decide) (by decide)))
local macro_rules | `(tactic| omega) => `(tactic| (k_dflt (law_clear; law_purse 20000 => lia)))
theorem ct_lid {tw wd d z : Int} (h : CubTime tw wd d z) : z ≤ 200000000 := Int.le_trans h.2.1 (by decide)
theorem ct_next {tw wd d z : Int} (h : CubTime tw wd d z) : 0 ≤ z + 1 ∧ z + 1 ≤ 200000000 := by
  have := h.1
  have := h.2.1
  exact ⟨by omega, by omega⟩
theorem abs_small {z : Int} (h0 : 0 ≤ z) (h1 : z ≤ 200000000) : z.natAbs < 2 ^ 64 := by omega
theorem abs_apart {y z : Int} (h0 : 0 ≤ y) (h1 : y ≤ 200000000) (h2 : 0 ≤ z) (h3 : z ≤ 200000000) : (y - z).natAbs < 2 ^ 64 := by omega
theorem gen_int {e : Int} {p : Int → Prop} (h : ∀ v, v = e → p v) : p e := h e rfl
local macro_rules | `(tactic| walk_at "binaryOp Pow int int") => `(tactic| (k_here; (with_reducible refine pow_int_small ?kb1 ?kb2 ?kb3 ?_); (case kb1 => decide); (case kb2 => decide); (case kb3 => first | decide | exact abs_small (by assumption) (by assumption) | exact abs_apart (by assumption) (by assumption) (by assumption) (by assumption) | omega)))
set_option maxRecDepth 100000 in
set_option maxHeartbeats 8000000 in
theorem growth_ctr (w : World) (mean : ExcName → Option Value) (mg mb : Str → Option Value) (b l : Addr) (vs : List Value) (ns : List Int) (cb nl : Nat) (sd : Int) (ts : Tok)
    (hI : IntsAre vs ns) (hlen : ns.length ≤ 24) (hs : 0 ≤ sd) (hs2 : sd < 2147483647) (hbl : @Ne Nat b l) :
    Ctr w mean mg mb 229 [.ref b] [(b, listOf #[.ref l, .int sd ts] cb), (l, listOf vs.toArray nl)] 8 128
      (fun K => ∀ (vs' : List Value) (ns' : List Int) (nl' : Nat) (sd' : Int) (ts' : Tok),
        IntsAre vs' ns' → ns'.length ≤ 24 → 0 ≤ sd' → sd' < 2147483647 → K (.bool true) [(b, listOf #[.ref l, .int sd' ts'] cb), (l, listOf vs'.toArray nl')]) := by
  unfold Ctr
  k_fill
  intro dp un gd cn cs a ccd cl outer A₀ base h₀ L m s Q E B F X N T hk hd hu hret
  refine wpAny_call ?_
  k_dflt cell_enter
  k_with_none
  k_with "call ref" => (k_here; k_dflt ((refine' ctr_use (take_ctr _ _ _ _ _ _ _ _ _ _ _ _ _ _ _ ?tI ?tl ?ts ?ts2 ?tk0 ?tk1 ?tbl ?trb ?trl) ?k1 ?k2 ?k3 ?k4 ?k5 ?kK ?kd ?ku ?_); (case k1 => k_asm); (case k2 => k_asm); (case k3 => k_asm); (case k4 => first | k_asm | exact news_rot (by k_asm) | exact news_sel2 (by assumption) (by k_mem) (by k_mem) (by exact List.forall_mem_nil _)); (case k5 => k_asm); (case kK => first | exact rfl | assumption); (case kd => first | exact room_of hd rfl | exact Nat.le_of_ble_eq_true rfl | ktr_room); (case ku => first | exact room_of hu rfl | exact Nat.le_of_ble_eq_true rfl | ktr_units); (case tI => with_reducible assumption); (case tl => first | assumption | exact List.length_take_le _ _); (case ts => assumption); (case ts2 => assumption); (case tk0 => decide +kernel); (case tk1 => decide +kernel); (case tbl => k_ne); (case trb => k_all); (case trl => k_all); (intro z9 tz9 vs9 ns9 nl9 sd9 ts9 a1 a2 I9 a3 a4 a5 hp9 tk9 F9 N9; (try simp only [ten_twelve] at a2); (try k_sweep); (try dsimp only); (try k_fold))))
  k_with "call ref" => (k_here; k_dflt ((refine' ctr_use (cubicTime_ctr _ _ _ _ _ _ _ _ _ _ _ ?c1 ?c2 ?c3) ?k1 ?k2 ?k3 ?k4 ?k5 ?kK ?kd ?ku ?_); (case k1 => k_asm); (case k2 => k_asm); (case k3 => k_asm); (case k4 => k_asm); (case k5 => k_asm); (case kK => first | exact rfl | assumption); (case kd => first | exact room_of hd rfl | exact Nat.le_of_ble_eq_true rfl | ktr_room); (case ku => first | exact room_of hu rfl | exact Nat.le_of_ble_eq_true rfl | ktr_units); (case c1 => first | assumption | omega); (case c2 => assumption); (case c3 => assumption); (intro z9 t9 ha1 hp9 tk9 F9 N9; (first | (have e0 := ct_zero ha1 (by omega); subst e0; clear ha1) | (have e2 := ha1.1; have e3 := ct_lid ha1; obtain ⟨e6, e7⟩ := ct_next ha1; obtain ⟨e4, e5⟩ := ct_pow (by assumption) ha1 (by assumption); have hct := ha1)); (try k_sweep); (try dsimp only); (try k_fold))))
  k_with "call ref" => (k_here; k_dflt ((refine' ctr_use (cubicWindow2_ctr _ _ _ _ _ _ _ _ _ _ _ _ _ ?c1 ?c2 ?c3 ?c4 ?c5 ?c6) ?k1 ?k2 ?k3 ?k4 ?k5 ?kK ?kd ?ku ?_); (case k1 => k_asm); (case k2 => k_asm); (case k3 => k_asm); (case k4 => k_asm); (case k5 => k_asm); (case kK => first | exact rfl | assumption); (case kd => first | exact room_of hd rfl | exact Nat.le_of_ble_eq_true rfl | ktr_room); (case ku => first | exact room_of hu rfl | exact Nat.le_of_ble_eq_true rfl | ktr_units); (case c1 => first | decide | assumption | omega); (case c2 => first | decide | assumption | omega); (case c3 => first | decide | assumption | omega); (case c4 => first | decide | assumption | omega); (case c5 => first | decide | assumption | omega); (case c6 => first | decide | assumption | omega); (intro g9 t9 hg hp9 tk9 F9 N9; (first | (have e9 := cw_same hg) | (have e9 := cw_next (by assumption) hct (by assumption) hg) | (have e9 := cw_begin (by assumption) hct (by assumption) hg) | (have e9 := cw_mono (by assumption) hgAt hg (by omega)) | (obtain ⟨e9, e8⟩ := cw_pow2 hct hg; have hgAt := hg)); (clear hg); (try k_sweep); (try dsimp only); (try k_fold))))
  k_with "subscriptTail" => (k_here; (with_reducible show wpAny _ _ (subscriptTail _ _ (Value.ref _) (Value.int _ _)) _ _ _); k_dflt ((refine' pick_datagram ?k1 ?k2 ?k3 ?k4 ?_ ?k7); (case k1 => k_asm); (case k2 => k_mem); (case k3 => assumption); (case k4 => assumption); (case k7 => with_unfolding_all rfl); (intro d9 td9 hd1 hd2)))
  k_with "storeName" => ((k_dflt (show wpAny _ _ (storeName _ (Str.ofString "present") (Value.int (2 * d9 + 100 * z9) _)) _ _ _)); (generalize 2 * d9 + 100 * z9 = pr))
  k_with "storeName" => ((k_dflt (show wpAny _ _ (storeName _ (Str.ofString "top") (Value.int (pr + 100 * z9) _)) _ _ _)); (generalize htp : pr + 100 * z9 = tp); (have hle : pr ≤ tp := by omega); (have hdf : tp - pr ≤ 100000000 := by omega); (clear htp))
  k_with "storeName" => ((k_dflt (show wpAny _ _ (storeName _ (Str.ofString "at") (Value.int (1000 * z9) _)) _ _ _)); (generalize hat : 1000 * z9 = at9); (have hat0 : 0 ≤ at9 := by omega); (have hat1 : at9 ≤ 200000000 := by omega); (have hat2 : at9 ≤ 100000000 := by omega); (clear hat))
  have k18 := ten_eighteen
  k_steps
  all_goals first
    | exact growth_end hret I9 a3 a4 a5 (by k_asm) (by first | k_asm | exact news_sel2 (by assumption) (by k_mem) (by k_mem) (by exact List.forall_mem_nil _)) (decide_eq_true (by omega))
    | (exfalso; omega)
end

section
/-- the numbers of a sender -/
structure Snd where
  w : Int
  thr : Option Int
  rv : Option Int
  fl : Int
  cr : Int
  tw : Int
  pw : Int
  beg : Option Int
  mt : Int
  fr : Int
  fc : Int
/-- the sender's dict in the ledger -/
abbrev sdict (P : Params) (k1 k2 k3 k4 k5 k6 k7 k8 k9 k10 k11 k12 : Tok) (v1 v2 v3 v4 v5 v6 v7 v8 v9 v10 v11 v12 : Value) : Obj :=
  dictOf [⟨PyData.keyHash P (Str.ofString "datagram"), .str (Str.ofString "datagram") k1, v1⟩,
    ⟨PyData.keyHash P (Str.ofString "window"), .str (Str.ofString "window") k2, v2⟩,
    ⟨PyData.keyHash P (Str.ofString "threshold"), .str (Str.ofString "threshold") k3, v3⟩,
    ⟨PyData.keyHash P (Str.ofString "recovery_at"), .str (Str.ofString "recovery_at") k4, v4⟩,
    ⟨PyData.keyHash P (Str.ofString "in_flight"), .str (Str.ofString "in_flight") k5, v5⟩,
    ⟨PyData.keyHash P (Str.ofString "credit"), .str (Str.ofString "credit") k6, v6⟩,
    ⟨PyData.keyHash P (Str.ofString "top_window"), .str (Str.ofString "top_window") k7, v7⟩,
    ⟨PyData.keyHash P (Str.ofString "prior_window"), .str (Str.ofString "prior_window") k8, v8⟩,
    ⟨PyData.keyHash P (Str.ofString "begun_at"), .str (Str.ofString "begun_at") k9, v9⟩,
    ⟨PyData.keyHash P (Str.ofString "meets_after"), .str (Str.ofString "meets_after") k10, v10⟩,
    ⟨PyData.keyHash P (Str.ofString "friendly"), .str (Str.ofString "friendly") k11, v11⟩,
    ⟨PyData.keyHash P (Str.ofString "friendly_credit"), .str (Str.ofString "friendly_credit") k12, v12⟩] 12
def ValO (v : Value) (o : Option Int) : Prop := (v = .none ∧ o = none) ∨ ∃ i t, v = .int i t ∧ o = some i
theorem valO_none : ValO .none none := .inl ⟨rfl, rfl⟩
theorem valO_some (i : Int) (t : Tok) : ValO (.int i t) (some i) := .inr ⟨i, t, rfl, rfl⟩
def IsSnd (P : Params) (o : Obj) (S : Snd) : Prop :=
  ∃ k1 k2 k3 k4 k5 k6 k7 k8 k9 k10 k11 k12 t1 t2 t5 t6 t7 t8 t10 t11 t12 v3 v4 v9, o = sdict P k1 k2 k3 k4 k5 k6 k7 k8 k9 k10 k11 k12
    (.int 1200 t1) (.int S.w t2) v3 v4 (.int S.fl t5) (.int S.cr t6) (.int S.tw t7) (.int S.pw t8) v9 (.int S.mt t10) (.int S.fr t11) (.int S.fc t12) ∧ ValO v3 S.thr ∧ ValO v4 S.rv ∧ ValO v9 S.beg
theorem isSnd_mk {P : Params} {k1 k2 k3 k4 k5 k6 k7 k8 k9 k10 k11 k12 t1 t2 t5 t6 t7 t8 t10 t11 t12 : Tok} {v3 v4 v9 : Value} {w fl cr tw pw mt fr fc : Int} {thr rec beg : Option Int}
    (h3 : ValO v3 thr) (h4 : ValO v4 rec) (h9 : ValO v9 beg) :
    IsSnd P (sdict P k1 k2 k3 k4 k5 k6 k7 k8 k9 k10 k11 k12 (.int 1200 t1) (.int w t2) v3 v4 (.int fl t5) (.int cr t6) (.int tw t7) (.int pw t8) v9 (.int mt t10) (.int fr t11) (.int fc t12)) ⟨w, thr, rec, fl, cr, tw, pw, beg, mt, fr, fc⟩ :=
  ⟨_, _, _, _, _, _, _, _, _, _, _, _, _, _, _, _, _, _, _, _, _, _, _, _, rfl, h3, h4, h9⟩
def inRec : Option Int → Int → Bool
  | none, _ => false
  | some r, t => decide (t ≤ r)
def isSlow : Option Int → Int → Bool
  | none, _ => true
  | some t, w => decide (w < t)
theorem valO_int {v : Value} {o : Option Int} {i : Int} (h : ValO v o) (e : o = some i) : ∃ t, v = .int i t := by
  obtain ⟨_, e2⟩ | ⟨j, t, rfl, e2⟩ := h
  · rw [e2] at e; cases e
  · rw [e2] at e; cases e; exact ⟨t, rfl⟩
theorem valO_no {v : Value} {o : Option Int} (h : ValO v o) (e : o = none) : v = .none := by
  obtain ⟨rfl, _⟩ | ⟨j, t, rfl, e2⟩ := h
  · rfl
  · rw [e2] at e; cases e
/-- what holds of a sender between the turns, under a bound that grows with them -/
def Inv (b now : Int) (S : Snd) : Prop :=
  2400 ≤ S.w ∧ S.w ≤ b ∧ 0 ≤ S.cr ∧ S.cr < S.w ∧ 0 ≤ S.tw ∧ S.tw ≤ b ∧ 0 ≤ S.fr ∧ S.fr ≤ b ∧ 0 ≤ S.fc ∧ S.fc ≤ 17 * b ∧ 0 ≤ S.mt ∧ S.mt ≤ 100000000 ∧ (∀ r, S.beg = some r → 0 ≤ r ∧ r ≤ now)
/-- what a method's caller is told: the sender's dict is that of `S`, written out -/
def SndK (P : Params) (x d : Addr) (e1 e2 : Addr × Obj) (rest : List (Addr × Obj)) (K : Value → List (Addr × Obj) → Prop) (r : Value) (S : Snd) : Prop :=
  ∀ (k1 k2 k3 k4 k5 k6 k7 k8 k9 k10 k11 k12 t1 t2 t5 t6 t7 t8 t10 t11 t12 : Tok) (v3 v4 v9 : Value), ValO v3 S.thr → ValO v4 S.rv → ValO v9 S.beg →
    IsSnd P (sdict P k1 k2 k3 k4 k5 k6 k7 k8 k9 k10 k11 k12 (.int 1200 t1) (.int S.w t2) v3 v4 (.int S.fl t5) (.int S.cr t6) (.int S.tw t7) (.int S.pw t8) v9 (.int S.mt t10) (.int S.fr t11) (.int S.fc t12)) S →
    K r (e1 :: e2 :: (x, instObj 206 d) :: (d, sdict P k1 k2 k3 k4 k5 k6 k7 k8 k9 k10 k11 k12 (.int 1200 t1) (.int S.w t2) v3 v4 (.int S.fl t5) (.int S.cr t6) (.int S.tw t7) (.int S.pw t8) v9 (.int S.mt t10) (.int S.fr t11) (.int S.fc t12)) :: rest)
theorem snd_ret {P : Params} {x d : Addr} {e1 e2 : Addr × Obj} {rest : List (Addr × Obj)} {h₀ : Heap} {L : Addr} {m : Str → Option Value} {s : Shared} {Q : Value → Shared → Prop} {r : Value} {h' : Heap} {tk' : Nat}
    {k1 k2 k3 k4 k5 k6 k7 k8 k9 k10 k11 k12 t1 t2 t5 t6 t7 t8 t10 t11 t12 : Tok} {v3 v4 v9 : Value} {w fl cr tw pw mt fr fc : Int} {thr rv beg : Option Int}
    (hret : SndK P x d e1 e2 rest (Back h₀ L m s Q) r ⟨w, thr, rv, fl, cr, tw, pw, beg, mt, fr, fc⟩) (h3 : ValO v3 thr) (h4 : ValO v4 rv) (h9 : ValO v9 beg) (F : Fr h₀ L h' m)
    (N : News h₀ L h' (e1 :: e2 :: (x, instObj 206 d) :: (d, sdict P k1 k2 k3 k4 k5 k6 k7 k8 k9 k10 k11 k12 (.int 1200 t1) (.int w t2) v3 v4 (.int fl t5) (.int cr t6) (.int tw t7) (.int pw t8) v9 (.int mt t10) (.int fr t11) (.int fc t12)) :: rest)) :
    Q r { s with heap := h', toks := tk' } :=
  hret k1 k2 k3 k4 k5 k6 k7 k8 k9 k10 k11 k12 t1 t2 t5 t6 t7 t8 t10 t11 t12 v3 v4 v9 h3 h4 h9 (isSnd_mk h3 h4 h9) h' tk' F N
/-- the dict is written out once, ahead of the walk -/
theorem snd_open {P : Params} {o : Obj} {S : Snd} {C : Obj → Prop} (hS : IsSnd P o S)
    (h : ∀ (k1 k2 k3 k4 k5 k6 k7 k8 k9 k10 k11 k12 t1 t2 t5 t6 t7 t8 t10 t11 t12 : Tok) (v3 v4 v9 : Value), ValO v3 S.thr → ValO v4 S.rv → ValO v9 S.beg →
      IsSnd P (sdict P k1 k2 k3 k4 k5 k6 k7 k8 k9 k10 k11 k12 (.int 1200 t1) (.int S.w t2) v3 v4 (.int S.fl t5) (.int S.cr t6) (.int S.tw t7) (.int S.pw t8) v9 (.int S.mt t10) (.int S.fr t11) (.int S.fc t12)) S →
      C (sdict P k1 k2 k3 k4 k5 k6 k7 k8 k9 k10 k11 k12 (.int 1200 t1) (.int S.w t2) v3 v4 (.int S.fl t5) (.int S.cr t6) (.int S.tw t7) (.int S.pw t8) v9 (.int S.mt t10) (.int S.fr t11) (.int S.fc t12))) : C o := by
  have hS0 := hS
  obtain ⟨k1, k2, k3, k4, k5, k6, k7, k8, k9, k10, k11, k12, t1, t2, t5, t6, t7, t8, t10, t11, t12, v3, v4, v9, rfl, h3, h4, h9⟩ := hS
  exact h k1 k2 k3 k4 k5 k6 k7 k8 k9 k10 k11 k12 t1 t2 t5 t6 t7 t8 t10 t11 t12 v3 v4 v9 h3 h4 h9 hS0
theorem valO_handed {v : Value} {o : Option Int} (h : ValO v o) : handedIn v = true := by
  obtain ⟨rfl, _⟩ | ⟨j, t, rfl, _⟩ := h
  · rfl
  · rfl
end

section
set_option maxRecDepth 100000 in
set_option maxHeartbeats 8000000 in
theorem inRec_ctr (w : World) (mean : ExcName → Option Value) (mg mb : Str → Option Value) (x d : Addr) (o : Obj) (e1 e2 : Addr × Obj) (rest : List (Addr × Obj)) (S : Snd) (sent : Int) (t : Tok) (hS : IsSnd w.params o S) :
    Ctr w mean mg mb 70 [.ref x, .int sent t] (e1 :: e2 :: (x, instObj 206 d) :: (d, o) :: rest) 2 16
      (fun K => K (.bool (inRec S.rv sent)) (e1 :: e2 :: (x, instObj 206 d) :: (d, o) :: rest)) := by
  refine snd_open (C := fun o => Ctr _ _ _ _ _ _ (e1 :: e2 :: (x, instObj 206 d) :: (d, o) :: rest) _ _ (fun K => K _ (e1 :: e2 :: (x, instObj 206 d) :: (d, o) :: rest))) hS ?_
  clear hS
  intro k1 k2 k3 k4 k5 k6 k7 k8 k9 k10 k11 k12 t1 t2 t5 t6 t7 t8 t10 t11 t12 v3 v4 v9 h3 h4 h9 hS0
  unfold Ctr
  k_fill
  intro dp un gd cn cs a ccd cl outer A₀ base h₀ L m s Q E B F X N T hk hd hu hret
  refine wpAny_call ?_
  k_dflt cell_enter
  k_with_none
  obtain ⟨rfl, e⟩ | ⟨i, t, rfl, e⟩ := h4
  all_goals rw [e] at hret
  · k_steps
    exact hret _ _ (by k_asm) (by k_asm)
  · k_steps
    exact hret _ _ (by k_asm) (by k_asm)

set_option maxRecDepth 100000 in
set_option maxHeartbeats 8000000 in
theorem isSlow_ctr (w : World) (mean : ExcName → Option Value) (mg mb : Str → Option Value) (x d : Addr) (o : Obj) (e1 e2 : Addr × Obj) (rest : List (Addr × Obj)) (S : Snd) (hS : IsSnd w.params o S) :
    Ctr w mean mg mb 63 [.ref x] (e1 :: e2 :: (x, instObj 206 d) :: (d, o) :: rest) 2 16
      (fun K => K (.bool (isSlow S.thr S.w)) (e1 :: e2 :: (x, instObj 206 d) :: (d, o) :: rest)) := by
  refine snd_open (C := fun o => Ctr _ _ _ _ _ _ (e1 :: e2 :: (x, instObj 206 d) :: (d, o) :: rest) _ _ (fun K => K _ (e1 :: e2 :: (x, instObj 206 d) :: (d, o) :: rest))) hS ?_
  clear hS
  intro k1 k2 k3 k4 k5 k6 k7 k8 k9 k10 k11 k12 t1 t2 t5 t6 t7 t8 t10 t11 t12 v3 v4 v9 h3 h4 h9 hS0
  unfold Ctr
  k_fill
  intro dp un gd cn cs a ccd cl outer A₀ base h₀ L m s Q E B F X N T hk hd hu hret
  refine wpAny_call ?_
  k_dflt cell_enter
  k_with_none
  obtain ⟨rfl, e⟩ | ⟨i, t, rfl, e⟩ := h3
  all_goals rw [e] at hret
  · k_steps
    exact hret _ _ (by k_asm) (by k_asm)
  · k_steps
    exact hret _ _ (by k_asm) (by k_asm)

set_option maxRecDepth 100000 in
set_option maxHeartbeats 8000000 in
theorem least_ctr (w : World) (mean : ExcName → Option Value) (mg mb : Str → Option Value) (news : List (Addr × Obj)) (i : Int) (t : Tok) :
    Ctr w mean mg mb 35 [.int i t] news 2 16 (fun K => ∀ t', K (.int (2 * i) t') news) := by
  unfold Ctr
  k_fill
  intro dp un gd cn cs a ccd cl outer A₀ base h₀ L m s Q E B F X N T hk hd hu hret
  refine wpAny_call ?_
  k_dflt cell_enter
  k_with_none
  k_steps
  exact hret _ _ _ (by k_asm) (by k_asm)
end

section
local macro_rules | `(tactic| k_ne) => `(tactic| first | assumption | exact Ne.symm (by assumption) | exact Nat.ne_of_gt (by assumption) | exact Nat.ne_of_lt (by assumption))
local macro_rules | `(tactic| mul_fits) => `(tactic| first | exact PySem.IntMulOk.of_left (PySem.intBits_le_64 (by decide) (by decide)) | exact PySem.IntMulOk.of_right (PySem.intBits_le_64 (by decide) (by decide)))
local macro_rules | `(tactic| omega) => `(tactic| (k_dflt (law_clear; law_purse 20000 => lia)))
local macro_rules | `(tactic| k_all) => `(tactic| assumption)
set_option maxRecDepth 100000 in
set_option maxHeartbeats 8000000 in
theorem begin_ctr (w : World) (mean : ExcName → Option Value) (mg mb : Str → Option Value) (x d : Addr) (o : Obj) (e1 e2 : Addr × Obj) (rest : List (Addr × Obj)) (S : Snd) (now : Int) (t : Tok) (hS : IsSnd w.params o S) (hx : @Ne Nat x d) (he1 : @Ne Nat e1.1 d) (he2 : @Ne Nat e2.1 d) (hr : ∀ p ∈ rest, p.1 ≠ d) (hb : S.tw - S.w ≤ 100000000) :
    Ctr w mean mg mb 175 [.ref x, .int now t] (e1 :: e2 :: (x, instObj 206 d) :: (d, o) :: rest) 6 64
      (fun K => ∀ S', S'.w = S.w → S'.thr = S.thr → S'.rv = S.rv → S'.fl = S.fl → S'.cr = S.cr → S'.tw = (if S.tw < S.w then S.w else S.tw) → S'.beg = some now → CubTime S.tw S.w 1200 S'.mt → S'.fr = S.w → S'.fc = 0 → SndK w.params x d e1 e2 rest K .none S') := by
  refine snd_open (C := fun o => Ctr _ _ _ _ _ _ (e1 :: e2 :: (x, instObj 206 d) :: (d, o) :: rest) _ _ _) hS ?_
  clear hS
  intro k1 k2 k3 k4 k5 k6 k7 k8 k9 k10 k11 k12 t1 t2 t5 t6 t7 t8 t10 t11 t12 v3 v4 v9 h3 h4 h9 hS0
  unfold Ctr
  k_fill
  intro dp un gd cn cs a ccd cl outer A₀ base h₀ L m s Q E B F X N T hk hd hu hret
  refine wpAny_call ?_
  k_dflt cell_enter
  k_with_none
  k_with "call ref" => (k_here; k_dflt ((refine' ctr_use (cubicTime_ctr _ _ _ _ _ _ _ _ _ _ _ ?c1 ?c2 ?c3) ?k1 ?k2 ?k3 ?k4 ?k5 ?kK ?kd ?ku ?_); (case k1 => k_asm); (case k2 => k_asm); (case k3 => k_asm); (case k4 => k_asm); (case k5 => k_asm); (case kK => first | exact rfl | assumption); (case kd => first | exact room_of hd rfl | exact Nat.le_of_ble_eq_true rfl | ktr_room); (case ku => first | exact room_of hu rfl | exact Nat.le_of_ble_eq_true rfl | ktr_units); (case c1 => first | assumption | omega); (case c2 => decide); (case c3 => decide); (intro z9 t9 a1 hp9 tk9 F9 N9; (have a2 := a1.1); (have a3 := a1.2.1); (try k_sweep); (try dsimp only); (try k_fold))))
  k_steps
  (refine' snd_ret (hret _ ?a0 ?a1 ?a2 ?a3 ?a4 ?a5 ?a6 ?a7 ?a8 ?a9) ?h3 ?h4 ?h9 ?F ?N; (case F => k_asm); (case N => first | k_asm | exact news_sel4 (by k_asm) (by k_mem) (by k_mem) (by k_mem) (by k_mem) (by first | exact List.forall_mem_nil _ | (intro p9 h9; k_ownIn))); (case h3 => first | assumption | exact valO_some _ _ | exact valO_none); (case h4 => first | assumption | exact valO_some _ _ | exact valO_none); (case h9 => first | assumption | exact valO_some _ _ | exact valO_none); (case a0 => exact rfl); (case a1 => exact rfl); (case a2 => exact rfl); (case a3 => exact rfl); (case a4 => exact rfl); (case a5 => exact rfl); (case a6 => exact rfl); (case a7 => exact a1); (case a8 => exact rfl); (case a9 => exact rfl))
end

section
theorem fdiv_of {n m : Int} (hm : 0 < m) : n.fdiv m * m ≤ n ∧ n < n.fdiv m * m + m := by
  rw [Int.fdiv_eq_ediv_of_nonneg n (by omega)]
  have h1 := Int.mul_ediv_self_le (x := n) (k := m) (by omega)
  have h2 := Int.lt_mul_ediv_self_add (x := n) (k := m) hm
  rw [Int.mul_comm] at h1 h2
  exact ⟨h1, h2⟩
theorem fdiv_nonneg_of {n m : Int} (hn : 0 ≤ n) (hm : 0 < m) : 0 ≤ n.fdiv m := by
  rw [Int.fdiv_eq_ediv_of_nonneg n (by omega)]
  exact Int.ediv_nonneg hn (by omega)
theorem fr_arith {w n m b : Int} (hw : 2400 ≤ w) (hn : 0 ≤ n) (hn1 : n ≤ 64000000) (hm : m = b * w) (hb : 1 ≤ b) (hb1 : b ≤ 17) :
    0 ≤ n.fdiv m ∧ n.fdiv m ≤ 30000 ∧ 0 ≤ n - n.fdiv m * b * w ∧ n - n.fdiv m * b * w ≤ 17 * w := by
  have h1 : w ≤ b * w := by
    have := Int.mul_le_mul_of_nonneg_right hb (show 0 ≤ w by omega)
    omega
  have h2 : b * w ≤ 17 * w := Int.mul_le_mul_of_nonneg_right hb1 (by omega)
  obtain ⟨h3, h4⟩ := fdiv_of (n := n) (m := m) (by omega)
  have h5 := fdiv_nonneg_of (n := n) (m := m) hn (by omega)
  have h6 : n.fdiv m * 2400 ≤ n.fdiv m * m := Int.mul_le_mul_of_nonneg_left (by omega) h5
  have e : n.fdiv m * b * w = n.fdiv m * m := by rw [Int.mul_assoc, ← hm]
  rw [e]
  exact ⟨h5, by omega, by omega, by omega⟩
local macro_rules | `(tactic| k_ne) => `(tactic| first | assumption | exact Ne.symm (by assumption) | exact Nat.ne_of_gt (by assumption) | exact Nat.ne_of_lt (by assumption))
local macro_rules | `(tactic| mul_fits) => `(tactic| first | exact PySem.IntMulOk.of_left (PySem.intBits_le_64 (by decide) (by decide)) | exact PySem.IntMulOk.of_right (PySem.intBits_le_64 (by decide) (by decide)))
local macro_rules | `(tactic| omega) => `(tactic| (k_dflt (law_clear; law_purse 20000 => lia)))
local macro_rules | `(tactic| k_all) => `(tactic| assumption)
set_option maxRecDepth 100000 in
set_option maxHeartbeats 8000000 in
theorem friendly_ctr (w : World) (mean : ExcName → Option Value) (mg mb : Str → Option Value) (x d : Addr) (o : Obj) (e1 e2 : Addr × Obj) (rest : List (Addr × Obj)) (S : Snd) (size : Int) (t : Tok) (hS : IsSnd w.params o S) (hx : @Ne Nat x d) (he1 : @Ne Nat e1.1 d) (he2 : @Ne Nat e2.1 d) (hr : ∀ p ∈ rest, p.1 ≠ d) (hw0 : 2400 ≤ S.w) (hw1 : S.w ≤ 10000000) (hz0 : 0 ≤ size) (hz1 : size ≤ 1200) (hfc0 : 0 ≤ S.fc) (hfc1 : S.fc ≤ 51000000) :
    Ctr w mean mg mb 182 [.ref x, .int size t] (e1 :: e2 :: (x, instObj 206 d) :: (d, o) :: rest) 2 16
      (fun K => ∀ S', S'.w = S.w → S'.thr = S.thr → S'.rv = S.rv → S'.fl = S.fl → S'.cr = S.cr → S'.tw = S.tw → S'.beg = S.beg → S'.mt = S.mt → S.fr ≤ S'.fr → S'.fr ≤ S.fr + 30000 → 0 ≤ S'.fc → S'.fc ≤ 17 * S.w → SndK w.params x d e1 e2 rest K .none S') := by
  refine snd_open (C := fun o => Ctr _ _ _ _ _ _ (e1 :: e2 :: (x, instObj 206 d) :: (d, o) :: rest) _ _ _) hS ?_
  clear hS
  intro k1 k2 k3 k4 k5 k6 k7 k8 k9 k10 k11 k12 t1 t2 t5 t6 t7 t8 t10 t11 t12 v3 v4 v9 h3 h4 h9 hS0
  unfold Ctr
  k_fill
  intro dp un gd cn cs a ccd cl outer A₀ base h₀ L m s Q E B F X N T hk hd hu hret
  refine wpAny_call ?_
  k_dflt cell_enter
  k_with_none
  k_steps
  · have q := fr_arith (n := S.fc + 1 * 1200 * size) (m := 1 * S.w) (b := 1) hw0 (by omega) (by omega) rfl (by omega) (by omega)
    (refine' snd_ret (hret _ ?a0 ?a1 ?a2 ?a3 ?a4 ?a5 ?a6 ?a7 ?a8 ?a9 ?a10 ?a11) ?h3 ?h4 ?h9 ?F ?N; (case F => k_asm); (case N => first | k_asm | exact news_sel4 (by k_asm) (by k_mem) (by k_mem) (by k_mem) (by k_mem) (by first | exact List.forall_mem_nil _ | (intro p9 h9; k_ownIn))); (case h3 => first | assumption | exact valO_some _ _ | exact valO_none); (case h4 => first | assumption | exact valO_some _ _ | exact valO_none); (case h9 => first | assumption | exact valO_some _ _ | exact valO_none); (case a0 => exact rfl); (case a1 => exact rfl); (case a2 => exact rfl); (case a3 => exact rfl); (case a4 => exact rfl); (case a5 => exact rfl); (case a6 => exact rfl); (case a7 => exact rfl); (case a8 => exact Int.le_add_of_nonneg_right q.1); (case a9 => exact Int.add_le_add_left q.2.1 _); (case a10 => exact q.2.2.1); (case a11 => exact q.2.2.2))
  · have q := fr_arith (n := S.fc + 9 * 1200 * size) (m := 17 * S.w) (b := 17) hw0 (by omega) (by omega) rfl (by omega) (by omega)
    (refine' snd_ret (hret _ ?a0 ?a1 ?a2 ?a3 ?a4 ?a5 ?a6 ?a7 ?a8 ?a9 ?a10 ?a11) ?h3 ?h4 ?h9 ?F ?N; (case F => k_asm); (case N => first | k_asm | exact news_sel4 (by k_asm) (by k_mem) (by k_mem) (by k_mem) (by k_mem) (by first | exact List.forall_mem_nil _ | (intro p9 h9; k_ownIn))); (case h3 => first | assumption | exact valO_some _ _ | exact valO_none); (case h4 => first | assumption | exact valO_some _ _ | exact valO_none); (case h9 => first | assumption | exact valO_some _ _ | exact valO_none); (case a0 => exact rfl); (case a1 => exact rfl); (case a2 => exact rfl); (case a3 => exact rfl); (case a4 => exact rfl); (case a5 => exact rfl); (case a6 => exact rfl); (case a7 => exact rfl); (case a8 => exact Int.le_add_of_nonneg_right q.1); (case a9 => exact Int.add_le_add_left q.2.1 _); (case a10 => exact q.2.2.1); (case a11 => exact q.2.2.2))
end

section
theorem delta (w G : Int) (hw : 0 ≤ w) : 0 ≤ (if w + w.fdiv 2 < (if w > G then w else G) then w + w.fdiv 2 else (if w > G then w else G)) - w ∧
    2 * ((if w + w.fdiv 2 < (if w > G then w else G) then w + w.fdiv 2 else (if w > G then w else G)) - w) ≤ w := by
  have := fdiv_two w
  by_cases h : w > G
  · simp only [if_pos h]
    split <;> omega
  · simp only [if_neg h]
    split <;> omega
theorem gc_arith {w cr e size : Int} (hw : 2400 ≤ w) (h0 : 0 ≤ cr) (h1 : cr < w) (he : 0 ≤ e ∧ 2 * e ≤ w) (hs : 0 ≤ size) :
    0 ≤ (cr + e * size).fdiv w ∧ (cr + e * size).fdiv w ≤ size.fdiv 2 + 1 ∧ 0 ≤ cr + e * size - (cr + e * size).fdiv w * w ∧ cr + e * size - (cr + e * size).fdiv w * w < w := by
  have h2 : 0 ≤ e * size := Int.mul_nonneg he.1 hs
  obtain ⟨h3, h4⟩ := fdiv_of (n := cr + e * size) (m := w) (by omega)
  have h5 := fdiv_nonneg_of (n := cr + e * size) (m := w) (by omega) (by omega)
  have h6 : 2 * e * size ≤ w * size := Int.mul_le_mul_of_nonneg_right he.2 hs
  have h7 : 2 * e * size = 2 * (e * size) := Int.mul_assoc ..
  generalize hq : (cr + e * size).fdiv w = q at *
  have h8 : 2 * q < size + 2 := by
    have h9 : (2 * q) * w < (size + 2) * w := by
      have e1 : (2 * q) * w = 2 * (q * w) := Int.mul_assoc ..
      have e2 : (size + 2) * w = w * size + 2 * w := by rw [Int.add_mul, Int.mul_comm size w]
      omega
    exact Int.lt_of_mul_lt_mul_right h9 (by omega)
  have h9 := fdiv_two size
  exact ⟨h5, by omega, by omega, by omega⟩
def Grown (S S' : Snd) (size : Int) : Prop :=
  S'.thr = S.thr ∧ S'.rv = S.rv ∧ S'.fl = S.fl ∧ S'.tw = S.tw ∧ S'.pw = S.pw ∧ S'.beg = S.beg ∧ S'.mt = S.mt ∧ S'.fr = S.fr ∧ S'.fc = S.fc ∧ S.w ≤ S'.w ∧ (S'.w ≤ S.w + size.fdiv 2 + 1 ∨ S'.w = S.fr) ∧ 0 ≤ S'.cr ∧ S'.cr < S'.w
theorem grown_max {S : Snd} {size : Int} (hc0 : 0 ≤ S.cr) (hc1 : S.cr < S.w) (hz0 : 0 ≤ size) :
    Grown S ⟨if S.fr > S.w then S.fr else S.w, S.thr, S.rv, S.fl, S.cr, S.tw, S.pw, S.beg, S.mt, S.fr, S.fc⟩ size := by
  have q := fdiv_two size
  exact ⟨rfl, rfl, rfl, rfl, rfl, rfl, rfl, rfl, rfl, by dsimp only; split <;> omega, by dsimp only; split <;> omega, hc0, by dsimp only; split <;> omega⟩
theorem grown_more {S : Snd} {size e : Int} (hw0 : 2400 ≤ S.w) (hc0 : 0 ≤ S.cr) (hc1 : S.cr < S.w) (hz0 : 0 ≤ size) (he : 0 ≤ e ∧ 2 * e ≤ S.w) :
    Grown S ⟨S.w + (S.cr + e * size).fdiv S.w, S.thr, S.rv, S.fl, S.cr + e * size - (S.cr + e * size).fdiv S.w * S.w, S.tw, S.pw, S.beg, S.mt, S.fr, S.fc⟩ size := by
  have q := gc_arith hw0 hc0 hc1 he hz0
  exact ⟨rfl, rfl, rfl, rfl, rfl, rfl, rfl, rfl, rfl, (by dsimp only; omega), .inl (by dsimp only; omega), q.2.2.1, (by dsimp only; omega)⟩
local macro_rules | `(tactic| k_ne) => `(tactic| first | assumption | exact Ne.symm (by assumption) | exact Nat.ne_of_gt (by assumption) | exact Nat.ne_of_lt (by assumption))
local macro_rules | `(tactic| mul_fits) => `(tactic| first | exact PySem.IntMulOk.of_left (PySem.intBits_le_64 (by decide) (by decide)) | exact PySem.IntMulOk.of_right (PySem.intBits_le_64 (by decide) (by decide)))
local macro_rules | `(tactic| omega) => `(tactic| (k_dflt (law_clear; law_purse 20000 => lia)))
local macro_rules | `(tactic| k_all) => `(tactic| assumption)
set_option maxRecDepth 100000 in
set_option maxHeartbeats 8000000 in
theorem gcubic_ctr (w : World) (mean : ExcName → Option Value) (mg mb : Str → Option Value) (x d : Addr) (o : Obj) (e1 e2 : Addr × Obj) (rest : List (Addr × Obj)) (S : Snd) (size el sm : Int) (t te tm : Tok) (hS : IsSnd w.params o S) (hx : @Ne Nat x d) (he1 : @Ne Nat e1.1 d) (he2 : @Ne Nat e2.1 d) (hr : ∀ p ∈ rest, p.1 ≠ d) (hw0 : 2400 ≤ S.w) (hw1 : S.w ≤ 10000000) (hc0 : 0 ≤ S.cr) (hc1 : S.cr < S.w) (hz0 : 0 ≤ size) (hz1 : size ≤ 1200) (hl0 : 0 ≤ el) (hl1 : el ≤ 10000000) (hm0 : 0 ≤ sm) (hm1 : sm ≤ 50000) (hmt0 : 0 ≤ S.mt) (hmt1 : S.mt ≤ 100000000) :
    Ctr w mean mg mb 189 [.ref x, .int size t, .int el te, .int sm tm] (e1 :: e2 :: (x, instObj 206 d) :: (d, o) :: rest) 4 32
      (fun K => ∀ S', Grown S S' size → SndK w.params x d e1 e2 rest K .none S') := by
  refine snd_open (C := fun o => Ctr _ _ _ _ _ _ (e1 :: e2 :: (x, instObj 206 d) :: (d, o) :: rest) _ _ _) hS ?_
  clear hS
  intro k1 k2 k3 k4 k5 k6 k7 k8 k9 k10 k11 k12 t1 t2 t5 t6 t7 t8 t10 t11 t12 v3 v4 v9 h3 h4 h9 hS0
  unfold Ctr
  k_fill
  intro dp un gd cn cs a ccd cl outer A₀ base h₀ L m s Q E B F X N T hk hd hu hret
  refine wpAny_call ?_
  k_dflt cell_enter
  k_with_none
  k_with "call ref" => (k_here; k_dflt ((refine' ctr_use (cubicWindow_ctr _ _ _ _ _ _ _ _ _ _ _ _ _ ?c1 ?c2 ?c3 ?c4 ?c5 ?c6) ?k1 ?k2 ?k3 ?k4 ?k5 ?kK ?kd ?ku ?_); (case k1 => k_asm); (case k2 => k_asm); (case k3 => k_asm); (case k4 => k_asm); (case k5 => k_asm); (case kK => first | exact rfl | assumption); (case kd => first | exact room_of hd rfl | exact Nat.le_of_ble_eq_true rfl | ktr_room); (case ku => first | exact room_of hu rfl | exact Nat.le_of_ble_eq_true rfl | ktr_units); (case c1 => first | assumption | omega); (case c2 => first | assumption | omega); (case c3 => first | assumption | omega); (case c4 => first | assumption | omega); (case c5 => decide); (case c6 => decide); (intro t9 hp9 tk9 F9 N9; (try k_sweep); (try dsimp only); (try k_fold))))
  k_steps
  · (refine' snd_ret (hret _ ?a0) ?h3 ?h4 ?h9 ?F ?N; (case F => k_asm); (case N => first | k_asm | exact news_sel4 (by k_asm) (by k_mem) (by k_mem) (by k_mem) (by k_mem) (by first | exact List.forall_mem_nil _ | (intro p9 h9; k_ownIn))); (case h3 => first | assumption | exact valO_some _ _ | exact valO_none); (case h4 => first | assumption | exact valO_some _ _ | exact valO_none); (case h9 => first | assumption | exact valO_some _ _ | exact valO_none); (case a0 => exact grown_max hc0 hc1 hz0))
  · (refine' snd_ret (hret _ ?a0) ?h3 ?h4 ?h9 ?F ?N; (case F => k_asm); (case N => first | k_asm | exact news_sel4 (by k_asm) (by k_mem) (by k_mem) (by k_mem) (by k_mem) (by first | exact List.forall_mem_nil _ | (intro p9 h9; k_ownIn))); (case h3 => first | assumption | exact valO_some _ _ | exact valO_none); (case h4 => first | assumption | exact valO_some _ _ | exact valO_none); (case h9 => first | assumption | exact valO_some _ _ | exact valO_none); (case a0 => exact grown_more hw0 hc0 hc1 hz0 (delta S.w _ (by omega))))
end

section
def congested (S : Snd) (now : Int) : Snd :=
  ⟨if 2 * 1200 > (S.w * 7).fdiv 10 then 2 * 1200 else (S.w * 7).fdiv 10, some (if 2 * 1200 > (S.w * 7).fdiv 10 then 2 * 1200 else (S.w * 7).fdiv 10), some now, S.fl, 0,
    if S.w < S.tw then (S.w * (10 + 7)).fdiv (2 * 10) else S.w, S.w, none, S.mt, S.fr, S.fc⟩
local macro_rules | `(tactic| k_ne) => `(tactic| first | assumption | exact Ne.symm (by assumption) | exact Nat.ne_of_gt (by assumption) | exact Nat.ne_of_lt (by assumption))
local macro_rules | `(tactic| mul_fits) => `(tactic| first | exact PySem.IntMulOk.of_left (PySem.intBits_le_64 (by decide) (by decide)) | exact PySem.IntMulOk.of_right (PySem.intBits_le_64 (by decide) (by decide)))
local macro_rules | `(tactic| omega) => `(tactic| (k_dflt (law_clear; law_purse 20000 => lia)))
local macro_rules | `(tactic| k_all) => `(tactic| assumption)
set_option maxRecDepth 100000 in
set_option maxHeartbeats 8000000 in
theorem congest_ctr (w : World) (mean : ExcName → Option Value) (mg mb : Str → Option Value) (x d : Addr) (o : Obj) (e1 e2 : Addr × Obj) (rest : List (Addr × Obj)) (S : Snd) (sent now : Int) (t tn : Tok) (hS : IsSnd w.params o S) (hx : @Ne Nat x d) (he1 : @Ne Nat e1.1 d) (he2 : @Ne Nat e2.1 d) (hr : ∀ p ∈ rest, p.1 ≠ d) :
    Ctr w mean mg mb 196 [.ref x, .int sent t, .int now tn] (e1 :: e2 :: (x, instObj 206 d) :: (d, o) :: rest) 6 64
      (fun K => (inRec S.rv sent = true → SndK w.params x d e1 e2 rest K .none S) ∧ (inRec S.rv sent = false → SndK w.params x d e1 e2 rest K .none (congested S now))) := by
  refine snd_open (C := fun o => Ctr _ _ _ _ _ _ (e1 :: e2 :: (x, instObj 206 d) :: (d, o) :: rest) _ _ _) hS ?_
  clear hS
  intro k1 k2 k3 k4 k5 k6 k7 k8 k9 k10 k11 k12 t1 t2 t5 t6 t7 t8 t10 t11 t12 v3 v4 v9 h3 h4 h9 hS0
  unfold Ctr
  k_fill
  intro dp un gd cn cs a ccd cl outer A₀ base h₀ L m s Q E B F X N T hk hd hu hret
  refine wpAny_call ?_
  k_dflt cell_enter
  k_with_none
  k_with "call ref" => (k_here; k_dflt ((refine' ctr_use (inRec_ctr _ _ _ _ _ _ _ e1 e2 rest _ _ _ ?hS) ?k1 ?k2 ?k3 ?k4 ?k5 ?kK ?kd ?ku ?_); (case k1 => k_asm); (case k2 => k_asm); (case k3 => k_asm); (case k4 => first | k_asm | exact news_sel4 (by assumption) (by k_mem) (by k_mem) (by k_mem) (by k_mem) (by first | exact List.forall_mem_nil _ | (intro p9 h9; k_ownIn))); (case k5 => k_asm); (case kK => first | exact rfl | assumption); (case kd => first | exact room_of hd rfl | exact Nat.le_of_ble_eq_true rfl | ktr_room); (case ku => first | exact room_of hu rfl | exact Nat.le_of_ble_eq_true rfl | ktr_units); (case hS => first | assumption | ((refine' isSnd_mk ?i3 ?i4 ?i9); (case i3 => first | assumption | exact valO_some _ _ | exact valO_none); (case i4 => first | assumption | exact valO_some _ _ | exact valO_none); (case i9 => first | assumption | exact valO_some _ _ | exact valO_none))); (intro  hp9 tk9 F9 N9; (try dsimp only [sdict] at N9); (try k_sweep); (try dsimp only); (try k_fold))))
  k_with "call ref" => (k_here; k_dflt ((refine' ctr_use (least_ctr _ _ _ _ _ _ _) ?k1 ?k2 ?k3 ?k4 ?k5 ?kK ?kd ?ku ?_); (case k1 => k_asm); (case k2 => k_asm); (case k3 => k_asm); (case k4 => k_asm); (case k5 => k_asm); (case kK => first | exact rfl | assumption); (case kd => first | exact room_of hd rfl | exact Nat.le_of_ble_eq_true rfl | ktr_room); (case ku => first | exact room_of hu rfl | exact Nat.le_of_ble_eq_true rfl | ktr_units); (intro t9 hp9 tk9 F9 N9; (try k_sweep); (try dsimp only); (try k_fold))))
  k_steps
  · exact snd_ret (hret.1 (by assumption)) h3 h4 h9 (by k_asm) (by k_asm)
  · have q2 : S.w < S.tw := by assumption
    have hc := hret.2 (by assumption)
    simp only [congested, if_pos q2] at hc
    refine' snd_ret hc ?h3 ?h4 ?h9 ?F ?N; (case F => k_asm); (case N => k_asm); (case h3 => exact valO_some _ _); (case h4 => exact valO_some _ _); (case h9 => exact valO_none)
  · have q2 : ¬ S.w < S.tw := by assumption
    have hc := hret.2 (by assumption)
    simp only [congested, if_neg q2] at hc
    refine' snd_ret hc ?h3 ?h4 ?h9 ?F ?N; (case F => k_asm); (case N => k_asm); (case h3 => exact valO_some _ _); (case h4 => exact valO_some _ _); (case h9 => exact valO_none)
end

section
def AckP (b now : Int) (S S' : Snd) (size sent : Int) (lim : Bool) : Prop :=
  Inv (b + 100000) now S' ∧ S'.fl = S.fl - size ∧ S'.thr = S.thr ∧ S'.rv = S.rv ∧
    (inRec S.rv sent = true ∨ lim = false → S'.w = S.w) ∧ (inRec S.rv sent = false → lim = true → isSlow S.thr S.w = true → S'.w = S.w + size) ∧
    (inRec S.rv sent = false → lim = true → isSlow S.thr S.w = false → S.w ≤ S'.w ∧ (S'.w ≤ S.w + size.fdiv 2 + 1 ∨ S'.w = S'.fr))
theorem ack_still {b now size sent : Int} {S : Snd} {lim : Bool} {bb : Option Int} (hi : Inv b now S) (q : inRec S.rv sent = true ∨ lim = false) (e : S.beg = bb) :
    AckP b now S ⟨S.w, S.thr, S.rv, S.fl - size, S.cr, S.tw, S.pw, bb, S.mt, S.fr, S.fc⟩ size sent lim := by
  subst e
  obtain ⟨i1, i2, i3, i4, i5, i6, i7, i8, i9, i10, i11, i12, i13⟩ := hi
  refine ⟨⟨i1, ?_, i3, i4, i5, ?_, i7, ?_, i9, ?_, i11, i12, i13⟩, rfl, rfl, rfl, fun _ => rfl, fun h1 h2 => ?_, fun h1 h2 => ?_⟩
  · show S.w ≤ _; omega
  · show S.tw ≤ _; omega
  · show S.fr ≤ _; omega
  · show S.fc ≤ _; omega
  · simp [h1, h2] at q
  · simp [h1, h2] at q
theorem ack_slow {b now size sent : Int} {S : Snd} {lim : Bool} {bb : Option Int} (hi : Inv b now S) (q1 : inRec S.rv sent = false) (q2 : lim = true) (q3 : isSlow S.thr S.w = true) (e : S.beg = bb) (hz0 : 0 ≤ size) (hz1 : size ≤ 1200) :
    AckP b now S ⟨S.w + size, S.thr, S.rv, S.fl - size, S.cr, S.tw, S.pw, bb, S.mt, S.fr, S.fc⟩ size sent lim := by
  subst e
  obtain ⟨i1, i2, i3, i4, i5, i6, i7, i8, i9, i10, i11, i12, i13⟩ := hi
  refine ⟨⟨?_, ?_, i3, ?_, i5, ?_, i7, ?_, i9, ?_, i11, i12, i13⟩, rfl, rfl, rfl, fun h => ?_, fun _ _ _ => rfl, fun _ _ h3 => ?_⟩
  · show 2400 ≤ S.w + size; omega
  · show S.w + size ≤ _; omega
  · show S.cr < S.w + size; omega
  · show S.tw ≤ _; omega
  · show S.fr ≤ _; omega
  · show S.fc ≤ _; omega
  · simp [q1, q2] at h
  · rw [q3] at h3; cases h3
theorem ack_grow {b now size sent : Int} {S S1 S2 : Snd} {lim : Bool} (hi : Inv b now S) (q1 : inRec S.rv sent = false) (q2 : lim = true) (q3 : isSlow S.thr S.w = false) (hz0 : 0 ≤ size) (hz1 : size ≤ 1200)
    (hfl : S1.fl = S.fl - size) (hthr : S1.thr = S.thr) (hrv : S1.rv = S.rv) (hw : S1.w = S.w) (ht0 : 0 ≤ S1.tw) (ht1 : S1.tw ≤ b) (hm0 : 0 ≤ S1.mt) (hm1 : S1.mt ≤ 100000000) (hr0 : 0 ≤ S1.fr) (hr1 : S1.fr ≤ b + 30000) (hc0 : 0 ≤ S1.fc) (hc1 : S1.fc ≤ 17 * S.w)
    (hg : ∀ r, S1.beg = some r → 0 ≤ r ∧ r ≤ now) (c : Grown S1 S2 size) : AckP b now S S2 size sent lim := by
  obtain ⟨i1, i2, i3, i4, i5, i6, i7, i8, i9, i10, i11, i12, i13⟩ := hi
  obtain ⟨d1, d2, d3, d4, d5, d6, d7, d8, d9, d10, d11, d12, d13⟩ := c
  have hs := fdiv_two size
  refine ⟨⟨by omega, ?_, d12, d13, by omega, by omega, by omega, by omega, by omega, by omega, by omega, by omega, ?_⟩, by omega, d1.trans hthr, d2.trans hrv, fun h => ?_, fun _ _ h3 => ?_, fun _ _ _ => ⟨by omega, ?_⟩⟩
  · rcases d11 with h | h <;> omega
  · rw [d6]; exact hg
  · simp [q1, q2] at h
  · rw [q3] at h3; cases h3
  · rcases d11 with h | h
    · exact .inl (by omega)
    · exact .inr (by omega)
theorem ack_ge {b now size sent : Int} {S S' : Snd} {lim : Bool} (h : AckP b now S S' size sent lim) (hz0 : 0 ≤ size) : S.w ≤ S'.w := by
  obtain ⟨_, _, _, _, h1, h2, h3⟩ := h
  cases e1 : inRec S.rv sent
  · cases e2 : lim
    · have := h1 (.inr e2); omega
    · cases e3 : isSlow S.thr S.w
      · exact (h3 e1 e2 e3).1
      · have := h2 e1 e2 e3; omega
  · have := h1 (.inl e1); omega
local macro_rules | `(tactic| k_ne) => `(tactic| first | assumption | exact Ne.symm (by assumption) | exact Nat.ne_of_gt (by assumption) | exact Nat.ne_of_lt (by assumption))
local macro_rules | `(tactic| mul_fits) => `(tactic| first | exact PySem.IntMulOk.of_left (PySem.intBits_le_64 (by decide) (by decide)) | exact PySem.IntMulOk.of_right (PySem.intBits_le_64 (by decide) (by decide)))
local macro_rules | `(tactic| omega) => `(tactic| (k_dflt (law_clear; law_purse 20000 => lia)))
local macro_rules | `(tactic| k_all) => `(tactic| assumption)
set_option maxRecDepth 100000 in
set_option maxHeartbeats 8000000 in
theorem onAcked_ctr (w : World) (mean : ExcName → Option Value) (mg mb : Str → Option Value) (x d : Addr) (o : Obj) (e1 e2 : Addr × Obj) (rest : List (Addr × Obj)) (S : Snd) (size sent now sm : Int) (lim : Bool) (t ts tn tm : Tok) (hS : IsSnd w.params o S) (hx : @Ne Nat x d) (he1 : @Ne Nat e1.1 d) (he2 : @Ne Nat e2.1 d) (hr : ∀ p ∈ rest, p.1 ≠ d) (b : Int) (hi : Inv b now S) (hb : b ≤ 2900000) (hn0 : 0 ≤ now) (hn1 : now ≤ 10000000) (hz0 : 0 ≤ size) (hz1 : size ≤ 1200) (hm0 : 0 ≤ sm) (hm1 : sm ≤ 50000) :
    Ctr w mean mg mb 168 [.ref x, .int size t, .int sent ts, .bool lim, .int now tn, .int sm tm] (e1 :: e2 :: (x, instObj 206 d) :: (d, o) :: rest) 10 128
      (fun K => ∀ S', AckP b now S S' size sent lim → SndK w.params x d e1 e2 rest K .none S') := by
  have hi9 := hi
  obtain ⟨i1, i2, i3, i4, i5, i6, i7, i8, i9, i10, i11, i12, i13⟩ := hi
  refine snd_open (C := fun o => Ctr _ _ _ _ _ _ (e1 :: e2 :: (x, instObj 206 d) :: (d, o) :: rest) _ _ _) hS ?_
  clear hS
  intro k1 k2 k3 k4 k5 k6 k7 k8 k9 k10 k11 k12 t1 t2 t5 t6 t7 t8 t10 t11 t12 v3 v4 v9 h3 h4 h9 hS0
  unfold Ctr
  k_fill
  intro dp un gd cn cs a ccd cl outer A₀ base h₀ L m s Q E B F X N T hk hd hu hret
  refine wpAny_call ?_
  k_dflt cell_enter
  k_with_none
  k_with "call ref" => (k_here; k_dflt ((refine' ctr_use (inRec_ctr _ _ _ _ _ _ _ e1 e2 rest _ _ _ ?hS) ?k1 ?k2 ?k3 ?k4 ?k5 ?kK ?kd ?ku ?_); (case k1 => k_asm); (case k2 => k_asm); (case k3 => k_asm); (case k4 => first | k_asm | exact news_sel4 (by assumption) (by k_mem) (by k_mem) (by k_mem) (by k_mem) (by first | exact List.forall_mem_nil _ | (intro p9 h9; k_ownIn))); (case k5 => k_asm); (case kK => first | exact rfl | assumption); (case kd => first | exact room_of hd rfl | exact Nat.le_of_ble_eq_true rfl | ktr_room); (case ku => first | exact room_of hu rfl | exact Nat.le_of_ble_eq_true rfl | ktr_units); (case hS => first | assumption | ((refine' isSnd_mk ?i3 ?i4 ?i9); (case i3 => first | assumption | exact valO_some _ _ | exact valO_none); (case i4 => first | assumption | exact valO_some _ _ | exact valO_none); (case i9 => first | assumption | exact valO_some _ _ | exact valO_none))); (intro  hp9 tk9 F9 N9; (try dsimp only [sdict] at N9); (try k_sweep); (try dsimp only); (try k_fold))))
  k_with "call ref" => (k_here; k_dflt ((refine' ctr_use (isSlow_ctr _ _ _ _ _ _ _ e1 e2 rest _ ?hS) ?k1 ?k2 ?k3 ?k4 ?k5 ?kK ?kd ?ku ?_); (case k1 => k_asm); (case k2 => k_asm); (case k3 => k_asm); (case k4 => first | k_asm | exact news_sel4 (by assumption) (by k_mem) (by k_mem) (by k_mem) (by k_mem) (by first | exact List.forall_mem_nil _ | (intro p9 h9; k_ownIn))); (case k5 => k_asm); (case kK => first | exact rfl | assumption); (case kd => first | exact room_of hd rfl | exact Nat.le_of_ble_eq_true rfl | ktr_room); (case ku => first | exact room_of hu rfl | exact Nat.le_of_ble_eq_true rfl | ktr_units); (case hS => first | assumption | ((refine' isSnd_mk ?i3 ?i4 ?i9); (case i3 => first | assumption | exact valO_some _ _ | exact valO_none); (case i4 => first | assumption | exact valO_some _ _ | exact valO_none); (case i9 => first | assumption | exact valO_some _ _ | exact valO_none))); (intro  hp9 tk9 F9 N9; (try dsimp only [sdict] at N9); (try k_sweep); (try dsimp only); (try k_fold))))
  k_with "call ref" => (k_here; k_dflt ((refine' ctr_use (begin_ctr _ _ _ _ _ _ _ e1 e2 rest _ _ _ ?hS ?hx ?he1 ?he2 ?hr ?hb) ?k1 ?k2 ?k3 ?k4 ?k5 ?kK ?kd ?ku ?_); (case k1 => k_asm); (case k2 => k_asm); (case k3 => k_asm); (case k4 => first | k_asm | exact news_sel4 (by assumption) (by k_mem) (by k_mem) (by k_mem) (by k_mem) (by first | exact List.forall_mem_nil _ | (intro p9 h9; k_ownIn))); (case k5 => k_asm); (case kK => first | exact rfl | assumption); (case kd => first | exact room_of hd rfl | exact Nat.le_of_ble_eq_true rfl | ktr_room); (case ku => first | exact room_of hu rfl | exact Nat.le_of_ble_eq_true rfl | ktr_units); (case hS => first | assumption | ((refine' isSnd_mk ?i3 ?i4 ?i9); (case i3 => first | assumption | exact valO_some _ _ | exact valO_none); (case i4 => first | assumption | exact valO_some _ _ | exact valO_none); (case i9 => first | assumption | exact valO_some _ _ | exact valO_none))); (case hx => assumption); (case he1 => assumption); (case he2 => assumption); (case hr => assumption); (case hb => (try dsimp only); first | assumption | omega); (intro S9 b1 b2 b3 b4 b5 b6 b8 b9 b10 b11 p1 p2 p3 p4 p5 p6 p7 p8 p9 p10 p11 p12 q1 q2 q5 q6 q7 q8 q10 q11 q12 u3 u4 u9 g3 g4 g9 hS8 hp9 tk9 F9 N9; (try dsimp only at b1 b2 b3 b4 b5 b6 b8 b9 b10 b11); (obtain ⟨tb9, rfl⟩ := valO_int g9 b8); (have b12 := b9.1); (have b13 := b9.2.1); (try dsimp only [sdict] at N9); (try k_sweep); (try dsimp only); (try k_fold))))
  k_with "call ref" => (k_here; k_dflt ((refine' ctr_use (friendly_ctr _ _ _ _ _ _ _ e1 e2 rest _ _ _ ?hS ?hx ?he1 ?he2 ?hr ?h1 ?h2 ?h3 ?h4 ?h5 ?h6) ?k1 ?k2 ?k3 ?k4 ?k5 ?kK ?kd ?ku ?_); (case k1 => k_asm); (case k2 => k_asm); (case k3 => k_asm); (case k4 => first | k_asm | exact news_sel4 (by assumption) (by k_mem) (by k_mem) (by k_mem) (by k_mem) (by first | exact List.forall_mem_nil _ | (intro p9 h9; k_ownIn))); (case k5 => k_asm); (case kK => first | exact rfl | assumption); (case kd => first | exact room_of hd rfl | exact Nat.le_of_ble_eq_true rfl | ktr_room); (case ku => first | exact room_of hu rfl | exact Nat.le_of_ble_eq_true rfl | ktr_units); (case hS => first | assumption | ((refine' isSnd_mk ?i3 ?i4 ?i9); (case i3 => first | assumption | exact valO_some _ _ | exact valO_none); (case i4 => first | assumption | exact valO_some _ _ | exact valO_none); (case i9 => first | assumption | exact valO_some _ _ | exact valO_none))); (case hx => assumption); (case he1 => assumption); (case he2 => assumption); (case hr => assumption); (case h1 => (try dsimp only); first | assumption | omega); (case h2 => (try dsimp only); first | assumption | omega); (case h3 => (try dsimp only); first | assumption | omega); (case h4 => (try dsimp only); first | assumption | omega); (case h5 => (try dsimp only); first | assumption | omega); (case h6 => (try dsimp only); first | assumption | omega); (intro S9 f1 f2 f3 f4 f5 f6 f8 f9 f10 f11 f12 f13 p1 p2 p3 p4 p5 p6 p7 p8 p9 p10 p11 p12 q1 q2 q5 q6 q7 q8 q10 q11 q12 u3 u4 u9 g3 g4 g9 hS8 hp9 tk9 F9 N9; (try dsimp only at f1 f2 f3 f4 f5 f6 f8 f9 f10 f11 f12 f13); (first | (obtain ⟨tb9, rfl⟩ := valO_int g9 f8) | (obtain ⟨tb9, rfl⟩ := valO_int g9 (f8.trans (by assumption)))); (try dsimp only [sdict] at N9); (try k_sweep); (try dsimp only); (try k_fold))))
  k_with "call ref" => (k_here; k_dflt ((refine' ctr_use (gcubic_ctr _ _ _ _ _ _ _ e1 e2 rest _ _ _ _ _ _ _ ?hS ?hx ?he1 ?he2 ?hr ?h1 ?h2 ?h3 ?h4 ?h5 ?h6 ?h7 ?h8 ?h9 ?h10 ?h11 ?h12) ?k1 ?k2 ?k3 ?k4 ?k5 ?kK ?kd ?ku ?_); (case k1 => k_asm); (case k2 => k_asm); (case k3 => k_asm); (case k4 => first | k_asm | exact news_sel4 (by assumption) (by k_mem) (by k_mem) (by k_mem) (by k_mem) (by first | exact List.forall_mem_nil _ | (intro p9 h9; k_ownIn))); (case k5 => k_asm); (case kK => first | exact rfl | assumption); (case kd => first | exact room_of hd rfl | exact Nat.le_of_ble_eq_true rfl | ktr_room); (case ku => first | exact room_of hu rfl | exact Nat.le_of_ble_eq_true rfl | ktr_units); (case hS => first | assumption | ((refine' isSnd_mk ?i3 ?i4 ?i9); (case i3 => first | assumption | exact valO_some _ _ | exact valO_none); (case i4 => first | assumption | exact valO_some _ _ | exact valO_none); (case i9 => first | assumption | exact valO_some _ _ | exact valO_none))); (case hx => assumption); (case he1 => assumption); (case he2 => assumption); (case hr => assumption); (case h1 => (try dsimp only); first | assumption | omega); (case h2 => (try dsimp only); first | assumption | omega); (case h3 => (try dsimp only); first | assumption | omega); (case h4 => (try dsimp only); first | assumption | omega); (case h5 => (try dsimp only); first | assumption | omega); (case h6 => (try dsimp only); first | assumption | omega); (case h7 => (try dsimp only); first | assumption | omega); (case h8 => (try dsimp only); first | assumption | omega); (case h9 => (try dsimp only); first | assumption | omega); (case h10 => (try dsimp only); first | assumption | omega); (case h11 => (try dsimp only); first | assumption | omega); (case h12 => (try dsimp only); first | assumption | omega); (intro S9 c1 p1 p2 p3 p4 p5 p6 p7 p8 p9 p10 p11 p12 q1 q2 q5 q6 q7 q8 q10 q11 q12 u3 u4 u9 g3 g4 g9 hS8 hp9 tk9 F9 N9; (try dsimp only [sdict] at N9); (try k_sweep); (try dsimp only); (try k_fold))))
  k_steps
  · (refine' snd_ret (hret _ ?a0) ?h3 ?h4 ?h9 ?F ?N; (case F => k_asm); (case N => first | k_asm | exact news_sel4 (by k_asm) (by k_mem) (by k_mem) (by k_mem) (by k_mem) (by first | exact List.forall_mem_nil _ | (intro p9 h9; k_ownIn))); (case h3 => first | assumption | exact valO_some _ _ | exact valO_none); (case h4 => first | assumption | exact valO_some _ _ | exact valO_none); (case h9 => first | assumption | exact valO_some _ _ | exact valO_none); (case a0 => exact ack_still hi9 (.inl (by assumption)) rfl))
  · (refine' snd_ret (hret _ ?a0) ?h3 ?h4 ?h9 ?F ?N; (case F => k_asm); (case N => first | k_asm | exact news_sel4 (by k_asm) (by k_mem) (by k_mem) (by k_mem) (by k_mem) (by first | exact List.forall_mem_nil _ | (intro p9 h9; k_ownIn))); (case h3 => first | assumption | exact valO_some _ _ | exact valO_none); (case h4 => first | assumption | exact valO_some _ _ | exact valO_none); (case h9 => first | assumption | exact valO_some _ _ | exact valO_none); (case a0 => exact ack_slow hi9 (by assumption) (by assumption) (by assumption) rfl hz0 hz1))
  · obtain ⟨rfl, e⟩ | ⟨bg, tb, rfl, e⟩ := h9
    · k_steps
      exact hret _ (ack_grow hi9 (by assumption) (by assumption) (by assumption) hz0 hz1 (f4.trans b4) (f2.trans b2) (f3.trans b3) (f1.trans b1) (by rw [f6, b6]; split <;> omega) (by rw [f6, b6]; split <;> omega) (by omega) (by omega) (by omega) (by omega) f12 (by omega)
        (fun r hr9 => by rw [f8, b8] at hr9; cases hr9; exact ⟨hn0, Int.le_refl _⟩) c1) _ _ _ _ _ _ _ _ _ _ _ _ _ _ _ _ _ _ _ _ _ _ _ _ g3 g4 g9 hS8 _ _ (by k_asm) (by k_asm)
    · have ebg := i13 _ e
      k_steps
      exact hret _ (ack_grow hi9 (by assumption) (by assumption) (by assumption) hz0 hz1 f4 f2 f3 f1 (by omega) (by omega) (by omega) (by omega) (by omega) (by omega) f12 f13
        (fun r hr9 => by rw [f8] at hr9; cases hr9; exact ebg) c1) _ _ _ _ _ _ _ _ _ _ _ _ _ _ _ _ _ _ _ _ _ _ _ _ g3 g4 g9 hS8 _ _ (by k_asm) (by k_asm)
  · (refine' snd_ret (hret _ ?a0) ?h3 ?h4 ?h9 ?F ?N; (case F => k_asm); (case N => first | k_asm | exact news_sel4 (by k_asm) (by k_mem) (by k_mem) (by k_mem) (by k_mem) (by first | exact List.forall_mem_nil _ | (intro p9 h9; k_ownIn))); (case h3 => first | assumption | exact valO_some _ _ | exact valO_none); (case h4 => first | assumption | exact valO_some _ _ | exact valO_none); (case h9 => first | assumption | exact valO_some _ _ | exact valO_none); (case a0 => exact ack_still hi9 (.inr (by assumption)) rfl))
end

section
theorem still_of {a lim : Bool} (h : (a || !lim) = true) : a = true ∨ lim = false := by cases a <;> cases lim <;> simp_all
theorem still_not {a lim : Bool} (h : (a || !lim) = false) : a = false ∧ lim = true := by cases a <;> cases lim <;> simp_all
local macro_rules | `(tactic| k_ne) => `(tactic| first | assumption | exact Ne.symm (by assumption) | exact Nat.ne_of_gt (by assumption) | exact Nat.ne_of_lt (by assumption))
local macro_rules | `(tactic| mul_fits) => `(tactic| first | exact PySem.IntMulOk.of_left (PySem.intBits_le_64 (by decide) (by decide)) | exact PySem.IntMulOk.of_right (PySem.intBits_le_64 (by decide) (by decide)))
local macro_rules | `(tactic| omega) => `(tactic| (k_dflt (law_clear; law_purse 20000 => lia)))
local macro_rules | `(tactic| k_all) => `(tactic| assumption)
theorem lacked_end {P : Params} {x d : Addr} {e1 e2 : Addr × Obj} {rest : List (Addr × Obj)} {h₀ : Heap} {L : Addr} {m : Str → Option Value} {s : Shared} {Q : Value → Shared → Prop} {h' : Heap} {tk' : Nat} {S' : Snd} {b now : Int} {v : Bool}
    {k1 k2 k3 k4 k5 k6 k7 k8 k9 k10 k11 k12 t1 t2 t5 t6 t7 t8 t10 t11 t12 : Tok} {v3 v4 v9 : Value}
    (hret : ∀ S', Inv b now S' → SndK P x d e1 e2 rest (Back h₀ L m s Q) (.bool true) S') (hi : Inv b now S') (h3 : ValO v3 S'.thr) (h4 : ValO v4 S'.rv) (h9 : ValO v9 S'.beg)
    (hS : IsSnd P (sdict P k1 k2 k3 k4 k5 k6 k7 k8 k9 k10 k11 k12 (.int 1200 t1) (.int S'.w t2) v3 v4 (.int S'.fl t5) (.int S'.cr t6) (.int S'.tw t7) (.int S'.pw t8) v9 (.int S'.mt t10) (.int S'.fr t11) (.int S'.fc t12)) S')
    (F : Fr h₀ L h' m)
    (N : News h₀ L h' (e1 :: e2 :: (x, instObj 206 d) :: (d, sdict P k1 k2 k3 k4 k5 k6 k7 k8 k9 k10 k11 k12 (.int 1200 t1) (.int S'.w t2) v3 v4 (.int S'.fl t5) (.int S'.cr t6) (.int S'.tw t7) (.int S'.pw t8) v9 (.int S'.mt t10) (.int S'.fr t11) (.int S'.fc t12)) :: rest))
    (hv : v = true) : Q (.bool v) { s with heap := h', toks := tk' } := by
  subst hv
  exact hret S' hi k1 k2 k3 k4 k5 k6 k7 k8 k9 k10 k11 k12 t1 t2 t5 t6 t7 t8 t10 t11 t12 v3 v4 v9 h3 h4 h9 hS h' tk' F N
set_option maxRecDepth 100000 in
set_option maxHeartbeats 8000000 in
theorem lawAcked_ctr (w : World) (mean : ExcName → Option Value) (mg mb : Str → Option Value) (x d : Addr) (o : Obj) (e1 e2 : Addr × Obj) (rest : List (Addr × Obj)) (S : Snd) (size sent now sm : Int) (lim : Bool) (t ts tn tm : Tok) (hS : IsSnd w.params o S) (hx : @Ne Nat x d) (he1 : @Ne Nat e1.1 d) (he2 : @Ne Nat e2.1 d) (hr : ∀ p ∈ rest, p.1 ≠ d) (b : Int) (hi : Inv b now S) (hb : b ≤ 2900000) (hn0 : 0 ≤ now) (hn1 : now ≤ 10000000) (hz0 : 0 ≤ size) (hz1 : size ≤ 1200) (hm0 : 0 ≤ sm) (hm1 : sm ≤ 50000) :
    Ctr w mean mg mb 236 [.ref x, .int size t, .int sent ts, .bool lim, .int now tn, .int sm tm] (e1 :: e2 :: (x, instObj 206 d) :: (d, o) :: rest) 14 192
      (fun K => ∀ S', Inv (b + 100000) now S' → SndK w.params x d e1 e2 rest K (.bool true) S') := by
  refine snd_open (C := fun o => Ctr _ _ _ _ _ _ (e1 :: e2 :: (x, instObj 206 d) :: (d, o) :: rest) _ _ _) hS ?_
  clear hS
  intro k1 k2 k3 k4 k5 k6 k7 k8 k9 k10 k11 k12 t1 t2 t5 t6 t7 t8 t10 t11 t12 v3 v4 v9 h3 h4 h9 hS0
  unfold Ctr
  k_fill
  intro dp un gd cn cs a ccd cl outer A₀ base h₀ L m s Q E B F X N T hk hd hu hret
  refine wpAny_call ?_
  k_dflt cell_enter
  k_with_none
  k_with "eval BoolOp" => (refine stop_here ?_)
  k_steps
  unfold Stop
  refine' merge_test (.bool (inRec S.rv sent || !lim)) ?t1 (fun tk0 => ?_)
  (case t1 =>
    k_with_none
    obtain ⟨rfl, ev⟩ | ⟨i4, t4, rfl, ev⟩ := h4
    · k_steps
      all_goals (refine' same_of (congrArg Value.bool (?_ : (_ : Bool) = _)); rw [ev]; rfl)
    · k_steps
      all_goals (refine' same_of (congrArg Value.bool (?_ : (_ : Bool) = _)); rw [ev]; show _ = (decide (sent ≤ i4) || !lim); first
        | (rw [decide_eq_true (show sent ≤ i4 by assumption)]; rfl)
        | (rw [decide_eq_false (show ¬ sent ≤ i4 by assumption)]; rfl)))
  k_with "eval BoolOp" => (refine stop_here ?_)
  k_steps
  unfold Stop
  refine' merge_test (.bool (isSlow S.thr S.w)) ?t2 (fun tk00 => ?_)
  (case t2 =>
    k_with_none
    obtain ⟨rfl, ev⟩ | ⟨i3, t3, rfl, ev⟩ := h3
    · k_steps
      all_goals (refine' same_of (congrArg Value.bool (?_ : (_ : Bool) = _)); rw [ev]; rfl)
    · k_steps
      all_goals (refine' same_of (congrArg Value.bool (?_ : (_ : Bool) = _)); rw [ev]; rfl))
  k_with_none
  k_with "call ref" => (k_here; k_dflt ((refine' ctr_use (onAcked_ctr _ _ _ _ _ _ _ e1 e2 rest _ _ _ _ _ _ _ _ _ _ ?hS ?hx ?he1 ?he2 ?hr _ ?h1 ?h2 ?h3 ?h4 ?h5 ?h6 ?h7 ?h8) ?k1 ?k2 ?k3 ?k4 ?k5 ?kK ?kd ?ku ?_); (case k1 => k_asm); (case k2 => k_asm); (case k3 => k_asm); (case k4 => first | k_asm | exact news_sel4 (by assumption) (by k_mem) (by k_mem) (by k_mem) (by k_mem) (by first | exact List.forall_mem_nil _ | (intro p9 h9; k_ownIn))); (case k5 => k_asm); (case kK => first | exact rfl | assumption); (case kd => first | exact room_of hd rfl | exact Nat.le_of_ble_eq_true rfl | ktr_room); (case ku => first | exact room_of hu rfl | exact Nat.le_of_ble_eq_true rfl | ktr_units); (case hS => first | assumption | ((refine' isSnd_mk ?i3 ?i4 ?i9); (case i3 => first | assumption | exact valO_some _ _ | exact valO_none); (case i4 => first | assumption | exact valO_some _ _ | exact valO_none); (case i9 => first | assumption | exact valO_some _ _ | exact valO_none))); (case hx => assumption); (case he1 => assumption); (case he2 => assumption); (case hr => assumption); (case h1 => (try dsimp only); first | assumption | omega); (case h2 => (try dsimp only); first | assumption | omega); (case h3 => (try dsimp only); first | assumption | omega); (case h4 => (try dsimp only); first | assumption | omega); (case h5 => (try dsimp only); first | assumption | omega); (case h6 => (try dsimp only); first | assumption | omega); (case h7 => (try dsimp only); first | assumption | omega); (case h8 => (try dsimp only); first | assumption | omega); (intro S9 ha p1 p2 p3 p4 p5 p6 p7 p8 p9 p10 p11 p12 q1 q2 q5 q6 q7 q8 q10 q11 q12 u3 u4 u9 g3 g4 g9 hS8 hp9 tk9 F9 N9; (have hge := ack_ge ha (by assumption)); (obtain ⟨ai, a1, a2, a3, a4, a5, a6⟩ := ha); (try dsimp only [sdict] at N9); (try k_sweep); (try dsimp only); (try k_fold))))
  k_steps
  all_goals first
    | exact lacked_end hret ai g3 g4 g9 hS8 (by k_asm) (by first | k_asm | exact news_sel4 (by k_asm) (by k_mem) (by k_mem) (by k_mem) (by k_mem) (by first | exact List.forall_mem_nil _ | (intro p9 h9; k_ownIn))) (beq_iff_eq.mpr (a4 (still_of (by assumption))))
    | exact lacked_end hret ai g3 g4 g9 hS8 (by k_asm) (by first | k_asm | exact news_sel4 (by k_asm) (by k_mem) (by k_mem) (by k_mem) (by k_mem) (by first | exact List.forall_mem_nil _ | (intro p9 h9; k_ownIn))) (beq_iff_eq.mpr (a5 (still_not (by assumption)).1 (still_not (by assumption)).2 (by assumption)))
    | exact lacked_end hret ai g3 g4 g9 hS8 (by k_asm) (by first | k_asm | exact news_sel4 (by k_asm) (by k_mem) (by k_mem) (by k_mem) (by k_mem) (by first | exact List.forall_mem_nil _ | (intro p9 h9; k_ownIn))) (decide_eq_true (by assumption))
    | exact lacked_end hret ai g3 g4 g9 hS8 (by k_asm) (by first | k_asm | exact news_sel4 (by k_asm) (by k_mem) (by k_mem) (by k_mem) (by k_mem) (by first | exact List.forall_mem_nil _ | (intro p9 h9; k_ownIn))) (beq_iff_eq.mpr ((a6 (still_not (by assumption)).1 (still_not (by assumption)).2 (by assumption)).2.resolve_left (by assumption)))
    | exact absurd a1 (by assumption)
end

section
theorem inv_mono {b now : Int} {S : Snd} (h : Inv b now S) : Inv (b + 100000) now S := by
  obtain ⟨i1, i2, i3, i4, i5, i6, i7, i8, i9, i10, i11, i12, i13⟩ := h
  exact ⟨i1, by omega, i3, i4, i5, by omega, i7, by omega, i9, by omega, i11, i12, i13⟩
theorem inv_cong {b now : Int} {S : Snd} (h : Inv b now S) : Inv (b + 100000) now (congested S now) := by
  obtain ⟨i1, i2, i3, i4, i5, i6, i7, i8, i9, i10, i11, i12, i13⟩ := h
  have h1 := fdiv_of (n := S.w * 7) (m := 10) (by omega)
  have h2 := fdiv_of (n := S.w * (10 + 7)) (m := 2 * 10) (by omega)
  refine ⟨?_, ?_, by show (0 : Int) ≤ 0; omega, ?_, ?_, ?_, i7, by show S.fr ≤ _; omega, i9, by show S.fc ≤ _; omega, i11, i12, fun r hr => by cases hr⟩ <;> simp only [congested] <;> split <;> omega
local macro_rules | `(tactic| k_ne) => `(tactic| first | assumption | exact Ne.symm (by assumption) | exact Nat.ne_of_gt (by assumption) | exact Nat.ne_of_lt (by assumption))
local macro_rules | `(tactic| mul_fits) => `(tactic| first | exact PySem.IntMulOk.of_left (PySem.intBits_le_64 (by decide) (by decide)) | exact PySem.IntMulOk.of_right (PySem.intBits_le_64 (by decide) (by decide)))
local macro_rules | `(tactic| omega) => `(tactic| (k_dflt (law_clear; law_purse 20000 => lia)))
local macro_rules | `(tactic| k_all) => `(tactic| assumption)
local macro_rules | `(tactic| k_handed) => `(tactic| exact valO_handed (by assumption))
set_option maxRecDepth 100000 in
set_option maxHeartbeats 8000000 in
theorem lawCong_ctr (w : World) (mean : ExcName → Option Value) (mg mb : Str → Option Value) (x d : Addr) (o : Obj) (e1 e2 : Addr × Obj) (rest : List (Addr × Obj)) (S : Snd) (sent now : Int) (t tn : Tok) (hS : IsSnd w.params o S) (hx : @Ne Nat x d) (he1 : @Ne Nat e1.1 d) (he2 : @Ne Nat e2.1 d) (hr : ∀ p ∈ rest, p.1 ≠ d) (b : Int) (hi : Inv b now S) (hb : b ≤ 2900000) (hn0 : 0 ≤ now) (hn1 : now ≤ 10000000) :
    Ctr w mean mg mb 243 [.ref x, .int sent t, .int now tn] (e1 :: e2 :: (x, instObj 206 d) :: (d, o) :: rest) 10 128
      (fun K => ∀ S', Inv (b + 100000) now S' → SndK w.params x d e1 e2 rest K (.bool true) S') := by
  refine snd_open (C := fun o => Ctr _ _ _ _ _ _ (e1 :: e2 :: (x, instObj 206 d) :: (d, o) :: rest) _ _ _) hS ?_
  clear hS
  intro k1 k2 k3 k4 k5 k6 k7 k8 k9 k10 k11 k12 t1 t2 t5 t6 t7 t8 t10 t11 t12 v3 v4 v9 h3 h4 h9 hS0
  unfold Ctr
  k_fill
  intro dp un gd cn cs a ccd cl outer A₀ base h₀ L m s Q E B F X N T hk hd hu hret
  refine wpAny_call ?_
  k_dflt cell_enter
  k_with_none
  k_with "call ref" => (k_here; k_dflt ((refine' ctr_use (congest_ctr _ _ _ _ _ _ _ e1 e2 rest _ _ _ _ _ ?hS ?hx ?he1 ?he2 ?hr) ?k1 ?k2 ?k3 ?k4 ?k5 ?kK ?kd ?ku ?_); (case k1 => k_asm); (case k2 => k_asm); (case k3 => k_asm); (case k4 => first | k_asm | exact news_sel4 (by assumption) (by k_mem) (by k_mem) (by k_mem) (by k_mem) (by first | exact List.forall_mem_nil _ | (intro p9 h9; k_ownIn))); (case k5 => k_asm); (case kK => first | exact rfl | assumption); (case kd => first | exact room_of hd rfl | exact Nat.le_of_ble_eq_true rfl | ktr_room); (case ku => first | exact room_of hu rfl | exact Nat.le_of_ble_eq_true rfl | ktr_units); (case hS => first | assumption | ((refine' isSnd_mk ?i3 ?i4 ?i9); (case i3 => first | assumption | exact valO_some _ _ | exact valO_none); (case i4 => first | assumption | exact valO_some _ _ | exact valO_none); (case i9 => first | assumption | exact valO_some _ _ | exact valO_none))); (case hx => assumption); (case he1 => assumption); (case he2 => assumption); (case hr => assumption); (refine' ⟨fun hq => ?_, fun hq => ?_⟩; all_goals (intro p1 p2 p3 p4 p5 p6 p7 p8 p9 p10 p11 p12 q1 q2 q5 q6 q7 q8 q10 q11 q12 u3 u4 u9 g3 g4 g9 hS8 hp9 tk9 F9 N9; (first | (obtain ⟨tu3, rfl⟩ := valO_int g3 rfl; obtain ⟨tu4, rfl⟩ := valO_int g4 rfl) | skip); (try dsimp only [sdict, congested] at N9); (try k_sweep); (try dsimp only); (try k_fold)))))
  k_with "isTrue BoolOp" => (refine stop_here ?_)
  k_steps
  · unfold Stop
    k_with_none
    obtain ⟨rfl, ev⟩ | ⟨i4, t4, rfl, ev⟩ := h4
    · rw [ev] at hq; cases hq
    · obtain ⟨tu4, rfl⟩ := valO_int g4 ev
      have hq2 : sent ≤ i4 := by rw [ev] at hq; exact of_decide_eq_true hq
      k_steps
      exact lacked_end hret (inv_mono hi) g3 g4 g9 hS8 (by k_asm) (by first | k_asm | exact news_sel4 (by k_asm) (by k_mem) (by k_mem) (by k_mem) (by k_mem) (by first | exact List.forall_mem_nil _ | (intro p9 h9; k_ownIn))) rfl
  · unfold Stop
    refine' merge_test false ?t1 (fun tk0 => ?_)
    (case t1 =>
      k_with_none
      obtain ⟨rfl, ev⟩ | ⟨i4, t4, rfl, ev⟩ := h4
      · k_steps
        exact same_of rfl
      · have hq2 : ¬ sent ≤ i4 := by rw [ev] at hq; exact of_decide_eq_false hq
        k_steps
        exact same_of rfl)
    k_steps
    · exact lacked_end hret (inv_cong hi) g3 g4 g9 hS8 (by k_asm) (by first | k_asm | exact news_sel4 (by k_asm) (by k_mem) (by k_mem) (by k_mem) (by k_mem) (by first | exact List.forall_mem_nil _ | (intro p9 h9; k_ownIn))) (by rw [if_pos (by assumption)]; exact beq_self_eq_true _)
    · exact lacked_end hret (inv_cong hi) g3 g4 g9 hS8 (by k_asm) (by first | k_asm | exact news_sel4 (by k_asm) (by k_mem) (by k_mem) (by k_mem) (by k_mem) (by first | exact List.forall_mem_nil _ | (intro p9 h9; k_ownIn))) (by rw [if_neg (by assumption)]; exact beq_self_eq_true _)
end

section
def persisted (S : Snd) : Snd := ⟨2 * 1200, S.thr, none, S.fl, 0, S.tw, S.pw, none, S.mt, S.fr, S.fc⟩
theorem inv_persist {b now : Int} {S : Snd} (h : Inv b now S) : Inv (b + 100000) now (persisted S) := by
  obtain ⟨i1, i2, i3, i4, i5, i6, i7, i8, i9, i10, i11, i12, i13⟩ := h
  exact ⟨by show (2400 : Int) ≤ 2 * 1200; omega, by show (2 * 1200 : Int) ≤ _; omega, by show (0 : Int) ≤ 0; omega, by show (0 : Int) < 2 * 1200; omega, i5, by show S.tw ≤ _; omega, i7, by show S.fr ≤ _; omega, i9, by show S.fc ≤ _; omega, i11, i12, fun r hr => by cases hr⟩
local macro_rules | `(tactic| k_ne) => `(tactic| first | assumption | exact Ne.symm (by assumption) | exact Nat.ne_of_gt (by assumption) | exact Nat.ne_of_lt (by assumption))
local macro_rules | `(tactic| mul_fits) => `(tactic| first | exact PySem.IntMulOk.of_left (PySem.intBits_le_64 (by decide) (by decide)) | exact PySem.IntMulOk.of_right (PySem.intBits_le_64 (by decide) (by decide)))
local macro_rules | `(tactic| omega) => `(tactic| (k_dflt (law_clear; law_purse 20000 => lia)))
local macro_rules | `(tactic| k_all) => `(tactic| assumption)
set_option maxRecDepth 100000 in
set_option maxHeartbeats 8000000 in
theorem persist_ctr (w : World) (mean : ExcName → Option Value) (mg mb : Str → Option Value) (x d : Addr) (o : Obj) (e1 e2 : Addr × Obj) (rest : List (Addr × Obj)) (S : Snd) (hS : IsSnd w.params o S) (hx : @Ne Nat x d) (he1 : @Ne Nat e1.1 d) (he2 : @Ne Nat e2.1 d) (hr : ∀ p ∈ rest, p.1 ≠ d) :
    Ctr w mean mg mb 203 [.ref x] (e1 :: e2 :: (x, instObj 206 d) :: (d, o) :: rest) 4 32
      (fun K => SndK w.params x d e1 e2 rest K .none (persisted S)) := by
  refine snd_open (C := fun o => Ctr _ _ _ _ _ _ (e1 :: e2 :: (x, instObj 206 d) :: (d, o) :: rest) _ _ _) hS ?_
  clear hS
  intro k1 k2 k3 k4 k5 k6 k7 k8 k9 k10 k11 k12 t1 t2 t5 t6 t7 t8 t10 t11 t12 v3 v4 v9 h3 h4 h9 hS0
  unfold Ctr
  k_fill
  intro dp un gd cn cs a ccd cl outer A₀ base h₀ L m s Q E B F X N T hk hd hu hret
  refine wpAny_call ?_
  k_dflt cell_enter
  k_with_none
  k_with "call ref" => (k_here; k_dflt ((refine' ctr_use (least_ctr _ _ _ _ _ _ _) ?k1 ?k2 ?k3 ?k4 ?k5 ?kK ?kd ?ku ?_); (case k1 => k_asm); (case k2 => k_asm); (case k3 => k_asm); (case k4 => k_asm); (case k5 => k_asm); (case kK => first | exact rfl | assumption); (case kd => first | exact room_of hd rfl | exact Nat.le_of_ble_eq_true rfl | ktr_room); (case ku => first | exact room_of hu rfl | exact Nat.le_of_ble_eq_true rfl | ktr_units); (intro t9 hp9 tk9 F9 N9; (try k_sweep); (try dsimp only); (try k_fold))))
  k_steps
  (refine' snd_ret (hret) ?h3 ?h4 ?h9 ?F ?N; (case F => k_asm); (case N => first | k_asm | exact news_sel4 (by k_asm) (by k_mem) (by k_mem) (by k_mem) (by k_mem) (by first | exact List.forall_mem_nil _ | (intro p9 h9; k_ownIn))); (case h3 => first | assumption | exact valO_some _ _ | exact valO_none); (case h4 => first | assumption | exact valO_some _ _ | exact valO_none); (case h9 => first | assumption | exact valO_some _ _ | exact valO_none))
end

section
/-- the law's body, its scope, the turn's statements: read off the given term -/
def lawBody : List Stmt := match PySem.Challenge.pw_no0074_01.main.body.getLast? with
  | some (.FunctionDef _ _ body _ _ _ _ _ _ _) => body
  | _ => []
def lawScope : Scope := match PySem.Challenge.pw_no0074_01.main.body.getLast? with
  | some (.FunctionDef _ _ _ _ _ _ scope _ _ _) => scope
  | _ => PySem.Challenge.pw_no0074_01.main.scope
def lawTurn : List Stmt := match lawBody.drop 7 with
  | .For _ _ body _ _ :: _ => body
  | _ => []
def JJ (P : Params) (b l x d : Addr) (cb : Nat) (i : Nat) (m : Str → Option Value) (nx : List (Addr × Obj)) : Prop :=
  m (Str.ofString "box") = some (.ref b) ∧ m (Str.ofString "sender") = some (.ref x) ∧ ∃ (nw : Int) (tn : Tok) (sd : Int) (ts : Tok) (vs : List Value) (ns : List Int) (nl : Nat) (o : Obj) (S : Snd),
    m (Str.ofString "now") = some (.int nw tn) ∧ nx = [(b, listOf #[.ref l, .int sd ts] cb), (l, listOf vs.toArray nl), (x, instObj 206 d), (d, o)] ∧ IntsAre vs ns ∧ ns.length ≤ 24 ∧ 0 ≤ sd ∧ sd < 2147483647 ∧
    IsSnd P o S ∧ Inv (1000000 + 100000 * (i : Int)) nw S ∧ 0 ≤ nw ∧ nw ≤ 1000 + 400000 * (i : Int)
theorem inv_now {b now now' : Int} {S : Snd} (h : Inv b now S) (hn : now ≤ now') : Inv b now' S := by
  obtain ⟨i1, i2, i3, i4, i5, i6, i7, i8, i9, i10, i11, i12, i13⟩ := h
  exact ⟨i1, i2, i3, i4, i5, i6, i7, i8, i9, i10, i11, i12, fun r hr => ⟨(i13 r hr).1, by have := (i13 r hr).2; omega⟩⟩
theorem inv_next {now : Int} {i : Nat} {S : Snd} (h : Inv (1000000 + 100000 * (i : Int) + 100000) now S) : Inv (1000000 + 100000 * ((i + 1 : Nat) : Int)) now S := by
  have e : 1000000 + 100000 * ((i + 1 : Nat) : Int) = 1000000 + 100000 * (i : Int) + 100000 := by omega
  rw [e]
  exact h
theorem frame_form {m : Str → Option Value} {v : Value} {b x : Addr} {nw : Int} {tn : Tok} (h1 : m (Str.ofString "box") = some (.ref b)) (h2 : m (Str.ofString "sender") = some (.ref x)) (h3 : m (Str.ofString "now") = some (.int nw tn)) :
    (fun y => if y = Str.ofString "turn" then some v else m y) = fun y => if y = Str.ofString "turn" then some v else if y = Str.ofString "box" then some (.ref b) else if y = Str.ofString "sender" then some (.ref x) else if y = Str.ofString "now" then some (.int nw tn) else m y := by
  funext y
  by_cases e1 : y = Str.ofString "box"
  · subst e1; simp [h1]
  · by_cases e2 : y = Str.ofString "sender"
    · subst e2; simp [h2, e1]
    · by_cases e3 : y = Str.ofString "now"
      · subst e3; simp [h3, e1, e2]
      · simp [e1, e2, e3]
theorem turn_end {P : Params} {h₀ : Heap} {L b l x d : Addr} {cb : Nat} {i : Nat} {own news' : List (Addr × Obj)} {s : Shared} {Q : Flow → Shared → Prop} {h' : Heap} {tk' : Nat} {m' : Str → Option Value} {nw : Int} {tn : Tok} {sd : Int} {ts : Tok} {vs : List Value} {ns : List Int} {nl : Nat} {o : Obj} {S : Snd}
    (F : Fr h₀ L h' m') (N : News h₀ L h' news') (hb : (b, listOf #[.ref l, .int sd ts] cb) ∈ news') (hl : (l, listOf vs.toArray nl) ∈ news') (hx : (x, instObj 206 d) ∈ news') (hd : (d, o) ∈ news') (ho : ∀ p ∈ own, p ∈ news')
    (m1 : m' (Str.ofString "box") = some (.ref b)) (m2 : m' (Str.ofString "sender") = some (.ref x)) (m3 : m' (Str.ofString "now") = some (.int nw tn)) (hI : IntsAre vs ns) (hn : ns.length ≤ 24) (h0 : 0 ≤ sd) (h1 : sd < 2147483647)
    (hS : IsSnd P o S) (hi : Inv (1000000 + 100000 * ((i + 1 : Nat) : Int)) nw S) (hw0 : 0 ≤ nw) (hw1 : nw ≤ 1000 + 400000 * ((i + 1 : Nat) : Int)) :
    InvPostN h₀ L (JJ P b l x d cb (i + 1)) own [b, l, x, d] s Q .next { s with heap := h', toks := tk' } :=
  ⟨h', tk', m', news', [(b, listOf #[.ref l, .int sd ts] cb), (l, listOf vs.toArray nl), (x, instObj 206 d), (d, o)], rfl, F, N,
    fun p hp => by
      rcases List.mem_cons.mp hp with rfl | hp
      · exact hb
      rcases List.mem_cons.mp hp with rfl | hp
      · exact hl
      rcases List.mem_cons.mp hp with rfl | hp
      · exact hx
      rw [List.mem_singleton.mp hp]
      exact hd, ho, rfl, m1, m2, nw, tn, sd, ts, vs, ns, nl, o, S, m3, rfl, hI, hn, h0, h1, hS, hi, hw0, hw1⟩
local macro_rules | `(tactic| k_ne) => `(tactic| first | assumption | exact Ne.symm (by assumption) | exact Nat.ne_of_gt (by assumption) | exact Nat.ne_of_lt (by assumption))
local macro_rules | `(tactic| mul_fits) => `(tactic| first | exact PySem.IntMulOk.of_left (PySem.intBits_le_64 (by decide) (by decide)) | exact PySem.IntMulOk.of_right (PySem.intBits_le_64 (by decide) (by decide)))
local macro_rules | `(tactic| omega) => `(tactic| (k_dflt (law_clear; law_purse 20000 => lia)))
local macro_rules | `(tactic| walk_at "InvPostN") => `(tactic| refine stop_here ?_)
set_option maxRecDepth 100000 in
set_option maxHeartbeats 8000000 in
theorem turn_ok (w : World) (mean : ExcName → Option Value) (mg mb : Str → Option Value) (fa : Addr) (cd : Value) (L : Addr) (h₀ : Heap) (b l x d : Addr) (cb : Nat) (hbl : @Ne Nat b l) (hbx : @Ne Nat b x) (hbd : @Ne Nat b d) (hlx : @Ne Nat l x) (hld : @Ne Nat l d) (hxd : @Ne Nat x d)
    (B : Below callerA h₀ [] h₀) (X : (Mine.hd.heap_39 w.params).In h₀) (T : Top Mine.view (looseW Mine.view []) mean mg mb h₀) (i : Nat) (t : Tok) (m₁ : Str → Option Value) (nx : List (Addr × Obj)) (h : Heap) (tk : Nat) (own : List (Addr × Obj)) (s : Shared) (Q : Flow → Shared → Prop) (E : Value → Shared → Prop)
    (hi : i < 14) (hoff : OwnOff own [b, l, x, d]) (hj : JJ w.params b l x d cb i m₁ nx) (F : Fr h₀ L h (fun y => if y = Str.ofString "turn" then some (.int i t) else m₁ y)) (N : News h₀ L h (nx ++ own)) :
    wpAny (model PySem.Challenge.rw_no0074_01.row.prog w) (callerA.deeper (envOf (Str.ofString "law") lawScope L fa cd)) (execs lawTurn (envOf (Str.ofString "law") lawScope L fa cd))
      (InvPostN h₀ L (JJ w.params b l x d cb (i + 1)) own [b, l, x, d] { s with heap := h, toks := tk } Q) E { s with heap := h, toks := tk } := by
  obtain ⟨j1, j2, nw, tn, sd, ts, vs, ns, nl, o, S, j3, rfl, hI0, hlen, hsd0, hsd1, hS, hI, hn0, hn1⟩ := hj
  rw [frame_form j1 j2 j3] at F
  revert X N
  refine snd_open (C := fun o => (Mine.hd.heap_39 w.params).In h₀ → News h₀ L h ([(b, listOf #[.ref l, .int sd ts] cb), (l, listOf vs.toArray nl), (x, instObj 206 d), (d, o)] ++ own) → _) hS ?_
  clear hS
  intro k1 k2 k3 k4 k5 k6 k7 k8 k9 k10 k11 k12 t1 t2 t5 t6 t7 t8 t10 t11 t12 v3 v4 v9 h3 h4 h9 hS0
  k_fill
  intro X N
  generalize hb : lawTurn = body
  generalize hs : lawScope = sc
  conv at hb => lhs; whnf
  conv at hs => lhs; whnf
  subst hb
  subst hs
  simp only [List.cons_append, List.nil_append] at N
  dsimp only [sdict] at N
  have hw0 := hI.1
  have hrd : ∀ p ∈ own, p.1 ≠ d := OwnOff.ne hoff (by k_memK)
  k_with_none
  k_with "call ref" => (k_here; k_dflt ((refine' ctr_use (take_ctr _ _ _ _ b l _ _ _ _ _ _ _ _ ((x, instObj 206 d) :: (d, _) :: own) ?tI ?tl ?ts ?ts2 ?tk0 ?tk1 ?tbl ?trb ?trl) ?k1 ?k2 ?k3 ?k4 ?k5 ?kK ?kd ?ku ?_); (case k1 => k_asm); (case k2 => k_asm); (case k3 => k_asm); (case k4 => first | k_asm | exact news_sel4 (by assumption) (by k_mem) (by k_mem) (by k_mem) (by k_mem) (by first | exact List.forall_mem_nil _ | (intro p9 h9; k_ownIn))); (case k5 => k_asm); (case kK => first | exact rfl | assumption); (case kd => first | exact room_of hd rfl | exact Nat.le_of_ble_eq_true rfl | ktr_room); (case ku => first | exact room_of hu rfl | exact Nat.le_of_ble_eq_true rfl | ktr_units); (case tI => with_reducible assumption); (case tl => assumption); (case ts => assumption); (case ts2 => assumption); (case tk0 => decide +kernel); (case tk1 => decide +kernel); (case tbl => assumption); (case trb => k_all); (case trl => k_all); (intro z9 tz9 vs9 ns9 nl9 sd9 ts9 a1 a2 I9 a3 a4 a5 hp9 tk9 F9 N9; (try k_sweep); (try dsimp only); (try k_fold))))
  k_with "call ref" => (k_here; k_dflt ((refine' ctr_use (lawAcked_ctr _ _ _ _ x d _ (b, _) (l, _) own _ _ _ _ _ _ _ _ _ _ ?hS ?hx ?he1 ?he2 ?hr _ ?h1 ?h2 ?h3 ?h4 ?h5 ?h6 ?h7 ?h8) ?k1 ?k2 ?k3 ?k4 ?k5 ?kK ?kd ?ku ?_); (case k1 => k_asm); (case k2 => k_asm); (case k3 => k_asm); (case k4 => first | k_asm | exact news_sel4 (by assumption) (by k_mem) (by k_mem) (by k_mem) (by k_mem) (by first | exact List.forall_mem_nil _ | (intro p9 h9; k_ownIn))); (case k5 => k_asm); (case kK => first | exact rfl | assumption); (case kd => first | exact room_of hd rfl | exact Nat.le_of_ble_eq_true rfl | ktr_room); (case ku => first | exact room_of hu rfl | exact Nat.le_of_ble_eq_true rfl | ktr_units); (case hS => assumption); (case hx => assumption); (case he1 => assumption); (case he2 => assumption); (case hr => assumption); (case h1 => ((refine' inv_now hI ?h1b); (case h1b => omega))); (case h2 => omega); (case h3 => omega); (case h4 => omega); (case h5 => omega); (case h6 => omega); (case h7 => decide); (case h8 => decide); (intro S9 hI9 p1 p2 p3 p4 p5 p6 p7 p8 p9 p10 p11 p12 q1 q2 q5 q6 q7 q8 q10 q11 q12 u3 u4 u9 g3 g4 g9 hS8 hp9 tk9 F9 N9; (have hw9 := hI9.1); (try dsimp only [sdict] at N9); (try k_sweep); (try dsimp only); (try k_fold))))
  k_with "call ref" => (k_here; k_dflt ((refine' ctr_use (lawCong_ctr _ _ _ _ x d _ (b, _) (l, _) own _ _ _ _ _ ?hS ?hx ?he1 ?he2 ?hr _ ?h1 ?h2 ?h3 ?h4) ?k1 ?k2 ?k3 ?k4 ?k5 ?kK ?kd ?ku ?_); (case k1 => k_asm); (case k2 => k_asm); (case k3 => k_asm); (case k4 => first | k_asm | exact news_sel4 (by assumption) (by k_mem) (by k_mem) (by k_mem) (by k_mem) (by first | exact List.forall_mem_nil _ | (intro p9 h9; k_ownIn))); (case k5 => k_asm); (case kK => first | exact rfl | assumption); (case kd => first | exact room_of hd rfl | exact Nat.le_of_ble_eq_true rfl | ktr_room); (case ku => first | exact room_of hu rfl | exact Nat.le_of_ble_eq_true rfl | ktr_units); (case hS => assumption); (case hx => assumption); (case he1 => assumption); (case he2 => assumption); (case hr => assumption); (case h1 => ((refine' inv_now hI ?h1b); (case h1b => omega))); (case h2 => omega); (case h3 => omega); (case h4 => omega); (intro S9 hI9 p1 p2 p3 p4 p5 p6 p7 p8 p9 p10 p11 p12 q1 q2 q5 q6 q7 q8 q10 q11 q12 u3 u4 u9 g3 g4 g9 hS8 hp9 tk9 F9 N9; (have hw9 := hI9.1); (try dsimp only [sdict] at N9); (try k_sweep); (try dsimp only); (try k_fold))))
  k_with "call ref" => (k_here; k_dflt ((refine' ctr_use (persist_ctr _ _ _ _ x d _ (b, _) (l, _) own _ ?hS ?hx ?he1 ?he2 ?hr) ?k1 ?k2 ?k3 ?k4 ?k5 ?kK ?kd ?ku ?_); (case k1 => k_asm); (case k2 => k_asm); (case k3 => k_asm); (case k4 => first | k_asm | exact news_sel4 (by assumption) (by k_mem) (by k_mem) (by k_mem) (by k_mem) (by first | exact List.forall_mem_nil _ | (intro p9 h9; k_ownIn))); (case k5 => k_asm); (case kK => first | exact rfl | assumption); (case kd => first | exact room_of hd rfl | exact Nat.le_of_ble_eq_true rfl | ktr_room); (case ku => first | exact room_of hu rfl | exact Nat.le_of_ble_eq_true rfl | ktr_units); (case hS => assumption); (case hx => assumption); (case he1 => assumption); (case he2 => assumption); (case hr => assumption); (intro p1 p2 p3 p4 p5 p6 p7 p8 p9 p10 p11 p12 q1 q2 q5 q6 q7 q8 q10 q11 q12 u3 u4 u9 g3 g4 g9 hS8 hp9 tk9 F9 N9; (have hI9 := inv_persist hI); (have hw9 := hI9.1); (obtain rfl := valO_no g4 rfl); (obtain rfl := valO_no g9 rfl); (try dsimp only [sdict, persisted] at N9); (try k_sweep); (try dsimp only); (try k_fold))))
  k_with "call ref" => (k_here; k_dflt ((refine' ctr_use (least_ctr _ _ _ _ _ _ _) ?k1 ?k2 ?k3 ?k4 ?k5 ?kK ?kd ?ku ?_); (case k1 => k_asm); (case k2 => k_asm); (case k3 => k_asm); (case k4 => k_asm); (case k5 => k_asm); (case kK => first | exact rfl | assumption); (case kd => first | exact room_of hd rfl | exact Nat.le_of_ble_eq_true rfl | ktr_room); (case ku => first | exact room_of hu rfl | exact Nat.le_of_ble_eq_true rfl | ktr_units); (intro t9 hp9 tk9 F9 N9; (try k_sweep); (try dsimp only); (try k_fold))))
  try k_fold
  k_steps
  all_goals (
    unfold Stop
    refine' turn_end (i := i) ?F ?N ?m1 ?m2 ?m3 ?m4 ?ho ?n1 ?n2 ?n3 I9 a3 a4 a5 ?hS ?hi ?hw0 ?hw1
    (case F => k_asm)
    (case N => k_asm)
    (case m1 => k_memK)
    (case m2 => k_memK)
    (case m3 => k_memK)
    (case m4 => k_memK)
    (case ho => intro p9 hp9; k_ownIn)
    (case n1 => rfl)
    (case n2 => rfl)
    (case n3 => rfl)
    (case hS => first | exact hS8 | exact hS0)
    (case hi => first | exact inv_next hI9 | (refine' inv_next (inv_now hI9 ?h1b); (case h1b => omega)) | (refine' inv_next (inv_mono (inv_now hI ?h1b)); (case h1b => omega)))
    (case hw0 => omega)
    (case hw1 => omega))
end

section
section
variable {prog : Program} {w : World} {A : Around} {E : Value → Shared → Prop} {s : Shared} {env : Env} {h₀ : Heap} {v : Str} {body : List Stmt} {Q : Flow → Shared → Prop}
theorem loop_fourteen {r : Addr} {t₀ u₀ v₀ : Tok} {m₀ : Str → Option Value} {news : List (Addr × Obj)} (J : Nat → (Str → Option Value) → List (Addr × Obj) → Prop)
    (hh : A.handled = none) (hr : IsRange s.heap r 0 14 1 t₀ u₀ v₀) (F : Fr h₀ env.locals s.heap m₀) (N : News h₀ env.locals s.heap news) (hj : J 0 m₀ news)
    (turn : ∀ i t m₁ nx h tk own, i < 14 → OwnOff own (news.map (·.1)) → J i m₁ nx → Fr h₀ env.locals h (fun y => if y = v then some (.int i t) else m₁ y) → News h₀ env.locals h (nx ++ own) →
      wpAny (model prog w) A (execs body env) (InvPostN h₀ env.locals (J (i + 1)) own (news.map (·.1)) { s with heap := h, toks := tk } Q) E { s with heap := h, toks := tk })
    (done : ∀ m₁ nx h tk, J 14 m₁ nx → Fr h₀ env.locals h m₁ → News h₀ env.locals h nx → Q .next { s with heap := h, toks := tk }) :
    wpAny (model prog w) A (pyIter (.ref r)) (fun it s₂ => LoopAtV prog w A h₀ env v body Q E it s₂) E s := by
  refine wpAny_pyIter_range hr (by decide) ?_
  have W := (Walks.range (prog := prog) (w := w) hh s.heap.objs.size 0 1 14).bound
  have hn : Builtin.Range.rangeSize 0 14 1 = ((14 : Nat) : Int) := by decide
  refine loop_invN J W ?_ ?_ ?_ ?_ (by show IsRangeIter _ _ _ _ _; rw [hn]; simpa using Heap.get?_push_size _ rfl) (F.push _) (fun p hp => ⟨Heap.get?_push_of_some _ (N p hp).1, (N p hp).2⟩) hj ?_ ?_
  · intro hm
    exact absurd F.ns.lt ((List.mem_singleton.mp hm) ▸ Nat.lt_irrefl _)
  · intro a ha
    rw [List.mem_singleton.mp ha]
    exact next_is_new F
  · intro p hp hI
    exact absurd (Heap.lt_size (N p hp).1) ((List.mem_singleton.mp hI) ▸ Nat.lt_irrefl _)
  · intro p hp hI
    exact absurd (Heap.lt_size (N p hp).1) ((List.mem_singleton.mp hI) ▸ Nat.lt_irrefl _)
  · rintro i y m₁ nx h tk own hi ⟨_, t, rfl⟩ _ ho hj' F' N'
    have e : (0 : Int) + (i : Int) * 1 = (i : Int) := by omega
    rw [e] at F'
    exact turn i t m₁ nx h tk own hi ho hj' F' N'
  · exact done
end
local macro_rules | `(tactic| k_ne) => `(tactic| first | assumption | exact Ne.symm (by assumption) | exact Nat.ne_of_gt (by assumption) | exact Nat.ne_of_lt (by assumption))
local macro_rules | `(tactic| mul_fits) => `(tactic| first | exact PySem.IntMulOk.of_left (PySem.intBits_le_64 (by decide) (by decide)) | exact PySem.IntMulOk.of_right (PySem.intBits_le_64 (by decide) (by decide)))
local macro_rules | `(tactic| omega) => `(tactic| (k_dflt (law_clear; law_purse 20000 => lia)))
local macro_rules | `(tactic| walk_at "pyIter ref") => `(tactic| k_extra "stopIter")
local macro_rules | `(tactic| walk_at "exec For Name Call cons nil") => `(tactic| k_extra "stopFor")
set_option maxRecDepth 100000 in
set_option maxHeartbeats 8000000 in
theorem law_holds : PySem.Challenge.rw_no0074_01.Holds := Mine.hd (by
  k_go0
  all_goals try k_fold
  k_with_none
  k_with "pyIter ref" => k_state (fun _ seed => 0 ≤ seed ∧ seed < 2147483647) "seed_here"
  k_with "stopFor" => (refine stop_here ?_)
  k_with "call ref" => (k_here; k_dflt ((refine' ctr_use (cubeRoot_ctr _ _ _ _ _ _ _ ?c1 ?c2) ?k1 ?k2 ?k3 ?k4 ?k5 ?kK ?kd ?ku ?_); (case k1 => k_asm); (case k2 => k_asm); (case k3 => k_asm); (case k4 => k_asm); (case k5 => k_asm); (case kK => first | exact rfl | assumption); (case kd => first | exact room_of hd rfl | exact Nat.le_of_ble_eq_true rfl | ktr_room); (case ku => first | exact room_of hu rfl | exact Nat.le_of_ble_eq_true rfl | ktr_units); (case c1 => first | assumption | omega | exact root_cube0 (by assumption)); (case c2 => first | assumption | omega | exact root_cube1 (by assumption) (by assumption)); (intro z9 t9 a1 a2 a3 a4 a5 a6 a7 hp9 tk9 F9 N9; (try (have e9 := a7 _ (by assumption) rfl; subst e9)); (try clear a7); (try clear a2 a3); (try k_sweep); (try dsimp only); (try k_fold))))
  k_with "call ref" => (k_here; k_dflt ((refine' ctr_use (take_ctr _ _ _ _ _ _ _ _ _ _ _ _ _ _ _ ?tI ?tl ?ts ?ts2 ?tk0 ?tk1 ?tbl ?trb ?trl) ?k1 ?k2 ?k3 ?k4 ?k5 ?kK ?kd ?ku ?_); (case k1 => k_asm); (case k2 => k_asm); (case k3 => k_asm); (case k4 => first | k_asm | exact news_sel2 (by assumption) (by k_mem) (by k_mem) (by first | exact List.forall_mem_nil _ | (intro p9 h9; k_ownIn))); (case k5 => k_asm); (case kK => first | exact rfl | assumption); (case kd => first | exact room_of hd rfl | exact Nat.le_of_ble_eq_true rfl | ktr_room); (case ku => first | exact room_of hu rfl | exact Nat.le_of_ble_eq_true rfl | ktr_units); (case tI => with_reducible assumption); (case tl => first | assumption | exact List.length_take_le _ _); (case ts => assumption); (case ts2 => assumption); (case tk0 => decide +kernel); (case tk1 => decide +kernel); (case tbl => k_ne); (case trb => k_all); (case trl => k_all); (intro z9 tz9 vs9 ns9 nl9 sd9 ts9 a1 a2 I9 a3 a4 a5 hp9 tk9 F9 N9; (try simp only [ten_twelve] at a2); (try k_sweep); (try dsimp only); (try k_fold))))
  k_with "call ref" => (k_here; k_dflt ((refine' ctr_use (growth_ctr _ _ _ _ _ _ _ _ _ _ _ _ ?tI ?tl ?ts ?ts2 ?tbl) ?k1 ?k2 ?k3 ?k4 ?k5 ?kK ?kd ?ku ?_); (case k1 => k_asm); (case k2 => k_asm); (case k3 => k_asm); (case k4 => first | k_asm | exact news_sel2 (by assumption) (by k_mem) (by k_mem) (by first | exact List.forall_mem_nil _ | (intro p9 h9; k_ownIn))); (case k5 => k_asm); (case kK => first | exact rfl | assumption); (case kd => first | exact room_of hd rfl | exact Nat.le_of_ble_eq_true rfl | ktr_room); (case ku => first | exact room_of hu rfl | exact Nat.le_of_ble_eq_true rfl | ktr_units); (case tI => with_reducible assumption); (case tl => assumption); (case ts => assumption); (case ts2 => assumption); (case tbl => k_ne); (intro vs9 ns9 nl9 sd9 ts9 I9 a3 a4 a5 hp9 tk9 F9 N9; (try k_sweep); (try dsimp only); (try k_fold))))
  k_steps
  unfold Stop
  k_with_none
  k_with "stopIter" => (refine stop_here ?_)
  (rename Fr _ _ _ _ => lF)
  with_unfolding_all refine' For_invVF lF ?k1 ?k2 ?_
  (case k1 => exact rfl)
  (case k2 => exact rfl)
  k_steps
  unfold Stop
  (rename IsRange _ _ _ _ _ _ _ _ => hR)
  (rename News _ _ _ _ => hN)
  (rename Fr _ _ _ _ => hF)
  refine' loop_fourteen (JJ _ ?zb ?zl ?zx ?zd ?zcb) rfl hR hF (news_sel4 (p1 := (?zb, listOf #[.ref ?zl, .int ?zsd ?zts] ?zcb)) (p2 := (?zl, listOf (List.toArray ?zvs) ?znl)) (p3 := (?zx, instObj 206 ?zd)) (p4 := (?zd, ?zo)) (rest := []) hN ?m1 ?m2 ?m3 ?m4 (List.forall_mem_nil _)) ?hj ?turn ?done
  (case m1 => k_mem)
  (case m2 => k_mem)
  (case m3 => k_mem)
  (case m4 => k_mem)
  (case hj =>
    refine' ⟨rfl, rfl, _, _, _, _, _, _, _, _, _, rfl, rfl, I9, a3, a4, a5, isSnd_mk valO_none valO_none valO_none, ?inv, ?z1, ?z2⟩
    (case inv => exact ⟨by decide, by decide, by decide, by decide, by decide, by decide, by decide, by decide, by decide, by decide, by decide, by decide, fun r hr9 => by cases hr9⟩)
    (case z1 => decide)
    (case z2 => decide))
  (case turn =>
    intro i t m₁ nx h tk own hi ho hj F N
    refine' turn_ok _ _ _ _ _ _ _ _ _ _ _ _ _ ?n1 ?n2 ?n3 ?n4 ?n5 ?n6 ?B ?X ?T i t m₁ nx h tk own _ _ _ hi ho hj F N
    (case B => k_asm)
    (case X => k_asm)
    (case T => k_asm)
    all_goals (refine neN ?_; omega))
  (case done =>
    intro m₁ nx h tk hj F N
    k_with_none
    dsimp only
    k_steps
    all_goals w_report))
end

end Mine

theorem PySem.Challenge.cw_no0074_01_holds : PySem.Challenge.rw_no0074_01.Holds := by
  exact Mine.law_holds
