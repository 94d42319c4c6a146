import PyProof.Rows.All
import Wide.All
import OpenK.AllK
import Wide.FinOn
import PyProof.ExcInit
import PyProof.ExcClass2
import PyProof.ExcBaseAll.Exception
import PyProof.ExcArgsOwn
import PySem.Challenge.RW_pb0305_01
set_option Elab.async false
set_option maxRecDepth 100000 in
set_option maxHeartbeats 8000000 in
open PySem PySem.W PyProof.Rows in
open_top Mine.hd0305 for PySem.Challenge.rw_pb0305_01

-- part PB
section
open PySem PySem.W PyProof.Rows
namespace Mine
theorem and255_small (x : Int) : (Builtin.bitAnd x 255).natAbs < 2 ^ 64 := by rw [bitAnd_m8]; omega

/-- the byte at place r (0..3) of a word -/
def byteAt (w r : Int) : Int := w / 2 ^ (8 * r).toNat % 256
/-- the word with that byte replaced -/
def setByte (w r v : Int) : Int := w + (v % 256 - byteAt w r) * 2 ^ (8 * r).toNat

theorem byte_eq (w i : Int) : Builtin.bitAnd (w.fdiv (2 ^ (8 * i.fmod 4).toNat)) 255 = byteAt w (i % 4) := by
  rw [bitAnd_m8, byteAt, Int.fmod_eq_emod_of_nonneg i (by decide), Int.fdiv_eq_ediv_of_nonneg]
  exact Int.pow_nonneg (by decide)

theorem mask_bit : ∀ (k : Fin 4) (i : Fin 32), (4294967295 - 255 * 2 ^ (8 * k.val)).testBit i.val = !(decide (8 * k.val ≤ i.val) && decide (i.val < 8 * k.val + 8)) := by decide +kernel
theorem small_bit {b : Nat} (hb : b < 256) {j : Nat} (hj : 8 ≤ j) : b.testBit j = false :=
  Nat.testBit_lt_two_pow (Nat.lt_of_lt_of_le hb (by show 2 ^ 8 ≤ 2 ^ j; exact Nat.pow_le_pow_right (by decide) hj))

/-- on naturals: clear the byte, put another -/
theorem nat_put (k : Fin 4) (w b : Nat) (hw : w < 4294967296) (hb : b < 256) :
    (w &&& (4294967295 - 255 * 2 ^ (8 * k.val))) ||| (b * 2 ^ (8 * k.val)) = (w / 2 ^ (8 * k.val + 8)) * 2 ^ (8 * k.val + 8) + (b * 2 ^ (8 * k.val) + w % 2 ^ (8 * k.val)) := by
  have h1 : b * 2 ^ (8 * k.val) + w % 2 ^ (8 * k.val) < 2 ^ (8 * k.val + 8) := by
    have := Nat.mod_lt w (Nat.two_pow_pos (8 * k.val))
    have h2 : (b + 1) * 2 ^ (8 * k.val) ≤ 256 * 2 ^ (8 * k.val) := Nat.mul_le_mul_right _ hb
    rw [Nat.pow_add, Nat.mul_comm _ (2 ^ 8)]
    show _ < 256 * _
    rw [Nat.add_mul] at h2
    omega
  have e1 : (w / 2 ^ (8 * k.val + 8)) * 2 ^ (8 * k.val + 8) + (b * 2 ^ (8 * k.val) + w % 2 ^ (8 * k.val)) = (w / 2 ^ (8 * k.val + 8)) <<< (8 * k.val + 8) ||| (b <<< (8 * k.val) ||| w % 2 ^ (8 * k.val)) := by
    rw [← Nat.shiftLeft_add_eq_or_of_lt (Nat.mod_lt w (Nat.two_pow_pos _)), ← Nat.shiftLeft_add_eq_or_of_lt (by rw [Nat.shiftLeft_eq]; exact h1), Nat.shiftLeft_eq, Nat.shiftLeft_eq]
  rw [e1]
  refine Nat.eq_of_testBit_eq fun i => ?_
  rw [← Nat.shiftLeft_eq b]
  simp only [Nat.testBit_or, Nat.testBit_and, Nat.testBit_shiftLeft, Nat.testBit_mod_two_pow, Nat.testBit_div_two_pow]
  by_cases hi : i < 32
  · have hm := mask_bit k ⟨i, hi⟩
    simp only at hm
    rw [hm]
    by_cases c1 : 8 * k.val ≤ i
    · by_cases c2 : i < 8 * k.val + 8
      · have c3 : ¬ (8 * k.val + 8 ≤ i) := by omega
        have c4 : ¬ (i < 8 * k.val) := by omega
        simp [c1, c2, c3, c4]
      · have c3 : 8 * k.val + 8 ≤ i := by omega
        have c4 : ¬ (i < 8 * k.val) := by omega
        have e : i - (8 * k.val + 8) + (8 * k.val + 8) = i := by omega
        have e' := small_bit hb (show 8 ≤ i - 8 * k.val by omega)
        simp [c1, c2, c3, c4, e, e']
    · have c2 : i < 8 * k.val + 8 := by omega
      have c3 : ¬ (8 * k.val + 8 ≤ i) := by omega
      have c4 : i < 8 * k.val := by omega
      simp [c1, c3, c4]
  · have hw0 : w.testBit i = false := Nat.testBit_lt_two_pow (Nat.lt_of_lt_of_le hw (by show 2 ^ 32 ≤ 2 ^ i; exact Nat.pow_le_pow_right (by decide) (by omega)))
    have c4 : ¬ (i < 8 * k.val) := by omega
    have c3 : 8 * k.val + 8 ≤ i := by omega
    have e : i - (8 * k.val + 8) + (8 * k.val + 8) = i := by omega
    simp [hw0, c3, c4, e]
theorem bitOr_nat (x y : Nat) : Builtin.bitOr (x : Int) (y : Int) = ((x ||| y : Nat) : Int) := by
  have hx : decide (0 ≤ Builtin.bitNot (x : Int)) = false := by apply decide_eq_false; unfold Builtin.bitNot; omega
  have hy : decide (0 ≤ Builtin.bitNot (y : Int)) = false := by apply decide_eq_false; unfold Builtin.bitNot; omega
  unfold Builtin.bitOr Builtin.bitAnd
  rw [hx, hy]
  simp only [Builtin.bitNot]
  have e1 : (-(-(x : Int) - 1) - 1).toNat = x := by omega
  have e2 : (-(-(y : Int) - 1) - 1).toNat = y := by omega
  rw [e1, e2]
  omega
theorem bitAnd_nat (x y : Nat) : Builtin.bitAnd (x : Int) (y : Int) = ((x &&& y : Nat) : Int) := by
  have hx : decide (0 ≤ (x : Int)) = true := by simp
  have hy : decide (0 ≤ (y : Int)) = true := by simp
  unfold Builtin.bitAnd
  rw [hx, hy]
  simp

theorem put_nat (k : Fin 4) (w : Nat) (v : Int) (hw : w < 4294967296) :
    Builtin.bitOr (Builtin.bitAnd (w : Int) (4294967296 - 1 - 255 * 2 ^ (8 * k.val))) (Builtin.bitAnd v 255 * 2 ^ (8 * k.val)) = setByte (w : Int) (k.val : Int) v ∧ 0 ≤ setByte (w : Int) (k.val : Int) v ∧ setByte (w : Int) (k.val : Int) v < 4294967296 := by
  obtain ⟨b, hb⟩ : ∃ b : Nat, v % 256 = (b : Int) := ⟨(v % 256).toNat, by omega⟩
  have hb' : b < 256 := by omega
  have hk := k.isLt
  have et : (8 * (k.val : Int)).toNat = 8 * k.val := by omega
  have em : (4294967296 - 1 - 255 * 2 ^ (8 * k.val) : Int) = ((4294967295 - 255 * 2 ^ (8 * k.val) : Nat) : Int) := by
    have : ∀ k : Fin 4, (4294967296 - 1 - 255 * 2 ^ (8 * k.val) : Int) = ((4294967295 - 255 * 2 ^ (8 * k.val) : Nat) : Int) := by decide +kernel
    exact this k
  have e1 : Builtin.bitOr (Builtin.bitAnd (w : Int) (4294967296 - 1 - 255 * 2 ^ (8 * k.val))) (Builtin.bitAnd v 255 * 2 ^ (8 * k.val)) = (((w / 2 ^ (8 * k.val + 8)) * 2 ^ (8 * k.val + 8) + (b * 2 ^ (8 * k.val) + w % 2 ^ (8 * k.val)) : Nat) : Int) := by
    rw [bitAnd_m8, hb, em, bitAnd_nat, show ((b : Int) * 2 ^ (8 * k.val)) = ((b * 2 ^ (8 * k.val) : Nat) : Int) by simp, bitOr_nat, nat_put k w b hw hb']
  rw [e1]
  unfold setByte byteAt
  rw [et, hb]
  have : k.val = 0 ∨ k.val = 1 ∨ k.val = 2 ∨ k.val = 3 := by omega
  rcases this with h | h | h | h <;> rw [h] <;> simp only [Nat.reduceMul, Nat.reduceAdd, Nat.reducePow] <;> omega
theorem put_eq (w v i : Int) (h0 : 0 ≤ w) (h1 : w < 4294967296) :
    (Builtin.bitOr (Builtin.bitAnd w (4294967296 - 1 - 255 * 2 ^ (8 * i.fmod 4).toNat)) (Builtin.bitAnd v 255 * 2 ^ (8 * i.fmod 4).toNat)).fmod 4294967296 = setByte w (i % 4) v := by
  obtain ⟨u, rfl⟩ : ∃ u : Nat, w = (u : Int) := ⟨w.toNat, by omega⟩
  obtain ⟨k, hk⟩ : ∃ k : Fin 4, i % 4 = (k.val : Int) := ⟨⟨(i % 4).toNat, by omega⟩, by simp; omega⟩
  have et : (8 * i.fmod 4).toNat = 8 * k.val := by rw [Int.fmod_eq_emod_of_nonneg i (by decide), hk]; omega
  obtain ⟨e1, e2, e3⟩ := put_nat k u v (by omega)
  rw [et, e1, hk, Int.fmod_eq_emod_of_nonneg _ (by decide), Int.emod_eq_of_lt e2 e3]
theorem setByte_range (w v i : Int) (h0 : 0 ≤ w) (h1 : w < 4294967296) : 0 ≤ setByte w (i % 4) v ∧ setByte w (i % 4) v < 4294967296 := by
  obtain ⟨u, rfl⟩ : ∃ u : Nat, w = (u : Int) := ⟨w.toNat, by omega⟩
  obtain ⟨k, hk⟩ : ∃ k : Fin 4, i % 4 = (k.val : Int) := ⟨⟨(i % 4).toNat, by omega⟩, by simp; omega⟩
  rw [hk]
  exact (put_nat k u v (by omega)).2
theorem byteAt_setByte (w v : Int) (r q : Int) (hr : 0 ≤ r ∧ r < 4) (hq : 0 ≤ q ∧ q < 4) : byteAt (setByte w r v) q = if q = r then v % 256 else byteAt w q := by
  have h1 : r = 0 ∨ r = 1 ∨ r = 2 ∨ r = 3 := by omega
  have h2 : q = 0 ∨ q = 1 ∨ q = 2 ∨ q = 3 := by omega
  unfold setByte byteAt
  rcases h1 with rfl | rfl | rfl | rfl <;> rcases h2 with rfl | rfl | rfl | rfl <;> simp only [Int.reduceMul, Int.reduceToNat, Int.reducePow, Int.reduceEq, if_true, if_false] <;> omega
theorem byteAt_word (v q : Int) (hq : 0 ≤ q ∧ q < 4) : byteAt (v % 4294967296) q = v / 256 ^ q.toNat % 256 := by
  have h2 : q = 0 ∨ q = 1 ∨ q = 2 ∨ q = 3 := by omega
  unfold byteAt
  rcases h2 with rfl | rfl | rfl | rfl <;> simp only [Int.reduceMul, Int.reduceToNat, Int.reducePow] <;> omega
theorem word_bytes (w : Int) (h0 : 0 ≤ w) (h1 : w < 4294967296) : byteAt w 0 * 256 ^ 0 + byteAt w 1 * 256 ^ 1 + byteAt w 2 * 256 ^ 2 + byteAt w 3 * 256 ^ 3 = w := by
  unfold byteAt
  simp only [Int.reduceMul, Int.reduceToNat, Int.reducePow]
  omega
theorem byteAt_range (w r : Int) : 0 ≤ byteAt w r ∧ byteAt w r < 256 := by unfold byteAt; omega
end Mine
end

-- part PN
section
open PySem PySem.W PyProof.Rows
set_option Elab.async false
namespace Mine
local macro_rules | `(tactic| k_all) => `(tactic| assumption)
local macro_rules | `(tactic| units_room) => `(tactic| ((simp only [units_under_make, units_in1, units_deeper, Around.mark_units, units_caller]); (try dsimp only [ktrTop]); omega))
theorem ne_pos {vs : List Value} {ns : List Int} (hi : IntsAre vs ns) (h : decide (ns = []) = false) : 0 < vs.length := by
  cases hi with
  | nil => simp at h
  | cons => simp
theorem all_dropLast {ns : List Int} {P : Int → Prop} (h : ∀ x ∈ ns, P x) : ∀ x ∈ ns.dropLast, P x := fun x hx => h x ((List.dropLast_sublist ns).subset hx)
theorem all_last {ns : List Int} (h : ∀ x ∈ ns, 0 ≤ x ∧ x < 1024) : 0 ≤ ns.getLastD 0 ∧ ns.getLastD 0 < 1024 := by
  cases hq : ns.getLast? with
  | none => simp [List.getLastD_eq_getLast?, hq]
  | some y => simp [List.getLastD_eq_getLast?, hq]; exact h y (List.mem_of_getLast? hq)
local macro_rules | `(tactic| kpa_ne) => `(tactic| exact ne_pos (by assumption) (by assumption))
set_option maxRecDepth 100000 in
set_option maxHeartbeats 8000000 in
theorem next_call : ∀ (w : World) (mean : ExcName → Option Value) (mg mb : Str → Option Value) (dp un : Nat) (gd : Option (List Code)) (cn : Str) (cs : Scope) (a : Addr) (ccd : Value) (cl : List (Str × Addr)) (outer : List Env) (A₀ : Around) (base h₀ : Heap) (L : Addr) (m : Str → Option Value) (s : Shared) (Q E : Value → Shared → Prop)
   (rest : List (Addr × Obj)) (d : Addr) (vs : List Value) (ns : List Int) (n : Nat),
   Below A₀ base outer h₀ → Fr h₀ L s.heap m → (Mine.hd0305.heap_39 w.params).In h₀ → News h₀ L s.heap ((d, listOf vs.toArray n) :: rest) →
   Top Mine.hd0305.view_39 (looseW Mine.hd0305.view_39 []) mean mg mb h₀ → cs.kind = .function →
   (∀ p ∈ rest, p.1 ≠ d) → IntsAre vs ns → (∀ x ∈ ns, 0 ≤ x ∧ x < 1024) → ns.length ≤ 4096 → dp + 1 < recursionLimit → un + 100 < cLine →
   (∀ v t h' tk' vs' ns' n', 0 ≤ v → v < 1024 → IntsAre vs' ns' → (∀ x ∈ ns', 0 ≤ x ∧ x < 1024) → ns'.length ≤ 4096 → Fr h₀ L h' m → News h₀ L h' ((d, listOf vs'.toArray n') :: rest) → Q (.int v t) { s with heap := h', toks := tk' }) →
   wpAny (model PySem.Challenge.rw_pb0305_01.row.prog w) (ktrTop dp un gd cn cs L a ccd cl outer) (call (.ref 123) [.ref d]) Q E s := by
  k_fill
  intro w mean mg mb dp un gd cn cs a ccd cl outer A₀ base h₀ L m s Q E rest d vs ns n B F X N T hk hne hi hr hlen hd hu hret
  have hvl := hi.length
  w_top off
  w_strict (
    refine wpAny_call ?_
    k_dflt cell_enter
    k_steps
    · exact hret _ _ _ _ _ _ _ (by decide) (by decide) hi hr hlen (by k_asm) (cb_drop (by assumption) (fun p hp => List.Mem.tail _ hp))
    · exact hret _ _ _ _ _ _ _ (all_last hr).1 (all_last hr).2 (by assumption) (all_dropLast hr) (Nat.le_trans (by simp) hlen) (by k_asm) (cb_drop (by assumption) (fun p hp => List.Mem.tail _ hp)))
end Mine
end

-- part PM2
section
local macro_rules | `(tactic| walk_at "pad 0") => `(tactic| skip)
local macro_rules | `(tactic| walk_at "pad 1") => `(tactic| skip)
local macro_rules | `(tactic| walk_at "pad 2") => `(tactic| skip)
local macro_rules | `(tactic| walk_at "pad 3") => `(tactic| skip)
local macro_rules | `(tactic| walk_at "pad 4") => `(tactic| skip)
local macro_rules | `(tactic| walk_at "pad 5") => `(tactic| skip)
local macro_rules | `(tactic| walk_at "pad 6") => `(tactic| skip)
local macro_rules | `(tactic| walk_at "pad 7") => `(tactic| skip)
local macro_rules | `(tactic| walk_at "pad 8") => `(tactic| skip)
local macro_rules | `(tactic| walk_at "pad 9") => `(tactic| skip)
open PySem PySem.W PyProof.Rows
set_option Elab.async false
namespace Mine
local macro_rules | `(tactic| k_all) => `(tactic| assumption)
local macro_rules | `(tactic| units_room) => `(tactic| ((simp only [units_under_make, units_in1, units_deeper, Around.mark_units, units_caller]); (try dsimp only [ktrTop]); omega))
local macro_rules | `(tactic| k_enter) => `(tactic| cell_enter)
local macro_rules | `(tactic| k_room) => `(tactic| ktr_room)
local macro_rules | `(tactic| walk_at "binaryOp LShift int int") => `(tactic| (k_here; (try k_fmods); (with_reducible refine lshift_int_small ?kb1 ?kb2 ?kb3 ?_); (case kb1 => omega); (case kb2 => omega); (case kb3 => first | decide | exact and255_small _)))
abbrev memD (w : World) (z : Int) (tz t1 t2 : Tok) (W : Addr) : Obj :=
  dictOf [{ hash := PyData.keyHash w.params (Str.ofString "size"), key := Value.str (Str.ofString "size") t1, val := Value.int z tz },
          { hash := PyData.keyHash w.params (Str.ofString "words"), key := Value.str (Str.ofString "words") t2, val := Value.ref W }] 2
set_option maxRecDepth 100000 in
set_option maxHeartbeats 8000000 in
theorem word_good : ∀ (w : World) (mean : ExcName → Option Value) (mg mb : Str → Option Value) (dp un : Nat) (gd : Option (List Code)) (cn : Str) (cs : Scope) (a : Addr) (ccd : Value) (cl : List (Str × Addr)) (outer : List Env) (A₀ : Around) (base h₀ : Heap) (L : Addr) (m : Str → Option Value) (s : Shared) (Q E : Value → Shared → Prop)
   (rest : List (Addr × Obj)) (W x d : Addr) (o : Obj) (kvs : List (Int × Value)) (c : List (Int × Int)) (z : Int) (tz t1 t2 : Tok) (i : Int) (ti : Tok),
   Below A₀ base outer h₀ → Fr h₀ L s.heap m → (Mine.hd0305.heap_39 w.params).In h₀ → News h₀ L s.heap ((W, o) :: (x, instObj 98 d) :: (d, memD w z tz t1 t2 W) :: rest) →
   Top Mine.hd0305.view_39 (looseW Mine.hd0305.view_39 []) mean mg mb h₀ → cs.kind = .function →
   dp + 6 < recursionLimit → un + 100 < cLine →
   (W == sysModules) = false → o.IsDictOf (intKind PySem.Challenge.rw_pb0305_01.row.prog w) kvs → PyProof.V.FlatPairs PyData.int kvs (kdfD c) → c.length ≤ 4096 → @Ne Nat W x → @Ne Nat W d → (∀ p ∈ rest, p.1 ≠ W) →
   0 ≤ i → i < z → (∀ t h' tk', Fr h₀ L h' m → News h₀ L h' ((W, o) :: (x, instObj 98 d) :: (d, memD w z tz t1 t2 W) :: rest) → Q (.int (kdfLook c (i.fdiv 4) 0) t) { s with heap := h', toks := tk' }) →
   wpAny (model PySem.Challenge.rw_pb0305_01.row.prog w) (ktrTop dp un gd cn cs L a ccd cl outer) (call (.ref 74) [.ref x, .int i ti]) Q E s := by
  k_fill
  intro w mean mg mb dp un gd cn cs a ccd cl outer A₀ base h₀ L m s Q E rest W x d o kvs c z tz t1 t2 i ti B F X N T hk hd hu lo hdict hflat hclen hWx hWd hWr h0 h1 hret
  w_top off
  w_strict (
    refine wpAny_call ?_
    k_dflt cell_enter
    k_steps
    exact hret _ _ _ (by k_asm) (by k_asm))
set_option maxRecDepth 100000 in
set_option maxHeartbeats 8000000 in
theorem put_word_good : ∀ (w : World) (mean : ExcName → Option Value) (mg mb : Str → Option Value) (dp un : Nat) (gd : Option (List Code)) (cn : Str) (cs : Scope) (a : Addr) (ccd : Value) (cl : List (Str × Addr)) (outer : List Env) (A₀ : Around) (base h₀ : Heap) (L : Addr) (m : Str → Option Value) (s : Shared) (Q E : Value → Shared → Prop)
   (rest : List (Addr × Obj)) (W x d : Addr) (o : Obj) (kvs : List (Int × Value)) (c : List (Int × Int)) (z : Int) (tz t1 t2 : Tok) (i v : Int) (ti tv : Tok),
   Below A₀ base outer h₀ → Fr h₀ L s.heap m → (Mine.hd0305.heap_39 w.params).In h₀ → News h₀ L s.heap ((W, o) :: (x, instObj 98 d) :: (d, memD w z tz t1 t2 W) :: rest) →
   Top Mine.hd0305.view_39 (looseW Mine.hd0305.view_39 []) mean mg mb h₀ → cs.kind = .function →
   dp + 6 < recursionLimit → un + 100 < cLine →
   (W == sysModules) = false → o.IsDictOf (intKind PySem.Challenge.rw_pb0305_01.row.prog w) kvs → PyProof.V.FlatPairs PyData.int kvs (kdfD c) → c.length ≤ 4096 → @Ne Nat W x → @Ne Nat W d → (∀ p ∈ rest, p.1 ≠ W) →
   0 ≤ i → i < z → (∀ h' tk' o' kvs', Fr h₀ L h' m → News h₀ L h' ((W, o') :: (x, instObj 98 d) :: (d, memD w z tz t1 t2 W) :: rest) → o'.IsDictOf (intKind PySem.Challenge.rw_pb0305_01.row.prog w) kvs' → PyProof.V.FlatPairs PyData.int kvs' (kdfD (kdfPut c (i.fdiv 4) (v.fmod 4294967296))) → Q .none { s with heap := h', toks := tk' }) →
   wpAny (model PySem.Challenge.rw_pb0305_01.row.prog w) (ktrTop dp un gd cn cs L a ccd cl outer) (call (.ref 81) [.ref x, .int i ti, .int v tv]) Q E s := by
  k_fill
  intro w mean mg mb dp un gd cn cs a ccd cl outer A₀ base h₀ L m s Q E rest W x d o kvs c z tz t1 t2 i v ti tv B F X N T hk hd hu lo hdict hflat hclen hWx hWd hWr h0 h1 hret
  w_top off
  w_strict (
    refine wpAny_call ?_
    k_dflt cell_enter
    k_steps
    exact hret _ _ _ _ (by k_asm) (by k_asm) (by assumption) (by assumption))
set_option maxRecDepth 100000 in
set_option maxHeartbeats 8000000 in
theorem byte_good : ∀ (w : World) (mean : ExcName → Option Value) (mg mb : Str → Option Value) (dp un : Nat) (gd : Option (List Code)) (cn : Str) (cs : Scope) (a : Addr) (ccd : Value) (cl : List (Str × Addr)) (outer : List Env) (A₀ : Around) (base h₀ : Heap) (L : Addr) (m : Str → Option Value) (s : Shared) (Q E : Value → Shared → Prop)
   (rest : List (Addr × Obj)) (W x d : Addr) (o : Obj) (kvs : List (Int × Value)) (c : List (Int × Int)) (z : Int) (tz t1 t2 : Tok) (i : Int) (ti : Tok),
   Below A₀ base outer h₀ → Fr h₀ L s.heap m → (Mine.hd0305.heap_39 w.params).In h₀ → News h₀ L s.heap ((W, o) :: (x, instObj 98 d) :: (d, memD w z tz t1 t2 W) :: rest) →
   Top Mine.hd0305.view_39 (looseW Mine.hd0305.view_39 []) mean mg mb h₀ → cs.kind = .function →
   dp + 6 < recursionLimit → un + 100 < cLine →
   (W == sysModules) = false → o.IsDictOf (intKind PySem.Challenge.rw_pb0305_01.row.prog w) kvs → PyProof.V.FlatPairs PyData.int kvs (kdfD c) → c.length ≤ 4096 → @Ne Nat W x → @Ne Nat W d → (∀ p ∈ rest, p.1 ≠ W) →
   0 ≤ i → i < z → (∀ t h' tk', Fr h₀ L h' m → News h₀ L h' ((W, o) :: (x, instObj 98 d) :: (d, memD w z tz t1 t2 W) :: rest) → Q (.int (byteAt (kdfLook c (i.fdiv 4) 0) (i % 4)) t) { s with heap := h', toks := tk' }) →
   wpAny (model PySem.Challenge.rw_pb0305_01.row.prog w) (ktrTop dp un gd cn cs L a ccd cl outer) (call (.ref 88) [.ref x, .int i ti]) Q E s := by
  k_fill
  intro w mean mg mb dp un gd cn cs a ccd cl outer A₀ base h₀ L m s Q E rest W x d o kvs c z tz t1 t2 i ti B F X N T hk hd hu lo hdict hflat hclen hWx hWd hWr h0 h1 hret
  w_top off
  w_strict (
    refine wpAny_call ?_
    k_dflt cell_enter
    k_steps
    rw [byte_eq]
    exact hret _ _ _ (by k_asm) (by k_asm))
set_option maxRecDepth 100000 in
set_option maxHeartbeats 8000000 in
theorem put_byte_good : ∀ (w : World) (mean : ExcName → Option Value) (mg mb : Str → Option Value) (dp un : Nat) (gd : Option (List Code)) (cn : Str) (cs : Scope) (a : Addr) (ccd : Value) (cl : List (Str × Addr)) (outer : List Env) (A₀ : Around) (base h₀ : Heap) (L : Addr) (m : Str → Option Value) (s : Shared) (Q E : Value → Shared → Prop)
   (rest : List (Addr × Obj)) (W x d : Addr) (o : Obj) (kvs : List (Int × Value)) (c : List (Int × Int)) (z : Int) (tz t1 t2 : Tok) (i v : Int) (ti tv : Tok),
   Below A₀ base outer h₀ → Fr h₀ L s.heap m → (Mine.hd0305.heap_39 w.params).In h₀ → News h₀ L s.heap ((W, o) :: (x, instObj 98 d) :: (d, memD w z tz t1 t2 W) :: rest) →
   Top Mine.hd0305.view_39 (looseW Mine.hd0305.view_39 []) mean mg mb h₀ → cs.kind = .function →
   dp + 6 < recursionLimit → un + 100 < cLine →
   (W == sysModules) = false → o.IsDictOf (intKind PySem.Challenge.rw_pb0305_01.row.prog w) kvs → PyProof.V.FlatPairs PyData.int kvs (kdfD c) → c.length ≤ 4096 → @Ne Nat W x → @Ne Nat W d → (∀ p ∈ rest, p.1 ≠ W) →
   0 ≤ i → i < z → 0 ≤ kdfLook c (i.fdiv 4) 0 → kdfLook c (i.fdiv 4) 0 < 4294967296 → (∀ h' tk' o' kvs', Fr h₀ L h' m → News h₀ L h' ((W, o') :: (x, instObj 98 d) :: (d, memD w z tz t1 t2 W) :: rest) → o'.IsDictOf (intKind PySem.Challenge.rw_pb0305_01.row.prog w) kvs' → PyProof.V.FlatPairs PyData.int kvs' (kdfD (kdfPut c (i.fdiv 4) (setByte (kdfLook c (i.fdiv 4) 0) (i % 4) v))) → Q .none { s with heap := h', toks := tk' }) →
   wpAny (model PySem.Challenge.rw_pb0305_01.row.prog w) (ktrTop dp un gd cn cs L a ccd cl outer) (call (.ref 95) [.ref x, .int i ti, .int v tv]) Q E s := by
  k_fill
  intro w mean mg mb dp un gd cn cs a ccd cl outer A₀ base h₀ L m s Q E rest W x d o kvs c z tz t1 t2 i v ti tv B F X N T hk hd hu lo hdict hflat hclen hWx hWd hWr h0 h1 hl0 hl1 hret
  w_top off
  w_strict (
    refine wpAny_call ?_
    k_dflt cell_enter
    k_steps
    exact hret _ _ _ _ (by k_asm) (by k_asm) (by assumption) (by rw [← put_eq _ v i hl0 hl1]; assumption))
end Mine
end

-- part PT1
section
open PySem PySem.W PySem.Calls PyProof.Rows
set_option Elab.async false
set_option maxRecDepth 100000
namespace Mine
abbrev excO (C : Addr) (d : Option Addr) (t : Addr) : Obj := { cls := .ref C, dict := d, data := .fields #[.ref t, .none, .none, .none, .bool false, .none] }
abbrev tupO (vs : List Value) : Obj := { cls := .type "tuple", data := .seq vs.toArray }

section
variable {prog : Program} {w : World} {A : Around} {E : Value → Shared → Prop} {s : Shared} {K : Frag} {h₀ : Heap} {L C N fI : Addr} {m : Str → Option Value} {news : List (Addr × Obj)} {rest : List Value}
variable {nm q : Str} {bs bm bmB : List Value} {hdct : Bool} {sn : List Str} {sub : List Value} {ab : Bool} {col : Option Bool} {dd : Option Addr} {k0 k1 k2 k3 k5 : Option Value} {B newId initId : String}

set_option maxHeartbeats 1000000 in
theorem call_excI {Q : Value → Shared → Prop} (F : Fr h₀ L s.heap m) (X₀ : K.In h₀) (Nw : News h₀ L s.heap news)
    (hK : K.lookup C = some (excClassObj nm q C N bs bm hdct sn sub ab col dd k0 k1 k2 k3 k5 newId)) (EF : ExcBaseFacts B newId initId bmB) (T : ∀ h, K.In h → OwnTail h bmB bm)
    (hi : findIn K (.ref C) "__init__" = some (some (.ref fI))) (hf : typeIn K (.ref fI) = some (.type "function"))
    (hrest : rest.length ≤ sizeLine)
    (h : ∀ e t h', Fr h₀ L h' m → News h₀ L h' ((e, excO C none t) :: (t, tupO rest) :: news) → (∀ p ∈ news, p.1 < t) → t < e →
      codeAny (model prog w) (A.under (.builtin "type.__call__" ⟨.ref C :: rest, []⟩)) (.call (.ref fI) ⟨.ref e :: rest, []⟩)
        (InitBack e fun r s' => match r with | .ok (.ret v) => Q v s' | .ok _ => False | .error x => E x s') { s with heap := h' }) :
    wpAny (model prog w) A (call (.ref C) rest) Q E s := by
  have X := X₀.keeps F.keep
  obtain ⟨hp, g, d, tk, os⟩ := s
  have hC : hp.get? C = some (excClassObj nm q C N bs bm hdct sn sub ab col dd k0 k1 k2 k3 k5 newId) := X _ _ hK
  have T₀ := T hp X
  have f1 := tc_lookup
  have f2 := tc_bind (.ref C)
  have hT : (⟨hp, g, d, tk, os⟩ : Shared).TypeIs (.ref C) "type" := ⟨_, hC, rfl⟩
  refine wpAny_call (codeAny_of_tree ?_)
  show wpAny _ _ (callAny (.ref C) _) _ _ _
  repeat (any_goals (first | assumption | with_reducible refine wpAny_loadPart_at hC ?_ | wp_step))
  refine ⟨rfl, ?_⟩
  refine codeAny_call_builtin_at (Code.quiet_builtin _ (by decide +kernel)) entry_typeCall (wpAny_check_type_call_sub hC ?_)
  repeat (first | with_reducible refine wpAny_loadPart_at hC ?_ | with_reducible refine wpAny_madeBy_exc hC ?_ | wp_step)
  refine codeAny_call_builtin_code (Code.quiet_builtin _ EF.quiet) (wpAny_check_new_subT EF T₀ hC ?_)
  refine codeAny_exc_new_subT EF T₀ hC ?_ hrest
  show wpAny _ _ _ _ _ _
  have k : ∀ b o, hp.get? b = some o → ((hp.push { cls := .type "tuple", data := .seq rest.toArray }).push { cls := .ref C, data := .fields #[.ref hp.objs.size, .none, .none, .none, .bool false, .none] }).get? b = some o := fun b o e => Heap.get?_push_of_some _ (Heap.get?_push_of_some _ e)
  have hC₁ := k _ _ hC
  have X₁ := X.keeps k
  have hget : ((hp.push { cls := .type "tuple", data := .seq rest.toArray }).push { cls := .ref C, data := .fields #[.ref hp.objs.size, .none, .none, .none, .bool false, .none] }).get? (hp.objs.size + 1) = some { cls := .ref C, data := .fields #[.ref hp.objs.size, .none, .none, .none, .bool false, .none] } := by heap_get
  have hcC : (Value.ref C :: bm).contains (.ref C) = true := by simp
  unfold isInstance
  repeat (first | with_reducible refine wpAny_loadPart_at hget ?_ | (with_reducible refine wpAny_isSubtype_exc hC₁ ?_; rw [hcC]) | wp_step)
  refine wpAny_isSubtype_exc hC₁ ?_
  rw [hcC]
  repeat wp_step
  show wpAny _ _ (typeLookup (.ref C) _) _ _ _
  refine (looks_findIn X₁ hi).at ?_
  refine wpAny_holding (wpAny_bind ?_)
  refine (bind_fn X₁ _ hf).at ?_
  have N₁ := (Nw.push F (tupO rest)).push (F.push _) (excO C none hp.objs.size)
  rw [Heap.size_push] at N₁
  refine wpAny_bind (wpAny_call (codeAny_mono (h (hp.objs.size + 1) hp.objs.size _ ((F.push _).push _) N₁ (fun p hp => Heap.lt_size (Nw p hp).1) (Nat.lt_succ_self _)) fun r s' z => ?_))
  rcases r with x | (v | _ | _ | _) <;> first | exact z | exact z.elim | skip
  obtain ⟨rfl, z⟩ := z
  repeat (first | exact z | wp_step)
end

end Mine
end

-- part PT2
section
open PySem PySem.W PySem.Calls PyProof.Rows PySem.Builtin PySem.Builtin.ObjectAttr
set_option Elab.async false
set_option maxRecDepth 100000
namespace Mine
section
variable {prog : Program} {w : World} {A : Around} {E : Value → Shared → Prop} {s : Shared} {K : Frag} {h₀ : Heap} {L C x dx : Addr} {m : Str → Option Value} {pre post : List (Addr × Obj)} {R : Result → Shared → Prop} {name : Str} {v : Value}

/-- storing on an object of a class whose line of classes passes the store -/
def passesIn (K : Frag) (C : Addr) : Prop := ∃ cd, clsIn K C = some cd ∧ cd.mro.isEmpty = false ∧ cd.mro.contains (.type "object") = true ∧ cd.hasDict = true ∧ ∀ self, refuseLoop self "__setattr__" cd.mro = pure ()

theorem osa_x {ox : Obj} {od : Option Obj} {tk : Tok} (X : K.In s.heap) (I : InstAt s.heap x ox C od) (hp : passesIn K C) (ha : findIn K (.ref C) name = some none)
    (h : wpAny (model prog w) A.in1 (storeInOwnDict (.ref x) (.ref C) (.str name tk) name v false)
      (fun fin s' => match fin with | .done f => R (.ok f) s' | .again c' => c'.quiet = true ∧ codeAny (model prog w) A c' R s') (fun e s' => R (.error e) s') s) :
    codeAny (model prog w) A (.call (.builtin "object.__setattr__") ⟨[.ref x, .str name tk, v], []⟩) R s := by
  have SF := PySem.F.store_object
  obtain ⟨cd, hc, ne, ob, _, pass⟩ := hp
  have sub : Looks (model prog w) s.heap (isInstance (.ref x) (.type "object")) true := I.type.andThen (looks_mroIn X (by unfold mroIn; rw [hc, Option.bind_some, if_neg (by rw [ne]; decide), ob]))
  refine codeAny_call_builtin SF.slot.plain SF.entry (@check_slot (model prog w) _ _ s "object.__setattr__" "object" "__setattr__" (.ref x) [.str name tk, v] [] _ SF.kind SF.split sub (SF.args (.ref x) (.str name tk) v) ?_)
  have hm : Looks (model prog w) s.heap (mroOf (.ref C)) cd.mro := (looks_clsIn X hc).andThen .now
  rw [osa_eq, refuse_eq]
  refine wpAny_bind (wpAny_bind (I.type.here (wpAny_bind (hm.here ?_))))
  rw [pass]
  refine wpAny_pure (wpAny_bind (I.type.here (wpAny_bind ((looks_findIn X ha).here ?_))))
  exact wpAny_bind (wpAny_pure h)

/-- the first attribute: the dict is made -/
theorem set_first {Q : Unit → Shared → Prop} {fs : Array Value} {sl : Array (Option Value)} (F : Fr h₀ L s.heap m) (X₀ : K.In h₀) (N : News h₀ L s.heap (pre ++ (x, { cls := .ref C, dict := none, data := .fields fs, slots := sl }) :: post))
    (h1 : ∀ p ∈ pre, p.1 ≠ x) (h2 : ∀ p ∈ post, p.1 ≠ x)
    (hs : findIn K (.ref C) "__setattr__" = some (some (.builtin "object.__setattr__"))) (hp : passesIn K C) (ha : findIn K (.ref C) name = some none)
    (h : ∀ d h', Fr h₀ L h' m → News h₀ L h' ((d, dictOf [⟨PyData.keyHash w.params name, .str name (s.toks + 1), v⟩] 1) :: pre ++ (x, { cls := .ref C, dict := some d, data := .fields fs, slots := sl }) :: post) → (∀ p ∈ pre ++ (x, { cls := .ref C, dict := none, data := .fields fs, slots := sl }) :: post, p.1 < d) → Q () { s with heap := h', toks := s.toks + 2 }) :
    wpAny (model prog w) A (setAttr (.ref x) name v) Q E s := by
  have X := X₀.keeps F.keep
  have hx := (N (x, { cls := .ref C, dict := none, data := .fields fs, slots := sl }) (by simp)).1
  have hltx : x < s.heap.objs.size := Heap.lt_size hx
  have I : InstAt s.heap x { cls := .ref C, dict := none, data := .fields fs, slots := sl } C none := ⟨hx, rfl, rfl, trivial⟩
  refine set_plain X I hs (osa_x (s := { s with toks := s.toks + 1 }) X I hp ha ?_)
  obtain ⟨cd, hc, _, _, hd', _⟩ := hp
  have F1 := F.push emptyDict
  have N1 := N.push F emptyDict
  have hlt : ∀ p ∈ pre ++ (x, ({ cls := .ref C, dict := none, data := .fields fs, slots := sl } : Obj)) :: post, p.1 < s.heap.objs.size := fun p hp => Heap.lt_size (N p hp).1
  obtain ⟨F2, N2⟩ := news_upd (pre := (s.heap.objs.size, emptyDict) :: pre) (f := fun o => { o with dict := some s.heap.objs.size }) F1 N1
    (fun p hp => by
      rcases List.mem_cons.mp hp with rfl | hp
      · exact Nat.ne_of_gt hltx
      · exact h1 p hp) h2 (o' := { cls := .ref C, dict := some s.heap.objs.size, data := .fields fs, slots := sl }) rfl rfl
  obtain ⟨F3, N3⟩ := news_upd (pre := []) (d := s.heap.objs.size) (o' := dictOf [⟨PyData.keyHash w.params name, .str name (s.toks + 1), v⟩] 1) (f := Obj.putName name (PyData.keyHash w.params name) (.str name (s.toks + 1)) v) F2 N2 (fun _ h => nomatch h)
    (fun p hp => by
      rcases List.mem_append.mp hp with q | q
      · exact Nat.ne_of_lt (hlt p (List.mem_append_left _ q))
      · rcases List.mem_cons.mp q with rfl | q
        · exact Nat.ne_of_lt hltx
        · exact Nat.ne_of_lt (hlt p (List.mem_append_right _ (.tail _ q)))) rfl rfl
  have D2 := (N2 (s.heap.objs.size, emptyDict) (by simp)).1
  have D3 := (N3 (s.heap.objs.size, dictOf [⟨PyData.keyHash w.params name, .str name (s.toks + 1), v⟩] 1) (by simp)).1
  refine wpAny_bind (wpAny_pure (wpAny_bind (wpAny_bind (wpAny_loadPart hx (wpAny_bind (looks_clsIn (M := model prog w) X hc _ _ _ _ (fun _ _ e => e) ?_))))))
  rw [hd']
  refine wpAny_bind (wpAny_alloc ?_)
  refine wpAny_bind (wpAny_update (N1 (x, { cls := .ref C, dict := none, data := .fields fs, slots := sl }) (by simp)).1 ?_)
  refine wpAny_pure (a := some s.heap.objs.size) ?_
  show wpAny _ _ (storeInDict s.heap.objs.size (.str name s.toks) name v) _ _ _
  unfold storeInDict newKeyGuard
  refine wpAny_bind (wpAny_pure (wpAny_bind ?_))
  unfold nsSet
  refine wpAny_bind (wpAny_bind (wpAny_askSetting (wpAny_pure (wpAny_bind (wpAny_mkText (wpAny_bind (wpAny_loadPart D2 ?_)))))))
  dsimp only
  have c : (!(#[] : Array DictEntry).any (·.key.isStr name) && (#[] : Array DictEntry).any (·.refKey)) = false := by simp
  rw [aRefKeyMayBeTheName_at, c]
  refine wpAny_updatePart D2 ?_
  refine wpAny_bind (wpAny_lookBehind D3 (pastItsLine_dict (by simp [sizeLine_eq])) ?_)
  exact wpAny_pure (h _ _ F3 N3 hlt)

/-- a further attribute -/
theorem set_more {Q : Unit → Shared → Prop} {fs : Array Value} {sl : Array (Option Value)} {news news' : List (Addr × Obj)} {es es' : List DictEntry} {n n' : Nat} (F : Fr h₀ L s.heap m) (X₀ : K.In h₀) (N : News h₀ L s.heap news)
    (hxm : (x, ({ cls := .ref C, dict := some dx, data := .fields fs, slots := sl } : Obj)) ∈ news) (hdm : (dx, dictOf es n) ∈ news)
    (hs : findIn K (.ref C) "__setattr__" = some (some (.builtin "object.__setattr__"))) (hp : passesIn K C) (ha : findIn K (.ref C) name = some none)
    (hl : (getL name es).isSome = true) (e : (putL name (PyData.keyHash w.params name) (.str name (s.toks + 1)) v es, putN name es n) = (es', n')) (U : Upd dx (dictOf es n) (dictOf es' n') news news') (hz : es'.length ≤ 1000)
    (h : ∀ h', Fr h₀ L h' m → News h₀ L h' news' → Q () { s with heap := h', toks := s.toks + 2 }) :
    wpAny (model prog w) A (setAttr (.ref x) name v) Q E s := by
  have X := X₀.keeps F.keep
  have hx := (N _ hxm).1
  have I : InstAt s.heap x { cls := .ref C, dict := some dx, data := .fields fs, slots := sl } C (some (dictOf es n)) := ⟨hx, rfl, rfl, (N _ hdm).1⟩
  refine set_plain X I hs (osa_x (s := { s with toks := s.toks + 1 }) X I hp ha ?_)
  obtain ⟨cd, hc, _, _, hd', _⟩ := hp
  obtain ⟨pre, post, rfl, rfl, a, b⟩ := U.split
  obtain ⟨e1, e2⟩ := Prod.mk.inj e
  obtain ⟨F2, N2⟩ := news_upd (o' := dictOf es' n') (f := Obj.putName name (PyData.keyHash w.params name) (.str name (s.toks + 1)) v) F N a b (by rw [putName_dict, e1, e2]) rfl
  have D := (N (dx, dictOf es n) (by simp)).1
  have D' := (N2 (dx, dictOf es' n') (by simp)).1
  refine wpAny_bind (wpAny_pure (wpAny_bind (wpAny_bind (wpAny_loadPart hx (wpAny_bind (looks_clsIn (M := model prog w) X hc _ _ _ _ (fun _ _ e => e) ?_))))))
  rw [hd']
  refine wpAny_pure (a := some dx) ?_
  show wpAny _ _ (storeInDict dx (.str name s.toks) name v) _ _ _
  unfold storeInDict newKeyGuard
  refine wpAny_bind (wpAny_pure (wpAny_bind ?_))
  unfold nsSet
  refine wpAny_bind (wpAny_bind (wpAny_askSetting (wpAny_pure (wpAny_bind (wpAny_mkText (wpAny_bind (wpAny_loadPart D ?_)))))))
  dsimp only
  have c : (!es.toArray.any (·.key.isStr name) && es.toArray.any (·.refKey)) = false := by
    rw [← Array.any_toList, ← Array.any_toList]
    unfold getL at hl
    split at hl
    · rename_i en he
      rw [List.any_eq_true.mpr ⟨en, List.mem_of_find?_eq_some he, List.find?_some he⟩]; rfl
    · split at hl
      · cases hl
      · rename_i z; rw [Bool.not_eq_true] at z; rw [z, Bool.and_false]
  rw [aRefKeyMayBeTheName_at, c]
  refine wpAny_updatePart D ?_
  refine wpAny_bind (wpAny_lookBehind D' (pastItsLine_dict (by rw [List.size_toArray, sizeLine_eq]; omega)) ?_)
  exact wpAny_pure (h _ F2 N2)
end
end Mine
end

-- part PT3
section
open PySem PySem.W PySem.Calls PyProof.Rows PySem.Builtin PySem.Builtin.ObjectAttr
set_option Elab.async false
set_option maxRecDepth 100000
namespace Mine
def OwnRaisable (K : Frag) (C : Addr) (E : Value → Shared → Prop) (v : Value) (s₁ : Shared) : Prop :=
  ∃ a ob vs, v = .ref a ∧ K.In s₁.heap ∧ s₁.heap.get? a = some ob ∧ ob.cls = .ref C ∧ ob.data = .fields vs ∧ vs[1]? = some .none ∧ E (.ref a) s₁

section
variable {M : Model} {A : Around} {E : Value → Shared → Prop} {s : Shared} {env : Env} {K : Frag} {C : Addr}
theorem raise_own {e : Expr} {pos : Pos} {Q : Flow → Shared → Prop} (hh : A.handled = none) (hb : mroIn K C (.type "BaseException") = some true) (ht : typeIn K (.ref C) = some (.type "type"))
    (h : wpAny M A (eval e env) (OwnRaisable K C E) E s) : wpAny M A (exec (.Raise (some e) none pos) env) Q E s := by
  show wpAny M A (do standAt pos; raiseStmt env (some (do let v ← eval e env; standAt pos; pure v)) none) Q E s
  refine wpAny_bind (wpAny_standAt ?_)
  unfold raiseStmt
  dsimp only
  refine wpAny_bind (wpAny_bind (wpAny_mono h (fun v s₁ h₁ => wpAny_bind (wpAny_standAt (wpAny_pure ?_))) fun _ _ x => x))
  obtain ⟨a, ob, vs, rfl, X, ha, hcls, hd, h1, hE⟩ := h₁
  have tO : Looks M s₁.heap (typeOf (.ref a)) (.ref C) := hcls ▸ (Looks.ld ha).andThen .now
  have nT : Looks M s₁.heap (isType (.ref a)) false := by
    intro A' Q' E' s' k q
    simp only [isType, loadHead]
    refine wpAny_bind (wpAny_loadPart (k _ _ ha) ?_)
    rw [hd]; exact wpAny_pure q
  have inst : Looks M s₁.heap (isInstance (.ref a) (.type "BaseException")) true := tO.andThen (looks_mroIn X hb)
  refine wpAny_bind (wpAny_pure ?_)
  dsimp only
  refine wpAny_bind (wpAny_holding ?_)
  unfold excFromValue isExcClass
  refine wpAny_bind (wpAny_bind (nT.here ?_))
  simp only [Bool.false_eq_true, if_false]
  refine wpAny_pure ?_
  simp only [Bool.false_eq_true, if_false]
  refine wpAny_bind (inst.here ?_)
  simp only [if_true]
  refine wpAny_pure ?_
  refine wpAny_bind (nT.here ?_)
  simp only [Bool.false_eq_true, if_false]
  unfold raisedInstance
  refine wpAny_bind (wpAny_bind (tO.here (wpAny_bind ((looks_typeIn X ht).here ?_))))
  rw [if_pos (by decide)]
  refine wpAny_pure ?_
  unfold setFlight raiseNew
  refine wpAny_bind (wpAny_bind (wpAny_field ha hd h1 ?_))
  rw [if_neg (by decide)]
  refine wpAny_pure (wpAny_bind (wpAny_handled ?_))
  rw [hh]
  first
    | exact wpAny_throw hE
    | exact wpAny_bind (wpAny_pure (wpAny_throw hE))
end
end Mine
end

-- part PT4
section
open PySem PySem.W PySem.Calls PyProof.Rows PySem.Builtin PySem.Builtin.ObjectAttr
set_option Elab.async false
set_option maxRecDepth 100000
namespace Mine
theorem refuse_exc (self : Value) : refuseLoop self "__setattr__" [.type "Exception", .type "BaseException", .type "object"] = pure () := by kernel_rfl
theorem passes44 (w : World) : passesIn (Mine.hd0305.heap_39 w.params) 44 := by
  refine ⟨_, rfl, rfl, rfl, rfl, fun self => ?_⟩
  show refuseLoop self "__setattr__" [.ref 44, .ref 24, .type "Exception", .type "BaseException", .type "object"] = pure ()
  rw [refuseLoop_ref, refuseLoop_ref]
  exact refuse_exc self
theorem tail44 (w : World) (h : Heap) (X : (Mine.hd0305.heap_39 w.params).In h) : OwnTail h [.type "Exception", .type "BaseException", .type "object"] [.ref 24, .type "Exception", .type "BaseException", .type "object"] := by
  have h24 := X 24 _ rfl
  have h23 := X 23 _ rfl
  refine .own h24 (mA := nsFind _) ⟨_, _, _, h23, rfl, ?_, fun _ => rfl⟩ ?_ .base
  · intro e he
    simp only [List.mem_toArray, List.mem_cons, List.not_mem_nil, or_false] at he
    rcases he with rfl | rfl | rfl | rfl | rfl <;> exact ⟨_, _, rfl⟩
  · rfl
end Mine
end

-- part PT5
section
open PySem PySem.W PySem.Calls PyProof.Rows PySem.Builtin PySem.Builtin.ObjectAttr
set_option Elab.async false
set_option maxRecDepth 100000
namespace Mine
/-- the exception e is known with its class and its dict; its traceback's head says fl -/
def TracD (h B : Heap) (e : Addr) (cls : Value) (od : Option Addr) (fl : Value) : Prop :=
  ∃ oe vs T oT ts, h.get? e = some oe ∧ oe.cls = cls ∧ oe.dict = od ∧ oe.data = .fields vs ∧ vs[1]? = some (.ref T) ∧ B.get? T = none ∧ T ≠ e ∧ h.get? T = some oT ∧ oT.data = .fields ts ∧ ts[3]? = some fl
structure InAir (B : Heap) (l : List Env) (e : Addr) (cls : Value) (od : Option Addr) (fl : Value) (h : Heap) : Prop where
  stays : B.StaysIn h
  fresh : B.get? e = none
  frames : h.FunFrames B l
  trac : TracD h B e cls od fl
theorem mapFields_dict (o : Obj) (f : Array Value → Array Value) : (o.mapFields f).dict = o.dict := by obtain ⟨c, d, dt, sl⟩ := o; cases dt <;> rfl
section
variable {M : Model} {A : Around} {E : Value → Shared → Prop} {s : Shared} {B : Heap} {env : Env} {outer : List Env} {L e : Addr} {oe : Obj} {vs : Array Value} {head : Value} {hadNext : Bool} {Q : Unit → Shared → Prop} {cls fl : Value} {od : Option Addr}

theorem entryD (hfr : A.frames = some (env :: outer)) (hl : s.heap.FunFrames B (env :: outer)) (hf : env.frame = some L) (he : s.heap.get? e = some oe) (hkb : B.StaysIn s.heap) (hen : B.get? e = none) (hd : oe.data = .fields vs) (hsz : 1 < vs.size)
    (h : ∀ h', InAir B (env :: outer) e oe.cls oe.dict (rawInt L) h' → s.heap.UpToSlots h' → Q () { s with heap := h' }) :
    wpAny M A (do let a ← frameOf env; let pl ← entryPlaceOf L hadNext; let b ← EntryCells.newEntry head a .none (rawInt L) .none pl; setField (.ref e) 1 b) Q E s := by
  have hne : ∀ b ∈ (env :: outer).filterMap (·.frame), b ≠ e := fun b hm q => by
    obtain ⟨_, o, ho, hnf⟩ := hl.mem hm
    rw [q, he] at ho; cases ho; exact hnf vs hd
  refine wpAny_bind (wpAny_frameOf_fun hfr hl hf fun h₁ ⟨_, s2, s3⟩ => ?_)
  refine wpAny_bind (wpAny_entryPlaceOf fun pl hpl => ?_)
  unfold EntryCells.newEntry newFields
  refine wpAny_bind (wpAny_newObj_type ?_ (hpl.sizeOk5 _ _ _ _ _))
  generalize hts : ([head, .ref L, .none, rawInt L, .none] ++ (if pl.isEmpty then List.replicate 6 Value.none else pl)).toArray = ts
  have ht3 : ts[3]? = some (rawInt L) := by rw [← hts]; simp
  have e1 : h₁.get? e = some oe := (s2 e fun hm => hne e hm rfl).trans he
  have k1 : B.StaysIn h₁ := fun b o q => (s2 b fun hm => by rw [(hl.mem hm).1] at q; cases q).trans (hkb b o q)
  have hTe : h₁.objs.size ≠ e := Nat.ne_of_gt (Heap.lt_size e1)
  have e2 : (h₁.push { cls := .type "traceback", dict := none, data := .fields ts }).get? e = some oe := Heap.get?_push_of_some _ e1
  refine wpAny_setField e2 hd hsz ?_
  have dm := Obj.data_mapFields hd (·.setIfInBounds 1 (Value.ref h₁.objs.size))
  have e3 := Heap.get?_update_self (Obj.mapFields (·.setIfInBounds 1 (Value.ref h₁.objs.size))) e2 (Obj.isFreed_of_fields dm)
  have T3 := (Heap.get?_update_other (h₁.push { cls := .type "traceback", dict := none, data := .fields ts }) (Obj.mapFields (·.setIfInBounds 1 (Value.ref h₁.objs.size))) (Ne.symm hTe)).trans (Heap.get?_push_size h₁ rfl)
  have keep : ∀ b o, b ≠ e → h₁.get? b = some o → ((h₁.push { cls := .type "traceback", dict := none, data := .fields ts }).update e (Obj.mapFields (·.setIfInBounds 1 (Value.ref h₁.objs.size)))).get? b = some o := fun b o q z =>
    (Heap.get?_update_other _ _ (Ne.symm q)).trans (Heap.get?_push_of_some _ z)
  have noE : ∀ b o, s.heap.get? b = some o → (∀ ws, o.data ≠ .fields ws) → b ≠ e := fun b o z nf q => by rw [q, he] at z; cases z; exact nf vs hd
  have up : s.heap.UpToSlots ((h₁.push { cls := .type "traceback", dict := none, data := .fields ts }).update e (Obj.mapFields (·.setIfInBounds 1 (Value.ref h₁.objs.size)))) := fun b o z nf => by
    obtain ⟨sl, q⟩ := s3 b o z
    exact ⟨sl, keep b _ (noE b o z nf) q⟩
  refine h _ ⟨fun b o q => keep b o (fun z => by rw [z, hen] at q; cases q) (k1 b o q), hen, hl.of_keeps fun b o z nf => ?_, ?_⟩ up
  · obtain ⟨sl, q⟩ := up b o z nf
    exact ⟨_, q, rfl⟩
  · exact ⟨_, _, _, _, _, e3, Obj.cls_mapFields _ _, mapFields_dict _ _, dm, by simp [hsz], k1.fresh, hTe, T3, rfl, ht3⟩

theorem landD (hh : InAir B (env :: outer) e cls od fl s.heap) (hQ : ∀ h', InAir B (env :: outer) e cls od .none h' → s.heap.UpToSlots h' → Q () { s with heap := h' }) : wpAny M A (setFlight (.ref e) none) Q E s := by
  obtain ⟨f1, f2, f3, oe, ws, T, oT, ts, he, hc, hdd, hd, h1, hnT, hTe, hT, hdT, h3⟩ := hh
  have hsz : 3 < ts.size := (Array.getElem?_eq_some_iff.mp h3).1
  have other : ∀ b, b ≠ T → (s.heap.update T (Obj.mapFields (·.setIfInBounds 3 ((none : Option Addr).elim Value.none fun f => rawInt f)))).get? b = s.heap.get? b := fun b q => Heap.get?_update_other _ _ (Ne.symm q)
  have noT : ∀ b o, s.heap.get? b = some o → (∀ us, o.data ≠ .fields us) → b ≠ T := fun b o z nf q => by rw [q, hT] at z; cases z; exact nf ts hdT
  unfold setFlight
  refine wpAny_bind (wpAny_field he hd h1 ?_)
  rw [if_pos (show (Value.ref T != Value.none) = true from by simp)]
  refine wpAny_setField hT hdT hsz (hQ _ ⟨fun b o q => (other b fun z => by rw [z, hnT] at q; cases q).trans (f1 b o q), f2, f3.of_keeps fun b o z nf => ⟨o, (other b (noT b o z nf)).trans z, rfl⟩, ?_⟩ fun b o z nf => ⟨o.slots, (other b (noT b o z nf)).trans z⟩)
  exact ⟨oe, ws, T, _, _, (other e (Ne.symm hTe)).trans he, hc, hdd, hd, h1, hnT, hTe, Heap.get?_update_self _ hT (Obj.isFreed_of_fields (Obj.data_mapFields hdT _)), Obj.data_mapFields hdT _, by simp [hsz]⟩

theorem note_firstD (hfr : A.frames = some (env :: outer)) (hl : s.heap.FunFrames B (env :: outer)) (hf : env.frame = some L) (he : s.heap.get? e = some oe) (hkb : B.StaysIn s.heap) (hen : B.get? e = none) (hd : oe.data = .fields vs) (h1 : vs[1]? = some .none)
    (h : ∀ h', InAir B (env :: outer) e oe.cls oe.dict (rawInt L) h' → s.heap.UpToSlots h' → Q () { s with heap := h' }) : wpAny M A (noteFrame (.ref e) env) Q E s := by
  unfold noteFrame
  simp only [hf]
  refine wpAny_bind (wpAny_field he hd h1 ?_)
  rw [if_neg (by decide)]
  exact entryD hfr hl hf he hkb hen hd (Array.getElem?_eq_some_iff.mp h1).1 h

theorem note_onD (hfr : A.frames = some (env :: outer)) (hf : env.frame = some L) (hh : InAir B (env :: outer) e cls od .none s.heap)
    (h : ∀ h', InAir B (env :: outer) e cls od (rawInt L) h' → s.heap.UpToSlots h' → Q () { s with heap := h' }) : wpAny M A (noteFrame (.ref e) env) Q E s := by
  obtain ⟨f1, f2, f3, oe, ws, T, oT, ts, he, hc, hdd, hd, h1, hnT, hTe, hT, hdT, h3⟩ := hh
  subst hc hdd
  unfold noteFrame
  simp only [hf]
  refine wpAny_bind (wpAny_field he hd h1 ?_)
  rw [if_pos (show (Value.ref T != Value.none) = true from by simp)]
  refine wpAny_bind (wpAny_field hT hdT h3 ?_)
  rw [if_neg (show ¬ ((Value.none == rawInt L) = true) from by simp [rawInt])]
  refine wpAny_bind (wpAny_setField hT hdT (Array.getElem?_eq_some_iff.mp h3).1 ?_)
  have other : ∀ b, b ≠ T → (s.heap.update T (Obj.mapFields (·.setIfInBounds 3 Value.none))).get? b = s.heap.get? b := fun b q => Heap.get?_update_other _ _ (Ne.symm q)
  have noT : ∀ b o, s.heap.get? b = some o → (∀ us, o.data ≠ .fields us) → b ≠ T := fun b o z nf q => by rw [q, hT] at z; cases z; exact nf ts hdT
  refine entryD (s := { s with heap := s.heap.update T (Obj.mapFields (·.setIfInBounds 3 Value.none)) }) hfr (f3.of_keeps fun b o z nf => ⟨o, (other b (noT b o z nf)).trans z, rfl⟩) hf ((other e (Ne.symm hTe)).trans he)
    (fun b o q => (other b fun z => by rw [z, hnT] at q; cases q).trans (f1 b o q)) f2 hd (Array.getElem?_eq_some_iff.mp h1).1 fun h' a b => h h' a fun x o z nf => b x o ((other x (noT x o z nf)).trans z) nf
end
end Mine
end

-- part PT6
section
open PySem PySem.W PySem.Calls PyProof.Rows PySem.Builtin PySem.Builtin.ObjectAttr
set_option Elab.async false
set_option maxRecDepth 100000
namespace Mine
theorem InAir.drop {B h : Heap} {env : Env} {l : List Env} {e : Addr} {cls fl : Value} {od : Option Addr} (x : InAir B (env :: l) e cls od fl h) : InAir B l e cls od fl h := by
  obtain ⟨a, b, ⟨_, _, c⟩, d⟩ := x
  exact ⟨a, b, c, d⟩
def RaisedD (base G : Heap) (l : List Env) (e : Addr) (cls : Value) (od : Option Addr) (news : List (Addr × Obj)) (h : Heap) : Prop :=
  ∃ B, base.StaysIn B ∧ (∀ b o, G.get? b = some o → b ∉ l.filterMap (·.frame) → B.get? b = some o) ∧ (∀ q ∈ news, B.get? q.1 = some q.2 ∧ G.get? q.1 = none ∧ base.get? q.1 = none) ∧ InAir B l e cls od .none h

section
variable {M : Model} {A : Around} {E : Value → Shared → Prop} {s' : Shared} {base g g₂ : Heap} {outer : List Env} {L a e : Addr} {m : Str → Option Value} {name : Str} {scope : Scope} {cd : Value} {Q : Unit → Shared → Prop} {news : List (Addr × Obj)} {oe : Obj} {vs : Array Value}

theorem leave_raiseD (K : Below A base outer g) (F : Fr g L s'.heap m) (N : News g L s'.heap ((e, oe) :: news)) (hne : ∀ q ∈ news, q.1 ≠ e) (hd : oe.data = .fields vs) (h1 : vs[1]? = some .none)
    (hQ : ∀ h', RaisedD base g outer e oe.cls oe.dict news h' → g.UpToSlots h' → Q () { s' with heap := h' }) (hk : scope.kind = .function := by rfl) :
    wpAny M (A.deeper (envOf name scope L a cd)) (leaving (envOf name scope L a cd) (.ref e)) Q E s' := by
  have K' := K.push (name := name) (a := a) (cd := cd) F hk
  have hen := N _ (.head _)
  have fb : ∀ b, g.get? b = none → base.get? b = none := fun b q => fresh_of_stays K.stays q
  have inF : ∀ env ∈ (envOf name scope L a cd :: outer), ∀ b, env.frame = some b → b ∈ e :: (envOf name scope L a cd :: outer).filterMap (·.frame) := fun env he b hb => .tail _ (List.mem_filterMap.mpr ⟨env, he, hb⟩)
  have st : base.StaysIn (hideAll s'.heap (e :: (envOf name scope L a cd :: outer).filterMap (·.frame))) := fun b o q => hideAll_get _ (K'.stays b o q) fun hm => by
    rcases List.mem_cons.mp hm with rfl | hm
    · rw [fb _ hen.2.2] at q; cases q
    · rw [(K'.frames.mem hm).1] at q; cases q
  have sg : ∀ b o, g.get? b = some o → b ∉ outer.filterMap (·.frame) → (hideAll s'.heap (e :: (envOf name scope L a cd :: outer).filterMap (·.frame))).get? b = some o := fun b o q nm => hideAll_get _ (F.keep b o q) fun hm => by
    rcases List.mem_cons.mp hm with rfl | hm
    · have := hen.2.2; simp only at this; rw [this] at q; cases q
    · rcases kts_mem hm with z | z
      · rw [z, kts_self F] at q; cases q
      · exact nm z
  have hl : ∀ q ∈ news, (hideAll s'.heap (e :: (envOf name scope L a cd :: outer).filterMap (·.frame))).get? q.1 = some q.2 ∧ g.get? q.1 = none ∧ base.get? q.1 = none := fun q hq => by
    have z := N q (.tail _ hq)
    refine ⟨hideAll_get _ z.1 fun hm => ?_, z.2.2, fb _ z.2.2⟩
    rcases List.mem_cons.mp hm with y | hm
    · exact hne q hq y
    · rcases kts_mem hm with y | y
      · exact z.2.1 y
      · obtain ⟨_, o, ho, _⟩ := K.frames.mem y
        rw [z.2.2] at ho; cases ho
  unfold leaving
  refine wpAny_bind (note_firstD K'.stack (funFrames_hide K'.frames inF) rfl hen.1 (fun b o q => of_hideAll _ q) (hideAll_none _ (.head _)) hd h1 fun h₁ x₁ u₁ => ?_)
  refine landD x₁ fun h₂ x₂ u₂ => ?_
  exact hQ h₂ ⟨_, st, sg, hl, x₂.drop⟩ (((Heap.UpToSlots.of_keeps F.keep).trans u₁).trans u₂)

theorem leave_onD {cls : Value} {od : Option Addr} (K : Below A base outer g) (F : Fr g L g₂ m) (R : RaisedD base g₂ (envOf name scope L a cd :: outer) e cls od news s'.heap) (hsm : g₂.UpToSlots s'.heap)
    (hQ : ∀ h', RaisedD base g outer e cls od news h' → g.UpToSlots h' → Q () { s' with heap := h' }) :
    wpAny M (A.deeper (envOf name scope L a cd)) (leaving (envOf name scope L a cd) (.ref e)) Q E s' := by
  obtain ⟨B, hB, hBG, hl, hfl⟩ := R
  unfold leaving
  refine wpAny_bind (note_onD (Around.frames_deeper K.stack) rfl hfl fun h₁ x₁ u₁ => ?_)
  refine landD x₁ fun h₂ x₂ u₂ => ?_
  refine hQ h₂ ⟨B, hB, fun b o q nm => hBG b o (F.keep b o q) (fun hm => ?_), fun q hq => ⟨(hl q hq).1, kts_none F.keep (hl q hq).2.1, (hl q hq).2.2⟩, x₂.drop⟩ ((Heap.UpToSlots.of_keeps F.keep).trans (hsm.trans (u₁.trans u₂)))
  rcases kts_mem hm with z | z
  · rw [z, kts_self F] at q; cases q
  · exact nm z
end
end Mine
end

-- part PT7
section
open PySem PySem.W PySem.Calls PyProof.Rows PySem.Builtin PySem.Builtin.ObjectAttr
set_option Elab.async false
set_option maxRecDepth 100000
namespace Mine
section
variable {prog : Program} {w : World} {A₀ A : Around} {E : Value → Shared → Prop} {s s' : Shared} {base g g₀ G h₀ : Heap} {outer : List Env} {L a e C : Addr} {m : Str → Option Value} {name : Str} {scope : Scope} {cd : Value}
  {n : Str} {b₀ : Stmt} {suite : List Stmt} {pos np : Pos} {rest : List ExceptHandler} {Q : Flow → Shared → Prop} {news : List (Addr × Obj)} {KF : Frag}
  {p : Program} {loose : List Str} {mean : ExcName → Option Value} {mg mb : Str → Option Value} {x : Str} {od : Option Addr}

theorem caught_D (R : RaisedD base G (envOf name scope L a cd :: outer) e (.ref C) od news s'.heap) (F : Fr g L G m) (K : Below A₀ base outer g) (hsm : G.UpToSlots s'.heap) (XB : KF.In base) (TB : Top p loose mean mg mb base)
    (D : KtsDicts (outer.filterMap (·.frame)) g) (T0 : KtsTurn (outer.filterMap (·.frame)) g₀ g)
    (ex : nsIn KF mainGlobals x = some (some (.ref C))) (q : ktsIn KF C "BaseException" = true)
    (k : ∀ h' g' oe ws tk, KtsTurn (outer.filterMap (·.frame)) g₀ g' → Fr g' L h' (fun y => if y = n then some (.ref e) else m y) → News g' L h' ((e, oe) :: news) → oe.cls = .ref C → oe.dict = od → oe.data = .fields ws → Below A₀ base outer g' → KF.In g' → Top p loose mean mg mb g' → KtsDicts (outer.filterMap (·.frame)) g' →
      wpAny (model prog w) ((A₀.deeper (envOf name scope L a cd)).mark (some (.ref e))) (execs (b₀ :: suite) (envOf name scope L a cd))
        (fun f s₄ => wpAny (model prog w) (A₀.deeper (envOf name scope L a cd)) (do bindName (envOf name scope L a cd) n .none; unbindBehindTheSuite (envOf name scope L a cd) n pos) (fun _ s₅ => Q f s₅) E s₄)
        (AsSuiteRaised (model prog w) ((A₀.deeper (envOf name scope L a cd)).mark (some (.ref e))) (envOf name scope L a cd) n pos (notedBy (model prog w) ((A₀.deeper (envOf name scope L a cd)).mark (some (.ref e))) (envOf name scope L a cd) (cameBackBy (model prog w) (A₀.deeper (envOf name scope L a cd)) (envOf name scope L a cd) E)))
        { s' with heap := h', toks := tk })
    (hk : scope.kind = .function := by rfl) (hlo : (envOf name scope L a cd).kindOf n = some .local := by rfl) (hx : (envOf name scope L a cd).kindOf x = some .globalImplicit := by rfl) (hd : (x == ("__debug__" : Str)) = false := by decide) :
    wpAny (model prog w) (A₀.deeper (envOf name scope L a cd)) (noteFrame (.ref e) (envOf name scope L a cd))
      (fun _ s₂ => wpAny (model prog w) (A₀.deeper (envOf name scope L a cd)) (setFlight (.ref e) none) (fun _ s₃ =>
        wpAny (model prog w) (A₀.deeper (envOf name scope L a cd)) (handleBy (.ref e) (envOf name scope L a cd) (.ExceptHandler (some (.Name x np)) (some n) (b₀ :: suite) pos :: rest)) Q E s₃) E s₂) E s' := by
  obtain ⟨B, hB, hBG, hl, hfl⟩ := R
  have hL : B.get? L = none := by
    obtain ⟨_, ⟨L', _, hf, hn', _⟩, _⟩ := hfl.frames
    obtain rfl : L = L' := Option.some.inj hf
    exact hn'
  refine note_onD (Around.frames_deeper K.stack) rfl hfl fun h₄ a₄ u₄ => ?_
  refine landD a₄ fun h₅ a₅ u₅ => ?_
  have v₅ := u₄.trans u₅
  obtain ⟨g₅, T₅, F₅, K₅⟩ := kts_ground K F hBG a₅.stays (hsm.trans v₅)
  have X₅ : KF.In g₅ := XB.keeps K₅.stays
  have P₅ : TopRead p loose mg mb g₅ := topRead_of (TB.keeps K₅.stays)
  obtain ⟨ob, _, _, _, _, hob, hobc, _⟩ := id a₅.trac
  obtain ⟨nm, q', N, bs, bm, hdct, sn, sub, ab, col, dd, k0, k1, k2, k3, k5, newId, hC, hbase, hbT⟩ := kts_cls X₅ q
  have hC₅ := F₅.keep _ _ hC
  refine wpAny_handleBy_cons (codeAny_handlers_test (name_K F₅ X₅ P₅ ex ?_ hk hx hd)) (by intro q; cases q)
  refine wpAny_excMatches_sub_self hC₅ hob hobc hbase (codeAny_handlers_suite_as ?_)
  refine landD a₅ fun h₆ a₆ u₆ => ?_
  obtain ⟨g₆, T₆, F₆, K₆⟩ := kts_ground K F hBG a₆.stays ((hsm.trans v₅).trans u₆)
  obtain ⟨oe, ws, _, _, _, hoe, hoec, hoedd, hoed, _⟩ := id a₆.trac
  have ne₆ : g₆.get? e = none := T₆.none_ _ (kts_fresh F hBG a₆.fresh fun o ho mm => by
    obtain ⟨_, o', ho', hd⟩ := K.frames.mem mm
    rw [ho] at ho'
    cases ho'
    obtain ⟨sl, hs⟩ := ((hsm.trans v₅).trans u₆) _ _ (F.keep _ _ ho) hd
    rw [hoe] at hs
    cases hs
    exact hd _ hoed)
  have N₆ := News.more F₆ News.nil hoe (fun es n q => by rw [hoed] at q; cases q) ne₆
  have Nl : News g₆ L h₆ news := fun q hq => ⟨a₆.stays _ _ (hl q hq).1, (fun z => by have := (hl q hq).1; rw [z, hL] at this; cases this), T₆.none_ _ (kts_none F.keep (hl q hq).2.1)⟩
  refine stN F₆ (news := (e, oe) :: news) (fun q hq => (List.mem_cons.mp hq).elim (fun z => N₆ q (z ▸ .head _)) (Nl q)) (fun h₇ F₇ N₇ => ?_) hk hlo
  exact k h₇ g₆ oe ws _ (T0.trans T₆) F₇ N₇ hoec hoedd hoed K₆ (XB.keeps K₆.stays) (TB.keeps K₆.stays) (D.turn T₆)
end
end Mine
end

-- part PT8
section
open PySem PySem.W PySem.Calls PyProof.Rows PySem.Builtin PySem.Builtin.ObjectAttr
set_option Elab.async false
set_option maxRecDepth 100000
namespace Mine
section
variable {prog : Program} {w : World} {A₀ A : Around} {s : Shared} {base h₀ : Heap} {L : Addr} {m : Str → Option Value} {env : Env} {news : List (Addr × Obj)} {K : Frag} {p : Program} {loose : List Str} {mean : ExcName → Option Value} {mg mb : Str → Option Value}
    {R : Result → Shared → Prop} {name qual : Str} {params : Arguments} {body : List Stmt} {scope : Scope} {dV kV doc pm cdv ct oc : Value} {an od : Option Addr} {osl : Array (Option Value)} {f : Addr} {args : Args} {binds : List (Str × Value)}

theorem code_defX (B : Below A₀ base [] h₀) (F : Fr h₀ L s.heap m) (X₀ : K.In h₀) (N : News h₀ L s.heap news) (T : Top p loose mean mg mb h₀) (hA : A.frames = some [env]) (hf : env.frame = some L) (hke : env.scope.kind = .function)
    (ho : K.lookup f = some ⟨oc, od, .func (fnOf name qual params body scope dV kV doc pm an cdv ct), osl⟩) (hcd : codeIn K cdv qual = true) (hroom : A.depth < recursionLimit)
    (hbind : BindsTo s (fnOf name qual params body scope dV kV doc pm an cdv ct) args binds) (hloc : ∀ y ∈ binds, scope.names.lookup y.1 = some .local)
    (h : ∀ g L' h₁, Fr h₀ L g m → Fr g L' h₁ (fun y => binds.reverse.lookup y) → News g L' h₁ news → Below A base [env] g → K.In g → Top p loose mean mg mb g → KtsDicts ([env].filterMap (·.frame)) g →
      wpAny (model prog w) (A.deeper (envOf qual scope L' f cdv)) (execs body (envOf qual scope L' f cdv))
        (fun fl s' => LeaveS0 ([env].filterMap (·.frame)) h₀ L m g R (match fl with | .ret v => v | _ => .none) s')
        (fun e s' => wpAny (model prog w) (A.deeper (envOf qual scope L' f cdv)) (leaving (envOf qual scope L' f cdv) e) (fun _ s'' => R (.error e) s'') (fun e' s'' => R (.error e') s'') s')
        { s with heap := h₁, toks := s.toks + binds.length })
    (hco : scope.isCoroutine = false) (hgen : scope.isGenerator = false) (hk : scope.kind = .function)
    (hcell : ∀ x ∈ scope.names, x.2 ≠ .cell) : codeAny (model prog w) A (.call (.ref f) args) R s := by
  have X := X₀.keeps F.keep
  obtain ⟨FG, BG, st, -⟩ := groundX (R := R) B F N hA hf hke
  obtain ⟨oL, es, ep, hLg, hLd, hLk, hLf⟩ := id FG.ns
  have only : ∀ b, b ∈ [env].filterMap (·.frame) → b = L := fun b hb => by
    obtain ⟨e', he, q⟩ := List.mem_filterMap.mp hb
    rcases List.mem_cons.mp he with rfl | he
    · exact Option.some.inj (q.symm.trans hf)
    · cases he
  have nL₀ : h₀.get? L = none := kts_self F
  refine codeAny_call_def (fd := fnOf name qual params body scope dV kV doc pm an cdv ct) (body := body) (binds := binds) hroom (X _ _ ho) rfl (T.nolimit.keeps F.keep) (codeRec_of X hcd) rfl hbind hcell hloc (fun h₁ hns hk₁ => ?_) hco hgen hk
  refine wpAny_mono (h _ s.heap.objs.size h₁ FG ⟨hns, fun b o e => hk₁ b o (of_hideAll _ e), Nat.le_of_eq (hideAll_size _ _)⟩
    (fun p hp => ⟨hk₁ _ _ (N p hp).1, Nat.ne_of_lt (Heap.lt_size (N p hp).1), hideAll_none _ (List.mem_map_of_mem hp)⟩) BG (X₀.keeps st) (T.keeps st) (fun b hb => by
      obtain rfl := only b hb
      exact ⟨oL, es, ep, hLg, hLd⟩)) (fun fl s' hl => ?_) fun _ _ y => y
  obtain ⟨g', L', m', news', T', F', N', k⟩ := hl
  obtain ⟨sl, hs⟩ := T'.up hLg
  refine k ⟨⟨_, es, ep, F'.keep _ _ hs, hLd, hLk, hLf⟩, fun b o e => F'.keep b o (T'.other b o (st b o e) (fun q => ?_)), F.above⟩ fun p hp => ⟨(N' p hp).1, fun q => ?_, ?_⟩
  · rw [only b q, nL₀] at e; cases e
  · have := (N' p hp).2.2; rw [q, hs] at this; cases this
  · cases q : h₀.get? p.1 with
    | none => rfl
    | some o =>
      obtain ⟨sl', hs'⟩ := T'.up (st _ _ q)
      have := (N' p hp).2.2
      rw [hs'] at this; cases this
end
end Mine
end

-- part PT9
section
open PySem PySem.W PySem.Calls PyProof.Rows PySem.Builtin PySem.Builtin.ObjectAttr
set_option Elab.async false
set_option maxRecDepth 100000
namespace Mine
theorem bga_kind : builtinKind "BaseException.__getattribute__" = some .slot := by decide +kernel
theorem bga_split : splitId "BaseException.__getattribute__" = some ("BaseException", "__getattribute__") := by decide +kernel
theorem bga_slot : Slot "BaseException" "__getattribute__" "BaseException.__getattribute__" :=
  Slot.of (owner := "BaseException") (n := "__getattribute__") (by rw [typeLookup_type, builtinLookup_eq_fast]; kernel_rfl) (by decide +kernel) (by decide +kernel) (by decide +kernel) (.inl (by decide +kernel)) (by rw [isSubtype_type]; kernel_rfl)
section
variable {prog : Program} {w : World} {A : Around} {E : Value → Shared → Prop} {s : Shared} {K : Frag} {x C : Addr} {ox : Obj} {od : Option Obj} {name : Str} {expr : Bool} {v : Value} {Q : Value → Shared → Prop}
theorem get_exc (X : K.In s.heap) (I : InstAt s.heap x ox C od) (hga : findIn K (.ref C) "__getattribute__" = some (some (.builtin "BaseException.__getattribute__"))) (hgx : findIn K (.ref C) "__getattr__" = some none)
    (hb : mroIn K C (.type "BaseException") = some true) (hf : findObj K C od name = some (.value v)) (hh : handedIn v = true) (h : Q v { s with toks := s.toks + 1 }) : wpAny (model prog w) A (getAttr (.ref x) name expr) Q E s := by
  obtain ⟨hp, g, d, t, os⟩ := s
  have L0 := I.type (M := model prog w)
  have L1 := looks_findIn (M := model prog w) X hga
  have L2 := looks_findIn (M := model prog w) X hgx
  have L3 := looks_find (M := model prog w) X I hf
  have L4 : Looks (model prog w) hp (isInstance (.ref x) (.type "BaseException")) true := L0.andThen (looks_mroIn X hb)
  unfold getAttr getAttrBy
  refine wpAny_bind (wpAny_mkText (wpAny_holding (wpAny_bind (L0.at (wpAny_bind (L1.at ?_))))))
  dsimp only
  rw [show (Value.builtin "BaseException.__getattribute__" == Value.builtin "object.__getattribute__") = false by decide +kernel, Bool.and_false, if_neg (by decide)]
  unfold getAttrByItsOwn hookBefore
  refine wpAny_bind (L2.at ?_)
  refine wpAny_bind (wpAny_attempt (wpAny_holding ?_))
  unfold callGetattribute
  rw [show (expr && onTheHeap (Value.builtin "BaseException.__getattribute__")) = false by cases expr <;> rfl, if_neg (by decide)]
  unfold boundAndCalled
  rw [bga_slot.bind]
  refine wpAny_bind (wpAny_pure (wpAny_call (codeAny_call_builtin bga_slot.plain F.entry_bexc_ga (@check_slot (model prog w) _ _ _ "BaseException.__getattribute__" "BaseException" "__getattribute__" (.ref x) [.str name t] [] _ bga_kind bga_split L4 (F.args_bexc_ga (.ref x) (.str name t)) ?_))))
  unfold Builtin.«object.__getattribute__»
  refine wpAny_bind (wpAny_pure (wpAny_bind (wpAny_pure (wpAny_bind (L0.at (wpAny_bind (L3.at ?_)))))))
  refine wpAny_pure ?_
  show wpAny _ _ (handedOut v) _ _ _
  rw [handedOut_of hh]; exact wpAny_pure h
end
end Mine
end

-- part PU2
section
open PySem PySem.W PySem.Calls PyProof.Rows PySem.Builtin PySem.Builtin.ObjectAttr
set_option Elab.async false
set_option maxRecDepth 100000
namespace Mine
theorem allNe_lt {a b : Addr} {l : List (Addr × Obj)} (h : AllLt a l) (q : @LE.le Nat _ a b) : ∀ p ∈ l, p.1 ≠ b := by
  induction l with
  | nil => intro p hp; cases hp
  | cons x r ih =>
    intro p hp
    rcases List.mem_cons.mp hp with rfl | hp
    · exact Nat.ne_of_lt (Nat.lt_of_lt_of_le h.1 q)
    · exact ih h.2 p hp
section
variable {M : Model} {prog : Program} {w : World} {A : Around} {E : Value → Shared → Prop} {s s' : Shared} {K : Frag} {base g g₂ h₀ : Heap} {outer : List Env} {L a e d t x C : Addr} {m : Str → Option Value} {name : Str} {scope : Scope} {cd : Value} {news : List (Addr × Obj)} {oe D tp : Obj} {vs : Array Value}
theorem leave_raiseD3 {Q : Unit → Shared → Prop} (K : Below A base outer g) (F : Fr g L s'.heap m) (N : News g L s'.heap ((d, D) :: (e, excO C (some x) t) :: (t, tp) :: news)) (hde : @Ne Nat d e) (hne : ∀ q ∈ news, q.1 ≠ e)
    (hQ : ∀ h', RaisedD base g outer e (.ref C) (some x) ((d, D) :: news) h' → g.UpToSlots h' → Q () { s' with heap := h' }) (hk : scope.kind = .function) :
    wpAny M (A.deeper (envOf name scope L a cd)) (leaving (envOf name scope L a cd) (.ref e)) Q E s' := by
  refine leave_raiseD K F (news := (d, D) :: news) (oe := excO C (some x) t) (fun p hp => N p ?_) (fun q hq => ?_) rfl rfl hQ hk
  · rcases List.mem_cons.mp hp with rfl | hp
    · exact .tail _ (.head _)
    · rcases List.mem_cons.mp hp with rfl | hp
      · exact .head _
      · exact .tail _ (.tail _ (.tail _ hp))
  · rcases List.mem_cons.mp hq with rfl | hq
    · exact hde
    · exact hne q hq
theorem raise_ownX {env : Env} {e : Expr} {pos : Pos} {Q : Flow → Shared → Prop} (_X₀ : K.In h₀) (hh : A.handled = none) (hb : mroIn K C (.type "BaseException") = some true) (ht : typeIn K (.ref C) = some (.type "type"))
    (h : wpAny M A (eval e env) (OwnRaisable K C E) E s) : wpAny M A (exec (.Raise (some e) none pos) env) Q E s := raise_own hh hb ht h
theorem ownRaisable_of {dx : Option Addr} (X : K.In s.heap) (N : News g L s.heap news) (hm : (e, excO C dx t) ∈ news) (h : E (.ref e) s) : OwnRaisable K C E (.ref e) s :=
  ⟨e, _, _, rfl, X, (N _ hm).1, rfl, rfl, rfl, h⟩
theorem instAt_exc {h : Heap} {ws : Array Value} (N : News g L h ((e, oe) :: (d, D) :: news)) (hc : oe.cls = .ref C) (hd : oe.dict = some d) (hf : oe.data = .fields ws) : InstAt h e oe C (some D) := by
  refine ⟨(N _ (.head _)).1, hc, ?_, ?_⟩
  · unfold notCls; rw [hf]
  · rw [hd]; exact (N _ (.tail _ (.head _))).1
theorem get_excK {Q : Value → Shared → Prop} {expr : Bool} {v : Value} {es : List DictEntry} {n : Nat} {ox : Obj} (F : Fr h₀ L s.heap m) (X₀ : K.In h₀) (I : InstAt s.heap x ox C (some (dictOf es n)))
    (hga : findIn K (.ref C) "__getattribute__" = some (some (.builtin "BaseException.__getattribute__"))) (hgx : findIn K (.ref C) "__getattr__" = some none)
    (hb : mroIn K C (.type "BaseException") = some true) (hh : hasDictIn K C = true) (ha : findIn K (.ref C) name = some none) (hl : getL name es = some (some v)) (hv : handedIn v = true)
    (h : Q v { s with toks := s.toks + 1 }) : wpAny (model prog w) A (getAttr (.ref x) name expr) Q E s :=
  get_exc (X₀.keeps F.keep) I hga hgx hb (findObj_own hh ha rfl hl) hv h
end
local macro_rules | `(tactic| k_all) => `(tactic| first | assumption | exact allNe_lt (by assumption) (by omega))
local macro_rules | `(tactic| units_room) => `(tactic| ((simp only [units_under_make, units_in1, units_deeper, Around.mark_units, units_caller]); (try dsimp only [ktrTop]); omega))
local macro_rules | `(tactic| k_enter) => `(tactic| cell_enter)
local macro_rules | `(tactic| k_room) => `(tactic| ktr_room)
local macro_rules | `(tactic| ktr_unf) => `(tactic| (refine' code_defX ?k1 ?k2 ?k3 ?k4 ?k5 ?kA ?kF ?kK ?k6 ?k7 ?k8 ?k9 ?kB ?_ ?c2 ?c3 ?c4 ?c5; (case kA => exact rfl); (case kF => exact rfl); (case kK => assumption); (case k1 => k_asm); (case k2 => k_asm); (case k3 => k_asm); (case k4 => k_asm); (case k5 => k_asm); (case k6 => k_is); (case k7 => k_is); (case k8 => ktr_room); (case k9 => exact BindsTo.of_eq rfl); (case c5 => decide); (case kB => exact locs rfl); (case c2 => exact rfl); (case c3 => exact rfl); (case c4 => exact rfl); k_whole; intro g' L' h' FG' F' N' B' X' T' D'; (try dsimp only); (try k_lift B'); (try k_fold)))
local macro_rules | `(tactic| walk_at "exec Raise some none") => `(tactic| (k_here; k_dflt (refine' raise_ownX (C := 44) ?X ?hh ?hb ?ht ?_; (case X => k_asm); (case hh => exact rfl); (case hb => k_is); (case ht => k_is))))
local macro_rules | `(tactic| walk_at "call ref") => `(tactic| (k_here; (with_reducible show wpAny _ _ (call (Value.ref 44) _) _ _ _); k_dflt (refine' call_excI ?F ?X ?N ?hK PySem.F.excBase_Exception ?T ?i ?f ?z ?_; (case F => k_asm); (case X => k_asm); (case N => k_asm); (case hK => exact rfl); (case T => exact tail44 _); (case i => k_is); (case f => k_is); (case z => rw [sizeLine_eq]; exact Nat.le_of_ble_eq_true rfl); intro e' t' h' F' N' l1 l2; (try k_lt l1); (try k_lt2 l2); (try k_sweep); k_enter)))
local macro_rules | `(tactic| walk_at "setAttr ref") => `(tactic| (k_here; k_dflt (first
  | (refine' set_first (pre := []) (C := 44) ?F ?X ?N ?h1 ?h2 ?hs ?hp ?ha ?_; (case F => k_asm); (case X => k_asm); (case N => k_asm); (case h1 => (intro p hp; cases hp)); (case h2 => k_all); (case hs => k_is); (case hp => exact passes44 _); (case ha => k_is); intro d' h' F' N' l1; (try dsimp only [List.nil_append, List.cons_append] at N' l1); (try k_lt l1); (try k_sweep))
  | (refine' set_more (C := 44) ?F ?X ?N ?hx ?hd ?hs ?hp ?ha ?hl ?e ?U ?z ?_; (case F => k_asm); (case X => k_asm); (case N => k_asm); (case hx => k_mem); (case hd => k_mem); (case hs => k_is); (case hp => exact passes44 _); (case ha => k_is); (case hl => k_get); (case e => k_put); (case U => k_upd); (case z => exact Nat.le_of_ble_eq_true rfl); k_whole; intro h' F' N'; (try k_sweep)))))
local macro_rules | `(tactic| walk_at "OwnRaisable") => `(tactic| (k_dflt (refine ⟨_, _, _, rfl, ?X, ?g, rfl, rfl, rfl, ?_⟩; (case X => k_in); (case g => exact (News.get (by k_asm) (by k_mem))))))
local macro_rules | `(tactic| walk_at "leaving ref") => `(tactic| (k_here; k_dflt (first
  | (refine' leave_raiseD3 ?k1 ?k2 ?k3 ?k4 ?k5 ?_ ?hk; (case hk => rfl); (case k2 => assumption); (case k1 => assumption); (case k3 => k_asm); (case k4 => first | assumption | omega); (case k5 => k_all); k_whole; intro h' R' U'; (try dsimp only at R' U' ⊢))
  | (refine' leave_onD ?k1 ?k2 ?k3 ?k4 ?_; (case k3 => assumption); (case k1 => assumption); (case k4 => assumption); (case k2 => assumption); k_whole; intro h' R' U'; (try dsimp only at R' U' ⊢)))))

abbrev trapD (w : World) (a1 a2 a3 a4 a5 a6 : Tok) : Obj :=
  dictOf [{ hash := PyData.keyHash w.params (Str.ofString "number"), key := Value.str (Str.ofString "number") a1, val := Value.int 4 a2 },
          { hash := PyData.keyHash w.params (Str.ofString "place"), key := Value.str (Str.ofString "place") a3, val := Value.int 0 a4 },
          { hash := PyData.keyHash w.params (Str.ofString "module"), key := Value.str (Str.ofString "module") a5, val := Value.str (Str.ofString "") a6 }] 3
set_option maxHeartbeats 8000000 in
theorem place_bad : ∀ (w : World) (mean : ExcName → Option Value) (mg mb : Str → Option Value) (dp un : Nat) (gd : Option (List Code)) (cn : Str) (cs : Scope) (a : Addr) (ccd : Value) (cl : List (Str × Addr)) (outer : List Env) (A₀ : Around) (base h₀ : Heap) (L : Addr) (m : Str → Option Value) (s : Shared) (Q E : Value → Shared → Prop)
   (rest : List (Addr × Obj)) (W x d : Addr) (o : Obj) (z : Int) (tz t1 t2 : Tok) (i : Int) (ti : Tok),
   Below A₀ base outer h₀ → Fr h₀ L s.heap m → (Mine.hd0305.heap_39 w.params).In h₀ → News h₀ L s.heap ((W, o) :: (x, instObj 98 d) :: (d, memD w z tz t1 t2 W) :: rest) →
   Top Mine.hd0305.view_39 (looseW Mine.hd0305.view_39 []) mean mg mb h₀ → cs.kind = .function →
   dp + 5 < recursionLimit → un + 100 < cLine → (i < 0 ∨ z ≤ i) →
   (∀ g₂ h' tk' e d' a1 a2 a3 a4 a5 a6, Fr h₀ L g₂ m → RaisedD base g₂ (envX cn cs L a ccd cl :: outer) e (.ref 44) (some d') ((d', trapD w a1 a2 a3 a4 a5 a6) :: (W, o) :: (x, instObj 98 d) :: (d, memD w z tz t1 t2 W) :: rest) h' → g₂.UpToSlots h' → E (.ref e) { s with heap := h', toks := tk' }) →
   wpAny (model PySem.Challenge.rw_pb0305_01.row.prog w) (ktrTop dp un gd cn cs L a ccd cl outer) (call (.ref 67) [.ref x, .int i ti]) Q E s := by
  k_fill
  intro w mean mg mb dp un gd cn cs a ccd cl outer A₀ base h₀ L m s Q E rest W x d o z tz t1 t2 i ti B F X N T hk hd hu hbad hret
  w_top off
  w_strict (
    refine wpAny_call ?_
    k_dflt cell_enter
    k_steps
    all_goals (k_dflt (refine' ownRaisable_of ?X ?N ?g ?_; (case N => k_asm); (case X => k_in); (case g => k_mem)))
    all_goals k_steps
    all_goals exact hret _ _ _ _ _ _ _ _ _ _ _ (by assumption) (by assumption) (by assumption))
end Mine
end

-- part PU3
section
local macro_rules | `(tactic| walk_at "pad 0") => `(tactic| skip)
local macro_rules | `(tactic| walk_at "pad 1") => `(tactic| skip)
local macro_rules | `(tactic| walk_at "pad 2") => `(tactic| skip)
local macro_rules | `(tactic| walk_at "pad 3") => `(tactic| skip)
local macro_rules | `(tactic| walk_at "pad 4") => `(tactic| skip)
local macro_rules | `(tactic| walk_at "pad 5") => `(tactic| skip)
local macro_rules | `(tactic| walk_at "pad 6") => `(tactic| skip)
local macro_rules | `(tactic| walk_at "pad 7") => `(tactic| skip)
local macro_rules | `(tactic| walk_at "pad 8") => `(tactic| skip)
local macro_rules | `(tactic| walk_at "pad 9") => `(tactic| skip)
open PySem PySem.W PySem.Calls PyProof.Rows PySem.Builtin PySem.Builtin.ObjectAttr
set_option Elab.async false
set_option maxRecDepth 100000
namespace Mine
local macro_rules | `(tactic| k_all) => `(tactic| first | assumption | exact allNe_lt (by assumption) (by omega))
local macro_rules | `(tactic| units_room) => `(tactic| ((simp only [units_under_make, units_in1, units_deeper, Around.mark_units, units_caller]); (try dsimp only [ktrTop]); omega))
local macro_rules | `(tactic| k_enter) => `(tactic| cell_enter)
local macro_rules | `(tactic| k_room) => `(tactic| ktr_room)
local macro_rules | `(tactic| ktr_unf) => `(tactic| (refine' code_defX ?k1 ?k2 ?k3 ?k4 ?k5 ?kA ?kF ?kK ?k6 ?k7 ?k8 ?k9 ?kB ?_ ?c2 ?c3 ?c4 ?c5; (case kA => exact rfl); (case kF => exact rfl); (case kK => assumption); (case k1 => k_asm); (case k2 => k_asm); (case k3 => k_asm); (case k4 => k_asm); (case k5 => k_asm); (case k6 => k_is); (case k7 => k_is); (case k8 => ktr_room); (case k9 => exact BindsTo.of_eq rfl); (case c5 => decide); (case kB => exact locs rfl); (case c2 => exact rfl); (case c3 => exact rfl); (case c4 => exact rfl); k_whole; intro g' L' h' FG' F' N' B' X' T' D'; (try dsimp only); (try k_lift B'); (try k_fold)))
local macro_rules | `(tactic| walk_at "exec Raise some none") => `(tactic| (k_here; k_dflt (refine' raise_ownX (C := 44) ?X ?hh ?hb ?ht ?_; (case X => k_asm); (case hh => exact rfl); (case hb => k_is); (case ht => k_is))))
local macro_rules | `(tactic| walk_at "call ref") => `(tactic| (k_here; (with_reducible show wpAny _ _ (call (Value.ref 44) _) _ _ _); k_dflt (refine' call_excI ?F ?X ?N ?hK PySem.F.excBase_Exception ?T ?i ?f ?z ?_; (case F => k_asm); (case X => k_asm); (case N => k_asm); (case hK => exact rfl); (case T => exact tail44 _); (case i => k_is); (case f => k_is); (case z => rw [sizeLine_eq]; exact Nat.le_of_ble_eq_true rfl); intro e' t' h' F' N' l1 l2; (try k_lt l1); (try k_lt2 l2); (try k_sweep); k_enter)))
local macro_rules | `(tactic| walk_at "setAttr ref") => `(tactic| (k_here; k_dflt (first
  | (refine' set_first (pre := []) (C := 44) ?F ?X ?N ?h1 ?h2 ?hs ?hp ?ha ?_; (case F => k_asm); (case X => k_asm); (case N => k_asm); (case h1 => (intro p hp; cases hp)); (case h2 => k_all); (case hs => k_is); (case hp => exact passes44 _); (case ha => k_is); intro d' h' F' N' l1; (try dsimp only [List.nil_append, List.cons_append] at N' l1); (try k_lt l1); (try k_sweep))
  | (refine' set_more (C := 44) ?F ?X ?N ?hx ?hd ?hs ?hp ?ha ?hl ?e ?U ?z ?_; (case F => k_asm); (case X => k_asm); (case N => k_asm); (case hx => k_mem); (case hd => k_mem); (case hs => k_is); (case hp => exact passes44 _); (case ha => k_is); (case hl => k_get); (case e => k_put); (case U => k_upd); (case z => exact Nat.le_of_ble_eq_true rfl); k_whole; intro h' F' N'; (try k_sweep)))))
local macro_rules | `(tactic| walk_at "OwnRaisable") => `(tactic| (k_dflt (refine ⟨_, _, _, rfl, ?X, ?g, rfl, rfl, rfl, ?_⟩; (case X => k_in); (case g => exact (News.get (by k_asm) (by k_mem))))))
local macro_rules | `(tactic| walk_at "leaving ref") => `(tactic| (k_here; k_dflt (first
  | (refine' leave_raiseD3 ?k1 ?k2 ?k3 ?k4 ?k5 ?_ ?hk; (case hk => rfl); (case k2 => assumption); (case k1 => assumption); (case k3 => k_asm); (case k4 => first | assumption | omega); (case k5 => k_all); k_whole; intro h' R' U'; (try dsimp only at R' U' ⊢))
  | (refine' leave_onD ?k1 ?k2 ?k3 ?k4 ?_; (case k3 => assumption); (case k1 => assumption); (case k4 => assumption); (case k2 => assumption); k_whole; intro h' R' U'; (try dsimp only at R' U' ⊢)))))
local macro_rules | `(tactic| walk_at "call ref") => `(tactic| (k_here; (with_reducible show wpAny _ _ (call (Value.ref 67) _) _ _ _); k_dflt (refine' place_bad _ _ _ _ _ _ _ _ _ _ _ _ _ _ _ _ _ _ _ _ _ _ _ _ _ _ _ _ _ _ _ _ ?B ?F ?X ?N ?T ?hk ?hd ?hu ?hb ?_; (case B => k_asm); (case F => k_asm); (case X => k_asm); (case N => k_asm); (case T => k_asm); (case hk => first | rfl | assumption); (case hd => ktr_room); (case hu => ktr_units); (case hb => assumption)); intro g₂ h' tk' e' d' a1 a2 a3 a4 a5 a6 FG' R' U'))
local macro_rules | `(tactic| walk_at "noteFrame ref") => `(tactic| (k_here; k_dflt (refine' caught_D ?R ?F ?K ?sm ?XB ?TB ?D ?T0 ?ex ?q ?_ ?h1 ?h2 ?h3 ?h4; (case h1 => exact rfl); (case h2 => exact rfl); (case h3 => exact rfl); (case h4 => decide); (case R => assumption); (case F => assumption); (case K => assumption); (case sm => assumption); (case XB => assumption); (case TB => assumption); (case D => assumption); (case T0 => first | assumption | exact KtsTurn.refl); (case ex => k_is); (case q => kts_isx)); intro h' g' oe ws tk' T' F' N' hc' hdd' hfl' K' X' P' D'; (try k_sweep)))
local macro_rules | `(tactic| walk_at "getAttr ref") => `(tactic| (k_here; k_dflt (refine' get_excK ?F ?X ?I ?ga ?gx ?hb ?hh ?ha ?hl ?hv ?_; (case F => k_asm); (case X => k_asm); (case I => exact instAt_exc (by k_asm) (by assumption) (by assumption) (by assumption)); (case ga => k_is); (case gx => k_is); (case hb => k_is); (case hh => k_is); (case ha => k_is); (case hl => k_get); (case hv => k_handed))))
theorem trap_text : Str.ofString "trap " ++ Str.ofString (toString (4 : Int)) = Str.ofString "trap 4" := by decide +kernel
set_option maxHeartbeats 8000000 in
theorem kept_bad0 : ∀ (w : World) (mean : ExcName → Option Value) (mg mb : Str → Option Value) (dp un : Nat) (gd : Option (List Code)) (cn : Str) (cs : Scope) (a : Addr) (ccd : Value) (cl : List (Str × Addr)) (A₀ : Around) (h₀ : Heap) (L : Addr) (m : Str → Option Value) (s : Shared) (Q E : Value → Shared → Prop)
   (rest : List (Addr × Obj)) (W x d : Addr) (o : Obj) (kvs : List (Int × Value)) (c : List (Int × Int)) (z : Int) (tz t1 t2 : Tok) (i v : Int) (tk ti tv : Tok),
   Below A₀ h₀ [] h₀ → Fr h₀ L s.heap m → (Mine.hd0305.heap_39 w.params).In h₀ → News h₀ L s.heap ((W, o) :: (x, instObj 98 d) :: (d, memD w z tz t1 t2 W) :: rest) →
   Top Mine.hd0305.view_39 (looseW Mine.hd0305.view_39 []) mean mg mb h₀ → cs.kind = .function →
   dp + 10 < recursionLimit → un + 200 < cLine → (W == sysModules) = false → o.IsDictOf (intKind PySem.Challenge.rw_pb0305_01.row.prog w) kvs → PyProof.V.FlatPairs PyData.int kvs (kdfD c) → c.length ≤ 4096 → (i < 0 ∨ z ≤ i) →
   (∀ t h' tk', Fr h₀ L h' m → News h₀ L h' ((W, o) :: (x, instObj 98 d) :: (d, memD w z tz t1 t2 W) :: rest) → Q (.str (Str.ofString "trap 4") t) { s with heap := h', toks := tk' }) →
   wpAny (model PySem.Challenge.rw_pb0305_01.row.prog w) (ktrTop dp un gd cn cs L a ccd cl []) (call (.ref 130) [.ref x, .int 0 tk, .int i ti, .int v tv]) Q E s := by
  k_fill
  intro w mean mg mb dp un gd cn cs a ccd cl A₀ h₀ L m s Q E rest W x d o kvs c z tz t1 t2 i v tk ti tv B F X N T hk hd hu lo hdict hflat hclen hbad hret
  w_top off
  w_strict (
    refine wpAny_call ?_
    k_dflt ktr_unf
    k_steps
    rw [trap_text]
    exact hret _ _ _ (by k_asm) (cb_drop (by assumption) (fun p hp => .tail _ (.tail _ hp))))
set_option maxHeartbeats 8000000 in
theorem kept_bad1 : ∀ (w : World) (mean : ExcName → Option Value) (mg mb : Str → Option Value) (dp un : Nat) (gd : Option (List Code)) (cn : Str) (cs : Scope) (a : Addr) (ccd : Value) (cl : List (Str × Addr)) (A₀ : Around) (h₀ : Heap) (L : Addr) (m : Str → Option Value) (s : Shared) (Q E : Value → Shared → Prop)
   (rest : List (Addr × Obj)) (W x d : Addr) (o : Obj) (kvs : List (Int × Value)) (c : List (Int × Int)) (z : Int) (tz t1 t2 : Tok) (i v : Int) (tk ti tv : Tok),
   Below A₀ h₀ [] h₀ → Fr h₀ L s.heap m → (Mine.hd0305.heap_39 w.params).In h₀ → News h₀ L s.heap ((W, o) :: (x, instObj 98 d) :: (d, memD w z tz t1 t2 W) :: rest) →
   Top Mine.hd0305.view_39 (looseW Mine.hd0305.view_39 []) mean mg mb h₀ → cs.kind = .function →
   dp + 10 < recursionLimit → un + 200 < cLine → (W == sysModules) = false → o.IsDictOf (intKind PySem.Challenge.rw_pb0305_01.row.prog w) kvs → PyProof.V.FlatPairs PyData.int kvs (kdfD c) → c.length ≤ 4096 → (i < 0 ∨ z ≤ i) →
   (∀ t h' tk', Fr h₀ L h' m → News h₀ L h' ((W, o) :: (x, instObj 98 d) :: (d, memD w z tz t1 t2 W) :: rest) → Q (.str (Str.ofString "trap 4") t) { s with heap := h', toks := tk' }) →
   wpAny (model PySem.Challenge.rw_pb0305_01.row.prog w) (ktrTop dp un gd cn cs L a ccd cl []) (call (.ref 130) [.ref x, .int 1 tk, .int i ti, .int v tv]) Q E s := by
  k_fill
  intro w mean mg mb dp un gd cn cs a ccd cl A₀ h₀ L m s Q E rest W x d o kvs c z tz t1 t2 i v tk ti tv B F X N T hk hd hu lo hdict hflat hclen hbad hret
  w_top off
  w_strict (
    refine wpAny_call ?_
    k_dflt ktr_unf
    k_steps
    rw [trap_text]
    exact hret _ _ _ (by k_asm) (cb_drop (by assumption) (fun p hp => .tail _ (.tail _ hp))))
set_option maxHeartbeats 8000000 in
theorem kept_bad2 : ∀ (w : World) (mean : ExcName → Option Value) (mg mb : Str → Option Value) (dp un : Nat) (gd : Option (List Code)) (cn : Str) (cs : Scope) (a : Addr) (ccd : Value) (cl : List (Str × Addr)) (A₀ : Around) (h₀ : Heap) (L : Addr) (m : Str → Option Value) (s : Shared) (Q E : Value → Shared → Prop)
   (rest : List (Addr × Obj)) (W x d : Addr) (o : Obj) (kvs : List (Int × Value)) (c : List (Int × Int)) (z : Int) (tz t1 t2 : Tok) (i v : Int) (tk ti tv : Tok),
   Below A₀ h₀ [] h₀ → Fr h₀ L s.heap m → (Mine.hd0305.heap_39 w.params).In h₀ → News h₀ L s.heap ((W, o) :: (x, instObj 98 d) :: (d, memD w z tz t1 t2 W) :: rest) →
   Top Mine.hd0305.view_39 (looseW Mine.hd0305.view_39 []) mean mg mb h₀ → cs.kind = .function →
   dp + 10 < recursionLimit → un + 200 < cLine → (W == sysModules) = false → o.IsDictOf (intKind PySem.Challenge.rw_pb0305_01.row.prog w) kvs → PyProof.V.FlatPairs PyData.int kvs (kdfD c) → c.length ≤ 4096 → (i < 0 ∨ z ≤ i) →
   (∀ t h' tk', Fr h₀ L h' m → News h₀ L h' ((W, o) :: (x, instObj 98 d) :: (d, memD w z tz t1 t2 W) :: rest) → Q (.str (Str.ofString "trap 4") t) { s with heap := h', toks := tk' }) →
   wpAny (model PySem.Challenge.rw_pb0305_01.row.prog w) (ktrTop dp un gd cn cs L a ccd cl []) (call (.ref 130) [.ref x, .int 2 tk, .int i ti, .int v tv]) Q E s := by
  k_fill
  intro w mean mg mb dp un gd cn cs a ccd cl A₀ h₀ L m s Q E rest W x d o kvs c z tz t1 t2 i v tk ti tv B F X N T hk hd hu lo hdict hflat hclen hbad hret
  w_top off
  w_strict (
    refine wpAny_call ?_
    k_dflt ktr_unf
    k_steps
    rw [trap_text]
    exact hret _ _ _ (by k_asm) (cb_drop (by assumption) (fun p hp => .tail _ (.tail _ hp))))
set_option maxHeartbeats 8000000 in
theorem kept_bad3 : ∀ (w : World) (mean : ExcName → Option Value) (mg mb : Str → Option Value) (dp un : Nat) (gd : Option (List Code)) (cn : Str) (cs : Scope) (a : Addr) (ccd : Value) (cl : List (Str × Addr)) (A₀ : Around) (h₀ : Heap) (L : Addr) (m : Str → Option Value) (s : Shared) (Q E : Value → Shared → Prop)
   (rest : List (Addr × Obj)) (W x d : Addr) (o : Obj) (kvs : List (Int × Value)) (c : List (Int × Int)) (z : Int) (tz t1 t2 : Tok) (i v : Int) (tk ti tv : Tok),
   Below A₀ h₀ [] h₀ → Fr h₀ L s.heap m → (Mine.hd0305.heap_39 w.params).In h₀ → News h₀ L s.heap ((W, o) :: (x, instObj 98 d) :: (d, memD w z tz t1 t2 W) :: rest) →
   Top Mine.hd0305.view_39 (looseW Mine.hd0305.view_39 []) mean mg mb h₀ → cs.kind = .function →
   dp + 10 < recursionLimit → un + 200 < cLine → (W == sysModules) = false → o.IsDictOf (intKind PySem.Challenge.rw_pb0305_01.row.prog w) kvs → PyProof.V.FlatPairs PyData.int kvs (kdfD c) → c.length ≤ 4096 → (i < 0 ∨ z ≤ i) →
   (∀ t h' tk', Fr h₀ L h' m → News h₀ L h' ((W, o) :: (x, instObj 98 d) :: (d, memD w z tz t1 t2 W) :: rest) → Q (.str (Str.ofString "trap 4") t) { s with heap := h', toks := tk' }) →
   wpAny (model PySem.Challenge.rw_pb0305_01.row.prog w) (ktrTop dp un gd cn cs L a ccd cl []) (call (.ref 130) [.ref x, .int 3 tk, .int i ti, .int v tv]) Q E s := by
  k_fill
  intro w mean mg mb dp un gd cn cs a ccd cl A₀ h₀ L m s Q E rest W x d o kvs c z tz t1 t2 i v tk ti tv B F X N T hk hd hu lo hdict hflat hclen hbad hret
  w_top off
  w_strict (
    refine wpAny_call ?_
    k_dflt ktr_unf
    k_steps
    rw [trap_text]
    exact hret _ _ _ (by k_asm) (cb_drop (by assumption) (fun p hp => .tail _ (.tail _ hp))))
end Mine
end

-- part PU4
section
open PySem PySem.W PySem.Calls PyProof.Rows PySem.Builtin PySem.Builtin.ObjectAttr
set_option Elab.async false
set_option maxRecDepth 100000
namespace Mine
local macro_rules | `(tactic| k_all) => `(tactic| first | assumption | exact allNe_lt (by assumption) (by omega))
local macro_rules | `(tactic| units_room) => `(tactic| ((simp only [units_under_make, units_in1, units_deeper, Around.mark_units, units_caller]); (try dsimp only [ktrTop]); omega))
local macro_rules | `(tactic| k_enter) => `(tactic| cell_enter)
local macro_rules | `(tactic| k_room) => `(tactic| ktr_room)
local macro_rules | `(tactic| ktr_unf) => `(tactic| (refine' code_defX ?k1 ?k2 ?k3 ?k4 ?k5 ?kA ?kF ?kK ?k6 ?k7 ?k8 ?k9 ?kB ?_ ?c2 ?c3 ?c4 ?c5; (case kA => exact rfl); (case kF => exact rfl); (case kK => assumption); (case k1 => k_asm); (case k2 => k_asm); (case k3 => k_asm); (case k4 => k_asm); (case k5 => k_asm); (case k6 => k_is); (case k7 => k_is); (case k8 => ktr_room); (case k9 => exact BindsTo.of_eq rfl); (case c5 => decide); (case kB => exact locs rfl); (case c2 => exact rfl); (case c3 => exact rfl); (case c4 => exact rfl); k_whole; intro g' L' h' FG' F' N' B' X' T' D'; (try dsimp only); (try k_lift B'); (try k_fold)))
local macro_rules | `(tactic| walk_at "call ref") => `(tactic| (k_here; (with_reducible show wpAny _ _ (call (Value.ref 74) _) _ _ _); k_dflt (refine' word_good _ _ _ _ _ _ _ _ _ _ _ _ _ _ _ _ _ _ _ _ _ _ _ _ _ _ _ _ _ _ _ _ _ _ ?B ?F ?X ?N ?T ?hk ?hd ?hu ?lo ?di ?fl ?cl ?wx ?wd ?wr ?h0 ?h1  ?_; (case B => k_asm); (case F => k_asm); (case X => k_asm); (case N => k_asm); (case T => k_asm); (case hk => first | rfl | assumption); (case hd => ktr_room); (case hu => ktr_units); (case lo => assumption); (case di => assumption); (case fl => assumption); (case cl => assumption); (case wx => assumption); (case wd => assumption); (case wr => assumption); (case h0 => assumption); (case h1 => assumption)); intro t' h' tk' F' N'))
local macro_rules | `(tactic| walk_at "call ref") => `(tactic| (k_here; (with_reducible show wpAny _ _ (call (Value.ref 88) _) _ _ _); k_dflt (refine' byte_good _ _ _ _ _ _ _ _ _ _ _ _ _ _ _ _ _ _ _ _ _ _ _ _ _ _ _ _ _ _ _ _ _ _ ?B ?F ?X ?N ?T ?hk ?hd ?hu ?lo ?di ?fl ?cl ?wx ?wd ?wr ?h0 ?h1  ?_; (case B => k_asm); (case F => k_asm); (case X => k_asm); (case N => k_asm); (case T => k_asm); (case hk => first | rfl | assumption); (case hd => ktr_room); (case hu => ktr_units); (case lo => assumption); (case di => assumption); (case fl => assumption); (case cl => assumption); (case wx => assumption); (case wd => assumption); (case wr => assumption); (case h0 => assumption); (case h1 => assumption)); intro t' h' tk' F' N'))
local macro_rules | `(tactic| walk_at "call ref") => `(tactic| (k_here; (with_reducible show wpAny _ _ (call (Value.ref 81) _) _ _ _); k_dflt (refine' put_word_good _ _ _ _ _ _ _ _ _ _ _ _ _ _ _ _ _ _ _ _ _ _ _ _ _ _ _ _ _ _ _ _ _ _ _ _ ?B ?F ?X ?N ?T ?hk ?hd ?hu ?lo ?di ?fl ?cl ?wx ?wd ?wr ?h0 ?h1  ?_; (case B => k_asm); (case F => k_asm); (case X => k_asm); (case N => k_asm); (case T => k_asm); (case hk => first | rfl | assumption); (case hd => ktr_room); (case hu => ktr_units); (case lo => assumption); (case di => assumption); (case fl => assumption); (case cl => assumption); (case wx => assumption); (case wd => assumption); (case wr => assumption); (case h0 => assumption); (case h1 => assumption)); intro h' tk' o' kvs' F' N' hd' hf'))
local macro_rules | `(tactic| walk_at "call ref") => `(tactic| (k_here; (with_reducible show wpAny _ _ (call (Value.ref 95) _) _ _ _); k_dflt (refine' put_byte_good _ _ _ _ _ _ _ _ _ _ _ _ _ _ _ _ _ _ _ _ _ _ _ _ _ _ _ _ _ _ _ _ _ _ _ _ ?B ?F ?X ?N ?T ?hk ?hd ?hu ?lo ?di ?fl ?cl ?wx ?wd ?wr ?h0 ?h1 ?l0 ?l1 ?_; (case B => k_asm); (case F => k_asm); (case X => k_asm); (case N => k_asm); (case T => k_asm); (case hk => first | rfl | assumption); (case hd => ktr_room); (case hu => ktr_units); (case lo => assumption); (case di => assumption); (case fl => assumption); (case cl => assumption); (case wx => assumption); (case wd => assumption); (case wr => assumption); (case h0 => assumption); (case h1 => assumption); (case l0 => assumption); (case l1 => assumption)); intro h' tk' o' kvs' F' N' hd' hf'))
set_option maxHeartbeats 8000000 in
theorem kept_good0 : ∀ (w : World) (mean : ExcName → Option Value) (mg mb : Str → Option Value) (dp un : Nat) (gd : Option (List Code)) (cn : Str) (cs : Scope) (a : Addr) (ccd : Value) (cl : List (Str × Addr)) (A₀ : Around) (h₀ : Heap) (L : Addr) (m : Str → Option Value) (s : Shared) (Q E : Value → Shared → Prop)
   (rest : List (Addr × Obj)) (W x d : Addr) (o : Obj) (kvs : List (Int × Value)) (c : List (Int × Int)) (z : Int) (tz t1 t2 : Tok) (i v : Int) (tk ti tv : Tok),
   Below A₀ h₀ [] h₀ → Fr h₀ L s.heap m → (Mine.hd0305.heap_39 w.params).In h₀ → News h₀ L s.heap ((W, o) :: (x, instObj 98 d) :: (d, memD w z tz t1 t2 W) :: rest) →
   Top Mine.hd0305.view_39 (looseW Mine.hd0305.view_39 []) mean mg mb h₀ → cs.kind = .function →
   dp + 10 < recursionLimit → un + 200 < cLine → (W == sysModules) = false → o.IsDictOf (intKind PySem.Challenge.rw_pb0305_01.row.prog w) kvs → PyProof.V.FlatPairs PyData.int kvs (kdfD c) → c.length ≤ 4096 → @Ne Nat W x → @Ne Nat W d → (∀ p ∈ rest, p.1 ≠ W) →
   0 ≤ i → i < z → 0 ≤ kdfLook c (i.fdiv 4) 0 → kdfLook c (i.fdiv 4) 0 < 4294967296 →
   (∀ h' tk' o' kvs', Fr h₀ L h' m → News h₀ L h' ((W, o') :: (x, instObj 98 d) :: (d, memD w z tz t1 t2 W) :: rest) → o'.IsDictOf (intKind PySem.Challenge.rw_pb0305_01.row.prog w) kvs' → PyProof.V.FlatPairs PyData.int kvs' (kdfD (kdfPut c (i.fdiv 4) (v.fmod 4294967296))) → Q .none { s with heap := h', toks := tk' }) →
   wpAny (model PySem.Challenge.rw_pb0305_01.row.prog w) (ktrTop dp un gd cn cs L a ccd cl []) (call (.ref 130) [.ref x, .int 0 tk, .int i ti, .int v tv]) Q E s := by
  k_fill
  intro w mean mg mb dp un gd cn cs a ccd cl A₀ h₀ L m s Q E rest W x d o kvs c z tz t1 t2 i v tk ti tv B F X N T hk hd hu lo hdict hflat hclen hWx hWd hWr h0 h1 hl0 hl1 hret
  w_top off
  w_strict (
    refine wpAny_call ?_
    k_dflt ktr_unf
    k_steps
    exact hret _ _ _ _ (by k_asm) (by k_asm) (by assumption) (by assumption))
set_option maxHeartbeats 8000000 in
theorem kept_good1 : ∀ (w : World) (mean : ExcName → Option Value) (mg mb : Str → Option Value) (dp un : Nat) (gd : Option (List Code)) (cn : Str) (cs : Scope) (a : Addr) (ccd : Value) (cl : List (Str × Addr)) (A₀ : Around) (h₀ : Heap) (L : Addr) (m : Str → Option Value) (s : Shared) (Q E : Value → Shared → Prop)
   (rest : List (Addr × Obj)) (W x d : Addr) (o : Obj) (kvs : List (Int × Value)) (c : List (Int × Int)) (z : Int) (tz t1 t2 : Tok) (i v : Int) (tk ti tv : Tok),
   Below A₀ h₀ [] h₀ → Fr h₀ L s.heap m → (Mine.hd0305.heap_39 w.params).In h₀ → News h₀ L s.heap ((W, o) :: (x, instObj 98 d) :: (d, memD w z tz t1 t2 W) :: rest) →
   Top Mine.hd0305.view_39 (looseW Mine.hd0305.view_39 []) mean mg mb h₀ → cs.kind = .function →
   dp + 10 < recursionLimit → un + 200 < cLine → (W == sysModules) = false → o.IsDictOf (intKind PySem.Challenge.rw_pb0305_01.row.prog w) kvs → PyProof.V.FlatPairs PyData.int kvs (kdfD c) → c.length ≤ 4096 → @Ne Nat W x → @Ne Nat W d → (∀ p ∈ rest, p.1 ≠ W) →
   0 ≤ i → i < z → 0 ≤ kdfLook c (i.fdiv 4) 0 → kdfLook c (i.fdiv 4) 0 < 4294967296 →
   (∀ h' tk' o' kvs', Fr h₀ L h' m → News h₀ L h' ((W, o') :: (x, instObj 98 d) :: (d, memD w z tz t1 t2 W) :: rest) → o'.IsDictOf (intKind PySem.Challenge.rw_pb0305_01.row.prog w) kvs' → PyProof.V.FlatPairs PyData.int kvs' (kdfD (kdfPut c (i.fdiv 4) (setByte (kdfLook c (i.fdiv 4) 0) (i % 4) v))) → Q .none { s with heap := h', toks := tk' }) →
   wpAny (model PySem.Challenge.rw_pb0305_01.row.prog w) (ktrTop dp un gd cn cs L a ccd cl []) (call (.ref 130) [.ref x, .int 1 tk, .int i ti, .int v tv]) Q E s := by
  k_fill
  intro w mean mg mb dp un gd cn cs a ccd cl A₀ h₀ L m s Q E rest W x d o kvs c z tz t1 t2 i v tk ti tv B F X N T hk hd hu lo hdict hflat hclen hWx hWd hWr h0 h1 hl0 hl1 hret
  w_top off
  w_strict (
    refine wpAny_call ?_
    k_dflt ktr_unf
    k_steps
    exact hret _ _ _ _ (by k_asm) (by k_asm) (by assumption) (by assumption))
set_option maxHeartbeats 8000000 in
theorem kept_good2 : ∀ (w : World) (mean : ExcName → Option Value) (mg mb : Str → Option Value) (dp un : Nat) (gd : Option (List Code)) (cn : Str) (cs : Scope) (a : Addr) (ccd : Value) (cl : List (Str × Addr)) (A₀ : Around) (h₀ : Heap) (L : Addr) (m : Str → Option Value) (s : Shared) (Q E : Value → Shared → Prop)
   (rest : List (Addr × Obj)) (W x d : Addr) (o : Obj) (kvs : List (Int × Value)) (c : List (Int × Int)) (z : Int) (tz t1 t2 : Tok) (i v : Int) (tk ti tv : Tok),
   Below A₀ h₀ [] h₀ → Fr h₀ L s.heap m → (Mine.hd0305.heap_39 w.params).In h₀ → News h₀ L s.heap ((W, o) :: (x, instObj 98 d) :: (d, memD w z tz t1 t2 W) :: rest) →
   Top Mine.hd0305.view_39 (looseW Mine.hd0305.view_39 []) mean mg mb h₀ → cs.kind = .function →
   dp + 10 < recursionLimit → un + 200 < cLine → (W == sysModules) = false → o.IsDictOf (intKind PySem.Challenge.rw_pb0305_01.row.prog w) kvs → PyProof.V.FlatPairs PyData.int kvs (kdfD c) → c.length ≤ 4096 → @Ne Nat W x → @Ne Nat W d → (∀ p ∈ rest, p.1 ≠ W) →
   0 ≤ i → i < z → 0 ≤ kdfLook c (i.fdiv 4) 0 → kdfLook c (i.fdiv 4) 0 < 4294967296 →
   (∀ t h' tk', Fr h₀ L h' m → News h₀ L h' ((W, o) :: (x, instObj 98 d) :: (d, memD w z tz t1 t2 W) :: rest) → Q (.int (kdfLook c (i.fdiv 4) 0) t) { s with heap := h', toks := tk' }) →
   wpAny (model PySem.Challenge.rw_pb0305_01.row.prog w) (ktrTop dp un gd cn cs L a ccd cl []) (call (.ref 130) [.ref x, .int 2 tk, .int i ti, .int v tv]) Q E s := by
  k_fill
  intro w mean mg mb dp un gd cn cs a ccd cl A₀ h₀ L m s Q E rest W x d o kvs c z tz t1 t2 i v tk ti tv B F X N T hk hd hu lo hdict hflat hclen hWx hWd hWr h0 h1 hl0 hl1 hret
  w_top off
  w_strict (
    refine wpAny_call ?_
    k_dflt ktr_unf
    k_steps
    exact hret _ _ _ (by k_asm) (by k_asm))
set_option maxHeartbeats 8000000 in
theorem kept_good3 : ∀ (w : World) (mean : ExcName → Option Value) (mg mb : Str → Option Value) (dp un : Nat) (gd : Option (List Code)) (cn : Str) (cs : Scope) (a : Addr) (ccd : Value) (cl : List (Str × Addr)) (A₀ : Around) (h₀ : Heap) (L : Addr) (m : Str → Option Value) (s : Shared) (Q E : Value → Shared → Prop)
   (rest : List (Addr × Obj)) (W x d : Addr) (o : Obj) (kvs : List (Int × Value)) (c : List (Int × Int)) (z : Int) (tz t1 t2 : Tok) (i v : Int) (tk ti tv : Tok),
   Below A₀ h₀ [] h₀ → Fr h₀ L s.heap m → (Mine.hd0305.heap_39 w.params).In h₀ → News h₀ L s.heap ((W, o) :: (x, instObj 98 d) :: (d, memD w z tz t1 t2 W) :: rest) →
   Top Mine.hd0305.view_39 (looseW Mine.hd0305.view_39 []) mean mg mb h₀ → cs.kind = .function →
   dp + 10 < recursionLimit → un + 200 < cLine → (W == sysModules) = false → o.IsDictOf (intKind PySem.Challenge.rw_pb0305_01.row.prog w) kvs → PyProof.V.FlatPairs PyData.int kvs (kdfD c) → c.length ≤ 4096 → @Ne Nat W x → @Ne Nat W d → (∀ p ∈ rest, p.1 ≠ W) →
   0 ≤ i → i < z → 0 ≤ kdfLook c (i.fdiv 4) 0 → kdfLook c (i.fdiv 4) 0 < 4294967296 →
   (∀ t h' tk', Fr h₀ L h' m → News h₀ L h' ((W, o) :: (x, instObj 98 d) :: (d, memD w z tz t1 t2 W) :: rest) → Q (.int (byteAt (kdfLook c (i.fdiv 4) 0) (i % 4)) t) { s with heap := h', toks := tk' }) →
   wpAny (model PySem.Challenge.rw_pb0305_01.row.prog w) (ktrTop dp un gd cn cs L a ccd cl []) (call (.ref 130) [.ref x, .int 3 tk, .int i ti, .int v tv]) Q E s := by
  k_fill
  intro w mean mg mb dp un gd cn cs a ccd cl A₀ h₀ L m s Q E rest W x d o kvs c z tz t1 t2 i v tk ti tv B F X N T hk hd hu lo hdict hflat hclen hWx hWd hWr h0 h1 hl0 hl1 hret
  w_top off
  w_strict (
    refine wpAny_call ?_
    k_dflt ktr_unf
    k_steps
    exact hret _ _ _ (by k_asm) (by k_asm))
end Mine
end

-- part PR
section
local macro_rules | `(tactic| walk_at "pad 0") => `(tactic| skip)
local macro_rules | `(tactic| walk_at "pad 1") => `(tactic| skip)
local macro_rules | `(tactic| walk_at "pad 2") => `(tactic| skip)
local macro_rules | `(tactic| walk_at "pad 3") => `(tactic| skip)
local macro_rules | `(tactic| walk_at "pad 4") => `(tactic| skip)
local macro_rules | `(tactic| walk_at "pad 5") => `(tactic| skip)
local macro_rules | `(tactic| walk_at "pad 6") => `(tactic| skip)
local macro_rules | `(tactic| walk_at "pad 7") => `(tactic| skip)
local macro_rules | `(tactic| walk_at "pad 8") => `(tactic| skip)
local macro_rules | `(tactic| walk_at "pad 9") => `(tactic| skip)
open PySem PySem.W PyProof.Rows
set_option Elab.async false
set_option maxRecDepth 100000
namespace Mine
local macro_rules | `(tactic| k_all) => `(tactic| assumption)
local macro_rules | `(tactic| units_room) => `(tactic| ((simp only [units_under_make, units_in1, units_deeper, Around.mark_units, units_caller]); (try dsimp only [ktrTop]); omega))
local macro_rules | `(tactic| k_enter) => `(tactic| cell_enter)
local macro_rules | `(tactic| k_room) => `(tactic| ktr_room)
abbrev Digits (ns : List Int) : Prop := ∀ v ∈ ns, 0 ≤ v ∧ v < 1024
theorem allLt_out {d : Addr} {l : List (Addr × Obj)} (h : AllLt d l) : ∀ p ∈ l, p.1 < d := by
  induction l with
  | nil => intro p hp; cases hp
  | cons x r ih =>
    intro p hp
    rcases List.mem_cons.mp hp with rfl | hp
    · exact h.1
    · exact ih h.2 p hp
theorem digits_nil : Digits [] := fun _ h => nomatch h
theorem digits_snoc {l : List Int} (h : Digits l) (x : Int) : Digits (l ++ [x.fmod 1024]) := fun v hv => by
  rcases List.mem_append.mp hv with q | q
  · exact h v q
  · rw [List.mem_singleton.mp q, Int.fmod_eq_emod_of_nonneg _ (by decide)]; omega
theorem fdiv_pos' {x : Int} (h : 0 ≤ x) : 0 ≤ x.fdiv 1024 := by rw [Int.fdiv_eq_ediv_of_nonneg _ (by decide)]; omega
section
variable {prog : Program} {w : World} {A : Around} {E : Value → Shared → Prop} {s : Shared} {h₀ : Heap} {L D : Addr} {m : Str → Option Value} {news news' : List (Addr × Obj)} {vs : List Value} {ns : List Int} {n : Nat} {k : Int} {tk : Tok}
theorem append_ints {Q : Value → Shared → Prop} (F : Fr h₀ L s.heap m) (N : News h₀ L s.heap news) (U : Upd D (listOf vs.toArray n) (listOf (vs ++ [Value.int k tk]).toArray (n + 1)) news news') (hi : IntsAre vs ns) (hz : ns.length ≤ 5000)
    (h : ∀ h', Fr h₀ L h' m → News h₀ L h' news' → IntsAre (vs ++ [Value.int k tk]) (ns ++ [k]) → (ns ++ [k]).length = ns.length + 1 → Q .none { s with heap := h' }) :
    wpAny (model prog w) A (call (.builtin "list.append") [.ref D, .int k tk]) Q E s := by
  refine append_K F N (its := vs.toArray) (n := n) (x := .int k tk) (by rw [List.push_toArray]; exact U) (fun h' F' N' => h h' F' N' (IntsAre.append hi (.cons _ _ .nil)) (by simp)) ?_
  have := hi.length
  rw [List.size_toArray, sizeLine_eq]; omega
theorem reverse_ints {Q : Value → Shared → Prop} (F : Fr h₀ L s.heap m) (N : News h₀ L s.heap news) (U : Upd D (listOf vs.toArray n) (listOf vs.reverse.toArray n) news news') (hi : IntsAre vs ns) (hz : ns.length ≤ 5000)
    (h : ∀ h', Fr h₀ L h' m → News h₀ L h' news' → IntsAre vs.reverse ns.reverse → Q .none { s with heap := h' }) :
    wpAny (model prog w) A (call (.builtin "list.reverse") [.ref D]) Q E s := by
  refine kl_reverse F N rfl U ?_ fun h' F' N' => h h' F' N' (IntsAre.reverse hi)
  have := hi.length
  rw [sizeLine_eq]; simp only []; omega
end
theorem digits_take {l : List Int} (h : Digits l) (k : Nat) : Digits (l.take k).reverse := fun v hv => h v (List.mem_of_mem_take (List.mem_reverse.mp hv))
local macro_rules | `(tactic| walk_at "call builtin:list.reverse") => `(tactic| (k_here; k_dflt (refine' reverse_ints ?F ?N ?U ?i ?z ?_; (case F => k_asm); (case N => k_asm); (case U => k_upd); (case i => assumption); (case z => omega)); intro h' F' N' hI'; (try k_sweep)))
local macro_rules | `(tactic| walk_at "call builtin:list.append") => `(tactic| (k_here; k_dflt (refine' append_ints ?F ?N ?U ?i ?z ?_; (case F => k_asm); (case N => k_asm); (case U => k_upd); (case i => assumption); (case z => omega)); intro h' F' N' hI' hL'; (try k_sweep)))
set_option maxHeartbeats 8000000 in
theorem row_call : ∀ (w : World) (mean : ExcName → Option Value) (mg mb : Str → Option Value) (dp un : Nat) (gd : Option (List Code)) (cn : Str) (cs : Scope) (a : Addr) (ccd : Value) (cl : List (Str × Addr)) (outer : List Env) (A₀ : Around) (base h₀ : Heap) (L : Addr) (m : Str → Option Value) (s : Shared) (Q E : Value → Shared → Prop)
   (rest : List (Addr × Obj)) (l : Addr) (vs : List Value) (ns : List Int),
   Below A₀ base outer h₀ → Fr h₀ L s.heap m → (Mine.hd0305.heap_39 w.params).In h₀ → News h₀ L s.heap rest →
   Top Mine.hd0305.view_39 (looseW Mine.hd0305.view_39 []) mean mg mb h₀ → cs.kind = .function →
   base.IsList l vs.toArray → IntsAre vs ns → ns.length ≤ 63 → dp + 3 < recursionLimit → un + 100 < cLine →
   (∀ d h' tk' vs' ns' n', IntsAre vs' ns' → Digits ns' → ns'.length ≤ 4096 → Fr h₀ L h' m → News h₀ L h' ((d, listOf vs'.toArray n') :: rest) → (∀ p ∈ rest, p.1 < d) → Q (.ref d) { s with heap := h', toks := tk' }) →
   wpAny (model PySem.Challenge.rw_pb0305_01.row.prog w) (ktrTop dp un gd cn cs L a ccd cl outer) (call (.ref 116) [.ref l]) Q E s := by
  k_fill
  intro w mean mg mb dp un gd cn cs a ccd cl outer A₀ base h₀ L m s Q E rest l vs ns B F X N T hk hl hi hlen hd hu hret
  have hr9 : (rangeKs 0 (30 - 0 : Int).toNat).length = 30 := by rw [rangeKs_length]; rfl
  k_with "state" => (first
    | exact ⟨by decide, digits_nil⟩
    | (refine ⟨?_, ?_, ?_⟩ <;> first | assumption | exact digits_snoc (by assumption) _ | exact fdiv_pos' (by omega) | (simp only [List.length_append, List.length_cons, List.length_nil]; omega))
    | (refine ⟨?_, ?_⟩ <;> first | assumption | (simp only [List.length_append, List.length_cons, List.length_nil]; omega)))
  k_with "pyIter ref" => (k_of "cell" => (k_state (fun pre row => row.length ≤ 31 * pre.length ∧ Digits row) "row"))
  k_with "pyIter ref" => (k_of "lap" => (k_state_given ["row!"] (fun r0 pre row fig => row.length ≤ r0.length + pre.length ∧ Digits row ∧ 0 ≤ fig) "row" "figure"))
  w_top off
  w_strict (
    refine wpAny_call ?_
    k_dflt cell_enter
    k_steps
    refine hret _ _ _ _ _ 0 (by assumption) (digits_take (by assumption) _) ?_ (by k_asm) (cb_drop (by assumption) ?_) (allLt_out (And.right (And.right (by assumption))))
    · rw [List.length_reverse]; omega
    · intro p hp
      rcases List.mem_cons.mp hp with rfl | hp
      · exact .head _
      · exact .tail _ (.tail _ (.tail _ hp)))
end Mine
end

-- part PA
section
open PySem PySem.W PySem.Calls PyProof.Rows
set_option Elab.async false
set_option maxRecDepth 100000
namespace Mine
theorem upd_front {h₀ h : Heap} {L d : Addr} {o : Obj} {news : List (Addr × Obj)} {u : Obj → List (Addr × Obj)} (U : UpdF d o news u) :
    ∃ rest : List (Addr × Obj), (∀ p ∈ rest, p.1 ≠ d) ∧ (∀ p ∈ news, p ∈ (d, o) :: rest) ∧ (News h₀ L h news → News h₀ L h ((d, o) :: rest)) ∧ (∀ p ∈ rest, p ∈ news) ∧ ∀ o' h', News h₀ L h' ((d, o') :: rest) → News h₀ L h' (u o') := by
  obtain ⟨pre, post, rfl, hu, a, b⟩ := U.split
  refine ⟨pre ++ post, fun p hp => (List.mem_append.mp hp).elim (a p) (b p), fun p hp => ?_, fun N p hp => N p ?_, fun p hp => ?_, fun o' h' N p hp => N p ?_⟩
  · rcases List.mem_append.mp hp with q | q
    · exact .tail _ (List.mem_append_left _ q)
    · rcases List.mem_cons.mp q with rfl | q
      · exact .head _
      · exact .tail _ (List.mem_append_right _ q)
  · rcases List.mem_cons.mp hp with rfl | hp
    · exact List.mem_append_right _ (.head _)
    · rcases List.mem_append.mp hp with q | q
      · exact List.mem_append_left _ q
      · exact List.mem_append_right _ (.tail _ q)
  · rcases List.mem_append.mp hp with q | q
    · exact List.mem_append_left _ q
    · exact List.mem_append_right _ (.tail _ q)
  · rw [hu] at hp
    rcases List.mem_append.mp hp with q | q
    · exact .tail _ (List.mem_append_left _ q)
    · rcases List.mem_cons.mp q with rfl | q
      · exact .head _
      · exact .tail _ (List.mem_append_right _ q)

section
variable {w : World} {mean : ExcName → Option Value} {mg mb : Str → Option Value} {dp un : Nat} {gd : Option (List Code)} {cn : Str} {cs : Scope} {a : Addr} {ccd : Value} {cl : List (Str × Addr)} {outer : List Env} {A₀ : Around} {base h₀ : Heap} {L : Addr} {m : Str → Option Value} {s : Shared} {Q E : Value → Shared → Prop} {news : List (Addr × Obj)} {u : Obj → List (Addr × Obj)}

theorem next_at {d : Addr} {vs : List Value} {ns : List Int} {n : Nat}
   (B : Below A₀ base outer h₀) (F : Fr h₀ L s.heap m) (X : (Mine.hd0305.heap_39 w.params).In h₀) (N : News h₀ L s.heap news) (U : UpdF d (listOf vs.toArray n) news u)
   (T : Top Mine.hd0305.view_39 (looseW Mine.hd0305.view_39 []) mean mg mb h₀) (hk : cs.kind = .function)
   (hi : IntsAre vs ns) (hdg : Digits ns) (hl : ns.length ≤ 4096) (hd : dp + 1 < recursionLimit) (hu : un + 100 < cLine)
   (h : ∀ v t h' tk' vs' ns' n', 0 ≤ v → v < 1024 → IntsAre vs' ns' → Digits ns' → ns'.length ≤ 4096 → Fr h₀ L h' m → News h₀ L h' (u (listOf vs'.toArray n')) → Q (.int v t) { s with heap := h', toks := tk' }) :
   wpAny (model PySem.Challenge.rw_pb0305_01.row.prog w) (ktrTop dp un gd cn cs L a ccd cl outer) (call (.ref 123) [.ref d]) Q E s := by
  obtain ⟨rest, h1, _, h2, _, h3⟩ := upd_front (h₀ := h₀) (h := s.heap) (L := L) U
  exact next_call w mean mg mb dp un gd cn cs a ccd cl outer A₀ base h₀ L m s Q E rest d vs ns n B F X (h2 N) T hk h1 hi hdg hl hd hu fun v t h' tk' vs' ns' n' a b c e f F' N' => h v t h' tk' vs' ns' n' a b c e f F' (h3 _ _ N')

variable {W x d : Addr} {o : Obj} {kvs : List (Int × Value)} {c : List (Int × Int)} {z : Int} {tz t1 t2 : Tok} {i v k : Int} {tk ti tv : Tok}

theorem mem_front {rest : List (Addr × Obj)} (hm : ∀ p ∈ news, p ∈ (W, o) :: rest) (hx : (x, instObj 98 d) ∈ news) (hd : (d, memD w z tz t1 t2 W) ∈ news) (hWx : @Ne Nat W x) (hWd : @Ne Nat W d) (N : News h₀ L s.heap ((W, o) :: rest)) :
    News h₀ L s.heap ((W, o) :: (x, instObj 98 d) :: (d, memD w z tz t1 t2 W) :: rest) := fun p hp => by
  rcases List.mem_cons.mp hp with rfl | hp
  · exact N _ (.head _)
  · rcases List.mem_cons.mp hp with rfl | hp
    · exact N _ (hm _ hx)
    · rcases List.mem_cons.mp hp with rfl | hp
      · exact N _ (hm _ hd)
      · exact N _ (.tail _ hp)
theorem mem_back {h : Heap} {rest : List (Addr × Obj)} (N : News h₀ L h ((W, o) :: (x, instObj 98 d) :: (d, memD w z tz t1 t2 W) :: rest)) : News h₀ L h ((W, o) :: rest) := fun p hp => by
  rcases List.mem_cons.mp hp with rfl | hp
  · exact N _ (.head _)
  · exact N _ (.tail _ (.tail _ (.tail _ hp)))

theorem kept_bad_at0 (B : Below A₀ h₀ [] h₀) (F : Fr h₀ L s.heap m) (X : (Mine.hd0305.heap_39 w.params).In h₀) (N : News h₀ L s.heap news) (U : UpdF W o news u) (hx : (x, instObj 98 d) ∈ news) (hm : (d, memD w z tz t1 t2 W) ∈ news)
   (T : Top Mine.hd0305.view_39 (looseW Mine.hd0305.view_39 []) mean mg mb h₀) (hk : cs.kind = .function) (hd : dp + 10 < recursionLimit) (hu : un + 200 < cLine)
   (lo : (W == sysModules) = false) (hdict : o.IsDictOf (intKind PySem.Challenge.rw_pb0305_01.row.prog w) kvs) (hflat : PyProof.V.FlatPairs PyData.int kvs (kdfD c)) (hlen : c.length ≤ 4096) (hWx : @Ne Nat W x) (hWd : @Ne Nat W d)
   (hkk : k = 0) (hbad : i < 0 ∨ z ≤ i)
   (h : ∀ t h' tk', Fr h₀ L h' m → News h₀ L h' news → Q (.str (Str.ofString "trap 4") t) { s with heap := h', toks := tk' }) :
   wpAny (model PySem.Challenge.rw_pb0305_01.row.prog w) (ktrTop dp un gd cn cs L a ccd cl []) (call (.ref 130) [.ref x, .int k tk, .int i ti, .int v tv]) Q E s := by
  subst hkk
  obtain ⟨rest, h1, hall, h2, _, h3⟩ := upd_front (h₀ := h₀) (h := s.heap) (L := L) U
  exact kept_bad0 w mean mg mb dp un gd cn cs a ccd cl A₀ h₀ L m s Q E rest W x d o kvs c z tz t1 t2 i v tk ti tv B F X (mem_front hall hx hm hWx hWd (h2 N)) T hk hd hu lo hdict hflat hlen hbad fun t h' tk' F' N' => h t h' tk' F' fun p hp => (mem_back N') p (hall p hp)

theorem kept_bad_at1 (B : Below A₀ h₀ [] h₀) (F : Fr h₀ L s.heap m) (X : (Mine.hd0305.heap_39 w.params).In h₀) (N : News h₀ L s.heap news) (U : UpdF W o news u) (hx : (x, instObj 98 d) ∈ news) (hm : (d, memD w z tz t1 t2 W) ∈ news)
   (T : Top Mine.hd0305.view_39 (looseW Mine.hd0305.view_39 []) mean mg mb h₀) (hk : cs.kind = .function) (hd : dp + 10 < recursionLimit) (hu : un + 200 < cLine)
   (lo : (W == sysModules) = false) (hdict : o.IsDictOf (intKind PySem.Challenge.rw_pb0305_01.row.prog w) kvs) (hflat : PyProof.V.FlatPairs PyData.int kvs (kdfD c)) (hlen : c.length ≤ 4096) (hWx : @Ne Nat W x) (hWd : @Ne Nat W d)
   (hkk : k = 1) (hbad : i < 0 ∨ z ≤ i)
   (h : ∀ t h' tk', Fr h₀ L h' m → News h₀ L h' news → Q (.str (Str.ofString "trap 4") t) { s with heap := h', toks := tk' }) :
   wpAny (model PySem.Challenge.rw_pb0305_01.row.prog w) (ktrTop dp un gd cn cs L a ccd cl []) (call (.ref 130) [.ref x, .int k tk, .int i ti, .int v tv]) Q E s := by
  subst hkk
  obtain ⟨rest, h1, hall, h2, _, h3⟩ := upd_front (h₀ := h₀) (h := s.heap) (L := L) U
  exact kept_bad1 w mean mg mb dp un gd cn cs a ccd cl A₀ h₀ L m s Q E rest W x d o kvs c z tz t1 t2 i v tk ti tv B F X (mem_front hall hx hm hWx hWd (h2 N)) T hk hd hu lo hdict hflat hlen hbad fun t h' tk' F' N' => h t h' tk' F' fun p hp => (mem_back N') p (hall p hp)

theorem kept_bad_at2 (B : Below A₀ h₀ [] h₀) (F : Fr h₀ L s.heap m) (X : (Mine.hd0305.heap_39 w.params).In h₀) (N : News h₀ L s.heap news) (U : UpdF W o news u) (hx : (x, instObj 98 d) ∈ news) (hm : (d, memD w z tz t1 t2 W) ∈ news)
   (T : Top Mine.hd0305.view_39 (looseW Mine.hd0305.view_39 []) mean mg mb h₀) (hk : cs.kind = .function) (hd : dp + 10 < recursionLimit) (hu : un + 200 < cLine)
   (lo : (W == sysModules) = false) (hdict : o.IsDictOf (intKind PySem.Challenge.rw_pb0305_01.row.prog w) kvs) (hflat : PyProof.V.FlatPairs PyData.int kvs (kdfD c)) (hlen : c.length ≤ 4096) (hWx : @Ne Nat W x) (hWd : @Ne Nat W d)
   (hkk : k = 2) (hbad : i < 0 ∨ z ≤ i)
   (h : ∀ t h' tk', Fr h₀ L h' m → News h₀ L h' news → Q (.str (Str.ofString "trap 4") t) { s with heap := h', toks := tk' }) :
   wpAny (model PySem.Challenge.rw_pb0305_01.row.prog w) (ktrTop dp un gd cn cs L a ccd cl []) (call (.ref 130) [.ref x, .int k tk, .int i ti, .int v tv]) Q E s := by
  subst hkk
  obtain ⟨rest, h1, hall, h2, _, h3⟩ := upd_front (h₀ := h₀) (h := s.heap) (L := L) U
  exact kept_bad2 w mean mg mb dp un gd cn cs a ccd cl A₀ h₀ L m s Q E rest W x d o kvs c z tz t1 t2 i v tk ti tv B F X (mem_front hall hx hm hWx hWd (h2 N)) T hk hd hu lo hdict hflat hlen hbad fun t h' tk' F' N' => h t h' tk' F' fun p hp => (mem_back N') p (hall p hp)

theorem kept_bad_at3 (B : Below A₀ h₀ [] h₀) (F : Fr h₀ L s.heap m) (X : (Mine.hd0305.heap_39 w.params).In h₀) (N : News h₀ L s.heap news) (U : UpdF W o news u) (hx : (x, instObj 98 d) ∈ news) (hm : (d, memD w z tz t1 t2 W) ∈ news)
   (T : Top Mine.hd0305.view_39 (looseW Mine.hd0305.view_39 []) mean mg mb h₀) (hk : cs.kind = .function) (hd : dp + 10 < recursionLimit) (hu : un + 200 < cLine)
   (lo : (W == sysModules) = false) (hdict : o.IsDictOf (intKind PySem.Challenge.rw_pb0305_01.row.prog w) kvs) (hflat : PyProof.V.FlatPairs PyData.int kvs (kdfD c)) (hlen : c.length ≤ 4096) (hWx : @Ne Nat W x) (hWd : @Ne Nat W d)
   (hkk : k = 3) (hbad : i < 0 ∨ z ≤ i)
   (h : ∀ t h' tk', Fr h₀ L h' m → News h₀ L h' news → Q (.str (Str.ofString "trap 4") t) { s with heap := h', toks := tk' }) :
   wpAny (model PySem.Challenge.rw_pb0305_01.row.prog w) (ktrTop dp un gd cn cs L a ccd cl []) (call (.ref 130) [.ref x, .int k tk, .int i ti, .int v tv]) Q E s := by
  subst hkk
  obtain ⟨rest, h1, hall, h2, _, h3⟩ := upd_front (h₀ := h₀) (h := s.heap) (L := L) U
  exact kept_bad3 w mean mg mb dp un gd cn cs a ccd cl A₀ h₀ L m s Q E rest W x d o kvs c z tz t1 t2 i v tk ti tv B F X (mem_front hall hx hm hWx hWd (h2 N)) T hk hd hu lo hdict hflat hlen hbad fun t h' tk' F' N' => h t h' tk' F' fun p hp => (mem_back N') p (hall p hp)

theorem kept_good_at0 (B : Below A₀ h₀ [] h₀) (F : Fr h₀ L s.heap m) (X : (Mine.hd0305.heap_39 w.params).In h₀) (N : News h₀ L s.heap news) (U : UpdF W o news u) (hx : (x, instObj 98 d) ∈ news) (hm : (d, memD w z tz t1 t2 W) ∈ news)
   (T : Top Mine.hd0305.view_39 (looseW Mine.hd0305.view_39 []) mean mg mb h₀) (hk : cs.kind = .function) (hd : dp + 10 < recursionLimit) (hu : un + 200 < cLine)
   (lo : (W == sysModules) = false) (hdict : o.IsDictOf (intKind PySem.Challenge.rw_pb0305_01.row.prog w) kvs) (hflat : PyProof.V.FlatPairs PyData.int kvs (kdfD c)) (hlen : c.length ≤ 4096) (hWx : @Ne Nat W x) (hWd : @Ne Nat W d)
   (hkk : k = 0) (h0 : 0 ≤ i) (h1' : i < z) (hl0 : 0 ≤ kdfLook c (i.fdiv 4) 0) (hl1 : kdfLook c (i.fdiv 4) 0 < 4294967296)
   (h : ∀ h' tk' o' kvs', Fr h₀ L h' m → News h₀ L h' (u o') → o'.IsDictOf (intKind PySem.Challenge.rw_pb0305_01.row.prog w) kvs' → PyProof.V.FlatPairs PyData.int kvs' (kdfD (kdfPut c (i.fdiv 4) (v.fmod 4294967296))) → Q .none { s with heap := h', toks := tk' }) :
   wpAny (model PySem.Challenge.rw_pb0305_01.row.prog w) (ktrTop dp un gd cn cs L a ccd cl []) (call (.ref 130) [.ref x, .int k tk, .int i ti, .int v tv]) Q E s := by
  subst hkk
  obtain ⟨rest, h1, hall, h2, _, h3⟩ := upd_front (h₀ := h₀) (h := s.heap) (L := L) U
  exact kept_good0 w mean mg mb dp un gd cn cs a ccd cl A₀ h₀ L m s Q E rest W x d o kvs c z tz t1 t2 i v tk ti tv B F X (mem_front hall hx hm hWx hWd (h2 N)) T hk hd hu lo hdict hflat hlen hWx hWd h1 h0 h1' hl0 hl1 fun h' tk' o' kvs' F' N' a b => h h' tk' o' kvs' F' (h3 _ _ (mem_back N')) a b

theorem kept_good_at1 (B : Below A₀ h₀ [] h₀) (F : Fr h₀ L s.heap m) (X : (Mine.hd0305.heap_39 w.params).In h₀) (N : News h₀ L s.heap news) (U : UpdF W o news u) (hx : (x, instObj 98 d) ∈ news) (hm : (d, memD w z tz t1 t2 W) ∈ news)
   (T : Top Mine.hd0305.view_39 (looseW Mine.hd0305.view_39 []) mean mg mb h₀) (hk : cs.kind = .function) (hd : dp + 10 < recursionLimit) (hu : un + 200 < cLine)
   (lo : (W == sysModules) = false) (hdict : o.IsDictOf (intKind PySem.Challenge.rw_pb0305_01.row.prog w) kvs) (hflat : PyProof.V.FlatPairs PyData.int kvs (kdfD c)) (hlen : c.length ≤ 4096) (hWx : @Ne Nat W x) (hWd : @Ne Nat W d)
   (hkk : k = 1) (h0 : 0 ≤ i) (h1' : i < z) (hl0 : 0 ≤ kdfLook c (i.fdiv 4) 0) (hl1 : kdfLook c (i.fdiv 4) 0 < 4294967296)
   (h : ∀ h' tk' o' kvs', Fr h₀ L h' m → News h₀ L h' (u o') → o'.IsDictOf (intKind PySem.Challenge.rw_pb0305_01.row.prog w) kvs' → PyProof.V.FlatPairs PyData.int kvs' (kdfD (kdfPut c (i.fdiv 4) (setByte (kdfLook c (i.fdiv 4) 0) (i % 4) v))) → Q .none { s with heap := h', toks := tk' }) :
   wpAny (model PySem.Challenge.rw_pb0305_01.row.prog w) (ktrTop dp un gd cn cs L a ccd cl []) (call (.ref 130) [.ref x, .int k tk, .int i ti, .int v tv]) Q E s := by
  subst hkk
  obtain ⟨rest, h1, hall, h2, _, h3⟩ := upd_front (h₀ := h₀) (h := s.heap) (L := L) U
  exact kept_good1 w mean mg mb dp un gd cn cs a ccd cl A₀ h₀ L m s Q E rest W x d o kvs c z tz t1 t2 i v tk ti tv B F X (mem_front hall hx hm hWx hWd (h2 N)) T hk hd hu lo hdict hflat hlen hWx hWd h1 h0 h1' hl0 hl1 fun h' tk' o' kvs' F' N' a b => h h' tk' o' kvs' F' (h3 _ _ (mem_back N')) a b

theorem kept_good_at2 (B : Below A₀ h₀ [] h₀) (F : Fr h₀ L s.heap m) (X : (Mine.hd0305.heap_39 w.params).In h₀) (N : News h₀ L s.heap news) (U : UpdF W o news u) (hx : (x, instObj 98 d) ∈ news) (hm : (d, memD w z tz t1 t2 W) ∈ news)
   (T : Top Mine.hd0305.view_39 (looseW Mine.hd0305.view_39 []) mean mg mb h₀) (hk : cs.kind = .function) (hd : dp + 10 < recursionLimit) (hu : un + 200 < cLine)
   (lo : (W == sysModules) = false) (hdict : o.IsDictOf (intKind PySem.Challenge.rw_pb0305_01.row.prog w) kvs) (hflat : PyProof.V.FlatPairs PyData.int kvs (kdfD c)) (hlen : c.length ≤ 4096) (hWx : @Ne Nat W x) (hWd : @Ne Nat W d)
   (hkk : k = 2) (h0 : 0 ≤ i) (h1' : i < z) (hl0 : 0 ≤ kdfLook c (i.fdiv 4) 0) (hl1 : kdfLook c (i.fdiv 4) 0 < 4294967296)
   (h : ∀ t h' tk', Fr h₀ L h' m → News h₀ L h' news → Q (.int (kdfLook c (i.fdiv 4) 0) t) { s with heap := h', toks := tk' }) :
   wpAny (model PySem.Challenge.rw_pb0305_01.row.prog w) (ktrTop dp un gd cn cs L a ccd cl []) (call (.ref 130) [.ref x, .int k tk, .int i ti, .int v tv]) Q E s := by
  subst hkk
  obtain ⟨rest, h1, hall, h2, _, h3⟩ := upd_front (h₀ := h₀) (h := s.heap) (L := L) U
  exact kept_good2 w mean mg mb dp un gd cn cs a ccd cl A₀ h₀ L m s Q E rest W x d o kvs c z tz t1 t2 i v tk ti tv B F X (mem_front hall hx hm hWx hWd (h2 N)) T hk hd hu lo hdict hflat hlen hWx hWd h1 h0 h1' hl0 hl1 fun t h' tk' F' N' => h t h' tk' F' fun p hp => (mem_back N') p (hall p hp)

theorem kept_good_at3 (B : Below A₀ h₀ [] h₀) (F : Fr h₀ L s.heap m) (X : (Mine.hd0305.heap_39 w.params).In h₀) (N : News h₀ L s.heap news) (U : UpdF W o news u) (hx : (x, instObj 98 d) ∈ news) (hm : (d, memD w z tz t1 t2 W) ∈ news)
   (T : Top Mine.hd0305.view_39 (looseW Mine.hd0305.view_39 []) mean mg mb h₀) (hk : cs.kind = .function) (hd : dp + 10 < recursionLimit) (hu : un + 200 < cLine)
   (lo : (W == sysModules) = false) (hdict : o.IsDictOf (intKind PySem.Challenge.rw_pb0305_01.row.prog w) kvs) (hflat : PyProof.V.FlatPairs PyData.int kvs (kdfD c)) (hlen : c.length ≤ 4096) (hWx : @Ne Nat W x) (hWd : @Ne Nat W d)
   (hkk : k = 3) (h0 : 0 ≤ i) (h1' : i < z) (hl0 : 0 ≤ kdfLook c (i.fdiv 4) 0) (hl1 : kdfLook c (i.fdiv 4) 0 < 4294967296)
   (h : ∀ t h' tk', Fr h₀ L h' m → News h₀ L h' news → Q (.int (byteAt (kdfLook c (i.fdiv 4) 0) (i % 4)) t) { s with heap := h', toks := tk' }) :
   wpAny (model PySem.Challenge.rw_pb0305_01.row.prog w) (ktrTop dp un gd cn cs L a ccd cl []) (call (.ref 130) [.ref x, .int k tk, .int i ti, .int v tv]) Q E s := by
  subst hkk
  obtain ⟨rest, h1, hall, h2, _, h3⟩ := upd_front (h₀ := h₀) (h := s.heap) (L := L) U
  exact kept_good3 w mean mg mb dp un gd cn cs a ccd cl A₀ h₀ L m s Q E rest W x d o kvs c z tz t1 t2 i v tk ti tv B F X (mem_front hall hx hm hWx hWd (h2 N)) T hk hd hu lo hdict hflat hlen hWx hWd h1 h0 h1' hl0 hl1 fun t h' tk' F' N' => h t h' tk' F' fun p hp => (mem_back N') p (hall p hp)
end
end Mine
end

-- part PQ
section
open PySem PySem.W PySem.Calls PyProof.Rows
set_option Elab.async false
set_option maxRecDepth 100000
namespace Mine
/-- the row of cells tells what the words hold -/
structure MemInv (z : Int) (c : List (Int × Int)) (nc : List Int) : Prop where
  len : (nc.length : Int) = z
  words : ∀ k, 0 ≤ kdfLook c k 0 ∧ kdfLook c k 0 < 4294967296
  bytes : ∀ j : Int, 0 ≤ j → j < z → nc.getD j.toNat 0 = byteAt (kdfLook c (j / 4) 0) (j % 4)
/-- what a turn of the law's loop changes: the cells, the words, the row of figures, two cells of the frame -/
structure St where
  vc : List Value
  nc : List Int
  kc : Nat
  oW : Obj
  kvs : List (Int × Value)
  c : List (Int × Int)
  vr : List Value
  nr : List Int
  kr : Nat
  ob : Obj
  xb : Option Value
  ov : Obj
  xv : Option Value
abbrev Led (Dc l1 W x d Dr a4 a3 a2 a1 : Addr) (o1 mem oC oS : Obj) (s : St) : List (Addr × Obj) :=
  [(Dc, listOf s.vc.toArray s.kc), (l1, o1), (W, s.oW), (x, instObj 98 d), (d, mem), (Dr, listOf s.vr.toArray s.kr), (a4, s.ob), (a3, s.ov), (a2, oC), (a1, oS)]
structure Facts (w : World) (s : St) : Prop where
  ic : IntsAre s.vc s.nc
  di : s.oW.IsDictOf (intKind PySem.Challenge.rw_pb0305_01.row.prog w) s.kvs
  fl : PyProof.V.FlatPairs PyData.int s.kvs (kdfD s.c)
  ir : IntsAre s.vr s.nr
  hb : s.ob.data = .cell s.xb
  hv : s.ov.data = .cell s.xv
structure Says (z : Int) (pre : List Int) (s : St) : Prop where
  dg : Digits s.nr
  lr : s.nr.length ≤ 4096
  lc : s.c.length ≤ pre.length
  inv : MemInv z s.c s.nc
def TurnEnd (w : World) (z : Int) (h₀ : Heap) (L : Addr) (x : Str) (stored : List Str) (m₀ : Str → Option Value) (led : St → List (Addr × Obj)) (own : List (Addr × Obj)) (pre : List Int) (s₁ : Shared) (f : Flow) (s₂ : Shared) : Prop :=
  match f with
  | .ret _ => False
  | .brk => False
  | _ => ∃ c' h' tk m' news', s₂ = { s₁ with heap := h', toks := tk } ∧ Fr h₀ L h' m' ∧ News h₀ L h' news' ∧ (∀ p ∈ led c', p ∈ news') ∧ (∀ p ∈ own, p ∈ news') ∧ Facts w c' ∧ Says z pre c' ∧ ∀ y, y ≠ x → stored.contains y = false → m' y = m₀ y

section
variable {w : World} {A : Around} {E : Value → Shared → Prop} {s : Shared} {env : Env} {h₀ : Heap} {x : Str} {body : List Stmt} {Q : Flow → Shared → Prop}
theorem main_loop (z : Int) {r : Addr} {b₀ : Int} {t₀ u₀ v₀ : Tok} {m₀ : Str → Option Value} (stored : List Str) {Dc l1 W xx d Dr a4 a3 a2 a1 : Addr} {o1 mem oC oS : Obj} {vc vr : List Value} {nc nr : List Int} {kc kr : Nat} {oW ob ov : Obj} {kvs : List (Int × Value)} {c : List (Int × Int)} {xb xv : Option Value}
    (hh : A.handled = none) (hr : IsRange s.heap r 0 b₀ 1 t₀ u₀ v₀) (hb₀ : 0 ≤ b₀ ∧ b₀ < 31) (F : Fr h₀ env.locals s.heap m₀)
    (N : News h₀ env.locals s.heap [(Dc, listOf vc.toArray kc), (l1, o1), (W, oW), (xx, instObj 98 d), (d, mem), (Dr, listOf vr.toArray kr), (a4, ob), (a3, ov), (a2, oC), (a1, oS)])
    (f1 : IntsAre vc nc) (f2 : oW.IsDictOf (intKind PySem.Challenge.rw_pb0305_01.row.prog w) kvs) (f3 : PyProof.V.FlatPairs PyData.int kvs (kdfD c)) (f4 : IntsAre vr nr) (f5 : ob.data = .cell xb) (f6 : ov.data = .cell xv)
    (g1 : Digits nr) (g2 : nr.length ≤ 4096) (g3 : c = []) (g4 : MemInv z c nc)
    (turn : ∀ (c : St) (pre : List Int) (k : Int) t (u : Str → Option Value) h tk own, pre.length < 31 → OwnOff own [Dc, l1, W, xx, d, Dr, a4, a3, a2, a1] → Facts w c → Says z pre c →
      Fr h₀ env.locals h (fun y => if y = x then some (.int k t) else if stored.contains y = true then u y else m₀ y) → News h₀ env.locals h (Led Dc l1 W xx d Dr a4 a3 a2 a1 o1 mem oC oS c ++ own) →
      wpAny (model PySem.Challenge.rw_pb0305_01.row.prog w) A (execs body env) (TurnEnd w z h₀ env.locals x stored m₀ (Led Dc l1 W xx d Dr a4 a3 a2 a1 o1 mem oC oS) own (pre ++ [k]) { s with heap := h, toks := tk }) E { s with heap := h, toks := tk })
    (done : ∀ (c : St) (pre : List Int) (u : Str → Option Value) h tk, pre.length < 31 → Facts w c → Says z pre c → Fr h₀ env.locals h (fun y => if y = x then u y else if stored.contains y = true then u y else m₀ y) → News h₀ env.locals h (Led Dc l1 W xx d Dr a4 a3 a2 a1 o1 mem oC oS c) → Q .next { s with heap := h, toks := tk }) :
    wpAny (model PySem.Challenge.rw_pb0305_01.row.prog w) A (pyIter (.ref r)) (fun it s₂ => LoopAtV PySem.Challenge.rw_pb0305_01.row.prog w A h₀ env x body Q E it s₂) E s := by
  refine kst_range (n := b₀.toNat) (Led Dc l1 W xx d Dr a4 a3 a2 a1 o1 mem oC oS) (fun _ => []) (Facts w) stored (Says z) ⟨vc, nc, kc, oW, kvs, c, vr, nr, kr, ob, xb, ov, xv⟩ hh hr (small_one (by omega) (by omega) (by omega) (by omega)) ?_ F N ⟨f1, f2, f3, f4, f5, f6⟩ (fun _ h => nomatch h) ⟨g1, g2, by rw [g3]; simp, g4⟩ ?_ ?_
  · rw [rangeSize_one]; first | omega | (split <;> omega)
  · intro c pre k t u h tk own hk hl hoff hf hp F₁ N₁
    refine wpAny_mono (turn c pre k t u h tk own (by omega) hoff hf hp F₁ N₁) (fun f s₂ p => ?_) fun _ _ e => e
    have fin : TurnEnd w z h₀ env.locals x stored m₀ (Led Dc l1 W xx d Dr a4 a3 a2 a1 o1 mem oC oS) own (pre ++ [k]) { s with heap := h, toks := tk } .next s₂ → InvEndN h₀ env.locals (KstS (Led Dc l1 W xx d Dr a4 a3 a2 a1 o1 mem oC oS) (fun _ => []) (Facts w) x stored m₀ (Says z) (pre ++ [k])) own [Dc, l1, W, xx, d, Dr, a4, a3, a2, a1] { s with heap := h, toks := tk } s₂ := by
      rintro ⟨c', h', tk', m', news', rfl, F', N', hn, ho, hf', hp', hm⟩
      exact kst_end c' F' N' hn ho rfl hf' (fun _ h => nomatch h) (fun y h1 _ h3 => hm y h1 h3) hp'
    cases f with
    | ret v => exact p.elim
    | brk => exact p.elim
    | next => exact fin p
    | cont => exact fin p
  · intro c u h tk hf hp F₁ N₁
    exact done c _ u h tk (by rw [rangeKs_length]; omega) hf hp F₁ N₁
end
end Mine
end

-- part PC
section
open PySem PySem.W PyProof.Rows
set_option Elab.async false
namespace Mine
local macro_rules | `(tactic| k_all) => `(tactic| assumption)
local macro_rules | `(tactic| units_room) => `(tactic| ((simp only [units_under_make, units_in1, units_deeper, Around.mark_units, units_caller]); (try dsimp only [ktrTop]); omega))
local macro_rules | `(tactic| k_enter) => `(tactic| cell_enter)
local macro_rules | `(tactic| k_room) => `(tactic| ktr_room)
local macro_rules | `(tactic| walk_at "binaryOp LShift int int") => `(tactic| (k_here; (try k_fmods); (with_reducible refine lshift_int_small ?kb1 ?kb2 ?kb3 ?_); (case kb1 => omega); (case kb2 => omega); (case kb3 => first | decide | exact and255_small _)))
set_option maxRecDepth 100000 in
set_option maxHeartbeats 8000000 in
theorem byte_keep : ∀ (w : World) (mean : ExcName → Option Value) (mg mb : Str → Option Value) (dp un : Nat) (gd : Option (List Code)) (cn : Str) (cs : Scope) (a : Addr) (ccd : Value) (cl : List (Str × Addr)) (outer : List Env) (A₀ : Around) (base h₀ : Heap) (L : Addr) (m : Str → Option Value) (s : Shared) (Q E : Value → Shared → Prop)
   (rest : List (Addr × Obj)) (W x d : Addr) (o : Obj) (kvs : List (Int × Value)) (c : List (Int × Int)) (z : Int) (tz t1 t2 : Tok) (i : Int) (ti : Tok),
   Below A₀ base outer h₀ → Fr h₀ L s.heap m → (Mine.hd0305.heap_39 w.params).In h₀ → News h₀ L s.heap ((W, o) :: (x, instObj 98 d) :: (d, memD w z tz t1 t2 W) :: rest) →
   Top Mine.hd0305.view_39 (looseW Mine.hd0305.view_39 []) mean mg mb h₀ → cs.kind = .function →
   dp + 6 < recursionLimit → un + 100 < cLine →
   (W == sysModules) = false → o.IsDictOf (intKind PySem.Challenge.rw_pb0305_01.row.prog w) kvs → PyProof.V.FlatPairs PyData.int kvs (kdfD c) → c.length ≤ 4096 →
   0 ≤ i → i < z → (∀ t h' tk', Fr h₀ L h' m → News h₀ L h' ((W, o) :: (x, instObj 98 d) :: (d, memD w z tz t1 t2 W) :: rest) → InElt s.heap h' → Q (.int (byteAt (kdfLook c (i.fdiv 4) 0) (i % 4)) t) { s with heap := h', toks := tk' }) →
   wpAny (model PySem.Challenge.rw_pb0305_01.row.prog w) (ktrTop dp un gd cn cs L a ccd cl outer) (call (.ref 88) [.ref x, .int i ti]) Q E s := by
  k_fill
  intro w mean mg mb dp un gd cn cs a ccd cl outer A₀ base h₀ L m s Q E rest W x d o kvs c z tz t1 t2 i ti B F X N T hk hd hu lo hdict hflat hclen h0 h1 hret
  w_top off
  w_strict (
    refine wpAny_call ?_
    k_dflt (refine' code_defG ?k1 ?k2 ?k3 ?k4 ?k5 ?kA ?kF ?kK ?k6 ?k7 ?k8 ?k9 ?kB ?_ ?c2 ?c3 ?c4 ?c5; (case kA => exact rfl); (case kF => exact rfl); (case kK => assumption); (case k1 => k_asm); (case k2 => k_asm); (case k3 => k_asm); (case k4 => k_asm); (case k5 => k_asm); (case k6 => k_is); (case k7 => k_is); (case k8 => ktr_room); (case k9 => exact BindsTo.of_eq rfl); (case c5 => decide); (case kB => exact locs rfl); (case c2 => exact rfl); (case c3 => exact rfl); (case c4 => exact rfl); k_whole; intro g' L' h' FG' F' N' B' X' T' kG'; (try dsimp only); (try k_lift B'); (try k_fold))
    k_steps
    rw [byte_eq]
    exact hret _ _ _ (by k_asm) (by k_asm) (elt_after (InElt.start _) kG' N (by k_asm) (by k_asm) (fun p hp => hp)))

section
open PySem.Calls
variable {w : World} {mean : ExcName → Option Value} {mg mb : Str → Option Value} {dp un : Nat} {gd : Option (List Code)} {cn : Str} {cs : Scope} {a : Addr} {ccd : Value} {cl : List (Str × Addr)} {outer : List Env} {A₀ : Around} {base h₀ : Heap} {L : Addr} {m : Str → Option Value} {s : Shared} {Q E : Value → Shared → Prop} {news : List (Addr × Obj)}
  {W x d : Addr} {o : Obj} {kvs : List (Int × Value)} {c : List (Int × Int)} {z : Int} {tz t1 t2 : Tok} {i : Int} {ti : Tok}
theorem byte_keep_at (B : Below A₀ base outer h₀) (F : Fr h₀ L s.heap m) (X : (Mine.hd0305.heap_39 w.params).In h₀) (N : News h₀ L s.heap news) (hW : (W, o) ∈ news) (hx : (x, instObj 98 d) ∈ news) (hm : (d, memD w z tz t1 t2 W) ∈ news)
   (T : Top Mine.hd0305.view_39 (looseW Mine.hd0305.view_39 []) mean mg mb h₀) (hk : cs.kind = .function) (hd : dp + 6 < recursionLimit) (hu : un + 100 < cLine)
   (lo : (W == sysModules) = false) (hdict : o.IsDictOf (intKind PySem.Challenge.rw_pb0305_01.row.prog w) kvs) (hflat : PyProof.V.FlatPairs PyData.int kvs (kdfD c)) (hlen : c.length ≤ 4096)
   (h0 : 0 ≤ i) (h1' : i < z)
   (h : ∀ t h' tk', Fr h₀ L h' m → News h₀ L h' news → InElt s.heap h' → Q (.int (byteAt (kdfLook c (i.fdiv 4) 0) (i % 4)) t) { s with heap := h', toks := tk' }) :
   wpAny (model PySem.Challenge.rw_pb0305_01.row.prog w) (ktrTop dp un gd cn cs L a ccd cl outer) (call (.ref 88) [.ref x, .int i ti]) Q E s := by
  refine byte_keep w mean mg mb dp un gd cn cs a ccd cl outer A₀ base h₀ L m s Q E news W x d o kvs c z tz t1 t2 i ti B F X (fun p hp => N p ?_) T hk hd hu lo hdict hflat hlen h0 h1' fun t h' tk' F' N' K => h t h' tk' F' (fun p hp => N' p (.tail _ (.tail _ (.tail _ hp)))) K
  rcases List.mem_cons.mp hp with rfl | hp
  · exact hW
  · rcases List.mem_cons.mp hp with rfl | hp
    · exact hx
    · rcases List.mem_cons.mp hp with rfl | hp
      · exact hm
      · exact hp
end
end Mine
end

-- part PF
section
open PySem PySem.W PySem.Calls PyProof.Rows
set_option maxRecDepth 100000
namespace Mine
theorem final_cells {z : Int} {c : List (Int × Int)} {nc : List Int} (h : MemInv z c nc) (hz : 0 ≤ z) : List.map (fun k' : Int => byteAt (kdfLook c (k'.fdiv 4) 0) (k' % 4)) (rangeKs 0 (z - 0).toNat) = nc := by
  have hl := h.len
  refine List.ext_getElem (by rw [List.length_map, rangeKs_length]; omega) fun j h1 h2 => ?_
  rw [List.length_map, rangeKs_length] at h1
  have hb := h.bytes (j : Int) (by omega) (by omega)
  rw [Int.toNat_natCast, List.getD_eq_getElem?_getD, List.getElem?_eq_getElem h2, Option.getD_some] at hb
  rw [hb, List.getElem_map]
  have e : (rangeKs 0 (z - 0).toNat)[j]'(by rw [rangeKs_length]; exact h1) = (j : Int) := by simp [rangeKs]
  rw [e, Int.fdiv_eq_ediv_of_nonneg _ (by decide)]
end Mine
end

-- part PS
section
open PySem PySem.W PySem.Calls PyProof.Rows
set_option Elab.async false
set_option maxRecDepth 100000
namespace Mine
theorem pow256_ne (k : Nat) : (256 : Int) ^ k ≠ 0 := Int.ne_of_gt (Int.pow_pos (by decide))
theorem pow256_py {a k : Int} (h : k < 0 + ((4 - 0 : Int).toNat : Int)) : Builtin.divisionGoesByPylong a (256 ^ k.toNat) = false := by
  have h' : k.toNat = 0 ∨ k.toNat = 1 ∨ k.toNat = 2 ∨ k.toNat = 3 := by simp at h; omega
  refine PyProof.noPylong_of_log2 ?_
  rcases h' with h' | h' | h' | h' <;> rw [h'] <;> decide +kernel
theorem pow256_bits {k : Int} (h : k < 0 + ((4 - 0 : Int).toNat : Int)) : Builtin.Int.intBits (256 ^ k.toNat) ≤ 64 := by
  have h' : k.toNat = 0 ∨ k.toNat = 1 ∨ k.toNat = 2 ∨ k.toNat = 3 := by simp at h; omega
  rcases h' with h' | h' | h' | h' <;> rw [h'] <;> exact intBits_le_64 (by decide) (by decide)
theorem idx_hi {b k : Int} {n : Nat} (h : b + 4 ≤ n) (h2 : k < 0 + ((4 - 0 : Int).toNat : Int)) : b + k < n := by simp at h2; omega
theorem idx_fit {b k z : Int} {n : Nat} (h : b + 4 ≤ n) (h2 : k < 0 + ((4 - 0 : Int).toNat : Int)) (hl : (n : Int) = z) (hz : z ≤ 64) : b + k < 2 ^ 63 := by simp at h2; omega
section
variable {prog : Program} {w : World} {A : Around} {E : Value → Shared → Prop} {s : Shared}
theorem items_of {l : Addr} {items : Array Value} {n : Nat} {Q : Array Value → Shared → Prop} (ho : s.heap.get? l = some (listOf items n)) (h : Q items s) : wpAny (model prog w) A (Builtin.List.listItems (.ref l)) Q E s := by
  unfold Builtin.List.listItems
  exact wpAny_bind (wpAny_seqItems ho rfl (wpAny_pure h))
theorem allItems_of {l : Addr} {items : Array Value} {n : Nat} {msg : String} {Q : Array Value → Shared → Prop} (ho : s.heap.get? l = some (listOf items n)) (h : Q items s) : wpAny (model prog w) A (Builtin.List.listAllItems (.ref l) msg) Q E s := by
  unfold Builtin.List.listAllItems
  refine wpAny_bind (wpAny_typeOf (PySem.IsL.isList (n := n) ho).typeIs ?_)
  rw [if_pos (by decide)]
  exact items_of ho h
theorem slice_set {l sl r : Addr} {items new : Array Value} {n n2 : Nat} {vl vu : Value} {lo hi : Option Int} {Q : Unit → Shared → Prop} (ho : s.heap.get? l = some (listOf items n)) (hr : s.heap.get? r = some (listOf new n2))
    (hs : s.heap.IsSliceOf sl vl vu .none) (pl : IsPart vl lo) (pu : IsPart vu hi) (hz : items.size + new.size ≤ 5000)
    (h : Q () { s with heap := s.heap.update l (Obj.mapSeq fun xs => xs.extract 0 (sliceBounds lo hi none items.size).1.toNat ++ new ++ xs.extract (max (sliceBounds lo hi none items.size).1 (sliceBounds lo hi none items.size).2.1).toNat xs.size) }) :
    wpAny (model prog w) A (setItem (.ref l) (.ref sl) (.ref r)) Q E s := by
  have hl : s.heap.IsList l items := PySem.IsL.isList (n := n) ho
  have hlr : s.heap.IsList r new := PySem.IsL.isList (n := n2) hr
  obtain ⟨os, hos, hcs, hds⟩ := id hs
  have hTs : s.TypeIs (.ref sl) "slice" := ⟨os, hos, hcs⟩
  unfold setItem
  try with_reducible refine wpAny_holding ?_
  first | refine wpAny_bind (wpAny_pure ?_) | skip
  refine wpAny_bind (wpAny_sequenceKey hl.typeIs (by decide) ?_)
  refine wpAny_bind (wpAny_callSpecial?_slot (name := Str.ofString "__setitem__") hl.typeIs slot_list_setitem
    (wpAny_call_entry slot_list_setitem hl.typeIs entry_list_setitem ?_ (args_list_setitem _ _ _)))
  show wpAny _ _ (Builtin.List.listSubscript? (.ref sl) >>= _) _ _ s
  refine wpAny_bind ?_
  unfold Builtin.List.listSubscript?
  refine wpAny_bind (wpAny_specialOf hTs slice_no_index ?_)
  simp only [Option.isNone_none, if_true]
  refine wpAny_pure ?_
  show wpAny _ _ (typeOf (.ref sl) >>= _) _ _ s
  refine wpAny_bind (wpAny_typeOf hTs ?_)
  rw [if_neg (by decide)]
  rw [listSliceParts_eq]
  refine wpAny_bind (wpAny_bind (wpAny_field hos hds (x := .none) rfl (wpAny_bind (wpAny_listPart .none ?_))))
  rw [if_neg (show ¬ ((rawPart none == rawInt 0) = true) from Bool.false_ne_true)]
  refine wpAny_bind (wpAny_field hos hds (x := vl) rfl (wpAny_bind (wpAny_listPart pl ?_)))
  refine wpAny_bind (wpAny_field hos hds (x := vu) rfl (wpAny_bind (wpAny_listPart pu (wpAny_pure ?_))))
  split
  all_goals first | refine wpAny_bind (items_of hr ?_) | refine wpAny_bind (allItems_of hr ?_)
  all_goals
    refine wpAny_bind (items_of ho ?_)
    refine wpAny_bind (wpAny_of_eq (sliceIndices_raw lo hi none items.size (by simp)) ?_)
    rw [if_pos (show ((sliceBounds lo hi none items.size).2.2 == 1) = true from rfl)]
    refine wpAny_bind (wpAny_rule ?_)
    rw [if_neg (show ¬ (Builtin.List.listTooLong (items.size + new.size) = true) by unfold Builtin.List.listTooLong; rw [sizeLine_eq]; simp; omega)]
    unfold Builtin.List.listUpdate
    refine wpAny_bind (wpAny_updateSeq ho rfl ?_ ?_ ?_)
    · exact wpAny_bind (wpAny_letGo (wpAny_pure ⟨.none, rfl, wpAny_pure h⟩))
    · rw [sizeLine_eq]; omega
    · rw [sizeLine_eq]; simp only [Array.size_append, Array.size_extract]; omega

theorem bounds_in {b : Int} {n : Nat} (h0 : 0 ≤ b) (h1 : b + 4 ≤ n) : sliceBounds (some b) (some (b + 4)) none n = (b, b + 4, 1) := by
  unfold sliceBounds
  simp only [Option.getD_none]
  rw [if_pos (show (1 : Int) > 0 by decide), if_pos (show (1 : Int) > 0 by decide), if_neg (show ¬ b < 0 by omega), if_neg (show ¬ b + 4 < 0 by omega)]
  rw [show max 0 (min b (n : Int)) = b by omega, show max 0 (min (b + 4) (n : Int)) = b + 4 by omega]
theorem cut_eq (vs ws : List Value) (b : Int) (h0 : 0 ≤ b) : vs.toArray.extract 0 b.toNat ++ ws.toArray ++ vs.toArray.extract (max b (b + 4)).toNat vs.toArray.size = (vs.take b.toNat ++ ws ++ vs.drop (b.toNat + 4)).toArray := by
  apply Array.toList_inj.mp
  have e : (max b (b + 4)).toNat = b.toNat + 4 := by omega
  rw [e]
  simp only [Array.toList_append, Array.toList_extract, List.size_toArray]
  simp [List.take_of_length_le]
variable {h₀ h : Heap} {L D l sl : Addr} {m : Str → Option Value} {news : List (Addr × Obj)} {u : Obj → List (Addr × Obj)} {vs ws : List Value} {ns ms : List Int} {n n2 : Nat} {b : Int} {tb te : Tok}
theorem ints_app : ∀ {vs : List Value} {ns : List Int} {ws : List Value} {ms : List Int}, IntsAre vs ns → IntsAre ws ms → IntsAre (vs ++ ws) (ns ++ ms)
  | _, _, _, _, .nil, h => h
  | _, _, _, _, .cons i t r, h => .cons i t (ints_app r h)
theorem ints_take : ∀ {vs : List Value} {ns : List Int}, IntsAre vs ns → ∀ k : Nat, IntsAre (vs.take k) (ns.take k)
  | _, _, .nil, k => by simp; exact .nil
  | _, _, .cons i t r, 0 => .nil
  | _, _, .cons i t r, k + 1 => .cons i t (ints_take r k)
theorem ints_drop : ∀ {vs : List Value} {ns : List Int}, IntsAre vs ns → ∀ k : Nat, IntsAre (vs.drop k) (ns.drop k)
  | _, _, .nil, k => by simp; exact .nil
  | _, _, .cons i t r, 0 => .cons i t r
  | _, _, .cons i t r, k + 1 => ints_drop r k
theorem set_slice {Q : Unit → Shared → Prop} (F : Fr h₀ L h m) (N : News h₀ L h news) (U : UpdF D (listOf vs.toArray n) news u) (hx : (l, listOf ws.toArray n2) ∈ news) (hi : IntsAre vs ns) (hw : IntsAre ws ms) (hms : ms.length = 4)
    (h0 : 0 ≤ b) (h1 : b + 4 ≤ ns.length) (hlen : ns.length ≤ 4096) (hs : s.heap = h.push { cls := .type "slice", data := .fields #[.int b tb, .int (b + 4) te, .none] }) (hsl : sl = h.objs.size)
    (hQ : ∀ h', Fr h₀ L h' m → News h₀ L h' (u (listOf (vs.take b.toNat ++ ws ++ vs.drop (b.toNat + 4)).toArray n)) → IntsAre (vs.take b.toNat ++ ws ++ vs.drop (b.toNat + 4)) (ns.take b.toNat ++ ms ++ ns.drop (b.toNat + 4)) → Q () { s with heap := h' }) :
    wpAny (model prog w) A (setItem (.ref D) (.ref sl) (.ref l)) Q E s := by
  have F1 : Fr h₀ L s.heap m := by rw [hs]; exact F.push _
  have N1 : News h₀ L s.heap news := by rw [hs]; exact fun p hp => ⟨Heap.get?_push_of_some _ (N p hp).1, (N p hp).2⟩
  obtain ⟨pre, post, rfl, hu, a, c⟩ := U.split
  have z := N1 (D, listOf vs.toArray n) (List.mem_append.mpr (.inr (.head _)))
  have e1 : vs.length = ns.length := hi.length
  have e2 : ws.length = ms.length := hw.length
  have hS : s.heap.IsSliceOf sl (.int b tb) (.int (b + 4) te) .none := by rw [hs, hsl]; exact Heap.IsSliceOf.new ..
  refine slice_set z.1 (N1 _ hx).1 hS (.int _ _) (.int _ _) (by simp only [List.size_toArray]; omega) ?_
  have hb : sliceBounds (some b) (some (b + 4)) none vs.toArray.size = (b, b + 4, 1) := bounds_in h0 (by simp only [List.size_toArray]; omega)
  rw [hb]
  refine hQ _ (F1.change (Heap.SameBut.update ..) z.2.1 z.2.2) ?_ (ints_app (ints_app (ints_take hi _) hw) (ints_drop hi _))
  rw [hu]
  refine ki_turn _ N1 a c (cut_eq vs ws b h0) ?_
  rw [if_pos]
  simp only [List.size_toArray, List.length_append, List.length_take, List.length_drop, beq_iff_eq]
  omega
end
end Mine
end

-- part PK
section
open PySem PySem.W PySem.Calls PyProof.Rows
set_option Elab.async false
set_option maxRecDepth 100000
namespace Mine
theorem look_put (k v q : Int) : ∀ c : List (Int × Int), kdfLook (kdfPut c k v) q 0 = if q = k then v else kdfLook c q 0 := by
  have hmap : ∀ c : List (Int × Int), kdfLook (c.map fun p => if decide (p.1 = k) then (p.1, v) else p) q 0 = if q = k ∧ c.any (fun p => decide (p.1 = k)) = true then v else kdfLook c q 0 := by
    intro c
    unfold kdfLook
    induction c with
    | nil => simp
    | cons p r ih =>
      by_cases h1 : p.1 = k
      · by_cases h2 : q = k
        · subst h2; simp [h1]
        · have : ¬ k = q := fun e => h2 e.symm
          simp only [List.map_cons, h1, decide_true, if_true, List.find?_cons, this, decide_false]
          rw [ih]; simp [h2]
      · by_cases h2 : p.1 = q
        · have : ¬ q = k := fun e => h1 (h2.trans e)
          simp [h2, this]
        · simp only [List.map_cons, h1, decide_false, Bool.false_eq_true, if_false, List.find?_cons, h2, List.any_cons, Bool.false_or]
          exact ih
  have hany : ∀ c : List (Int × Int), c.any (fun p => decide (p.1 = k)) = false → c.find? (fun p => decide (p.1 = k)) = none := by
    intro c hc
    rw [List.find?_eq_none]
    intro p hp
    have := (List.any_eq_false.mp hc) p hp
    exact this
  intro c
  unfold kdfPut
  split
  · rename_i h
    rw [hmap c]; simp [h]
  · rename_i h
    have h' : c.any (fun p => decide (p.1 = k)) = false := by rw [Bool.not_eq_true] at h; exact h
    unfold kdfLook
    rw [List.find?_append]
    by_cases hq : q = k
    · subst hq
      rw [hany c h']; simp
    · have : ¬ k = q := fun e => hq e.symm
      simp [hq, this]
theorem idiv4 (a : Int) : a.fdiv 4 = a / 4 := Int.fdiv_eq_ediv_of_nonneg _ (by decide)
theorem inv_byte {z a v : Int} {c : List (Int × Int)} {nc : List Int} (h : MemInv z c nc) (h0 : 0 ≤ a) (h1 : a < z) :
    MemInv z (kdfPut c (a.fdiv 4) (setByte (kdfLook c (a.fdiv 4) 0) (a % 4) v)) (nc.set a.toNat (v.fmod 256)) := by
  refine ⟨by rw [List.length_set]; exact h.len, fun k => ?_, fun j j0 j1 => ?_⟩
  · rw [look_put]
    split
    · exact setByte_range _ _ _ (h.words _).1 (h.words _).2
    · exact h.words k
  · have hl := h.len
    rw [look_put, idiv4, Int.fmod_eq_emod_of_nonneg _ (by decide), List.getD_eq_getElem?_getD, List.getElem?_set]
    by_cases hj : j = a
    · subst hj
      rw [if_pos rfl, if_pos (by omega), if_pos rfl, byteAt_setByte _ _ _ _ (by omega) (by omega), if_pos rfl]; rfl
    · rw [if_neg (by omega), ← List.getD_eq_getElem?_getD, h.bytes j j0 j1]
      by_cases hw : j / 4 = a / 4
      · rw [if_pos hw, byteAt_setByte _ _ _ _ (by omega) (by omega), if_neg (by omega), hw]
      · rw [if_neg hw]
theorem inv_word {z a v : Int} {c : List (Int × Int)} {nc : List Int} (h : MemInv z c nc) (h0 : 0 ≤ a) (h1 : a < z) (h4 : (4 : Int) ∣ z) :
    MemInv z (kdfPut c (a.fdiv 4) (v.fmod 4294967296)) (nc.take (a.fdiv 4 * 4).toNat ++ List.map (fun k' : Int => (v.fdiv (256 ^ k'.toNat)).fmod 256) (rangeKs 0 (4 - 0 : Int).toNat) ++ nc.drop ((a.fdiv 4 * 4).toNat + 4)) := by
  have hl := h.len
  have e4 : (List.map (fun k' : Int => (v.fdiv (256 ^ k'.toNat)).fmod 256) (rangeKs 0 (4 - 0 : Int).toNat)) = [v / 256 ^ 0 % 256, v / 256 ^ 1 % 256, v / 256 ^ 2 % 256, v / 256 ^ 3 % 256] := by
    have e : ∀ k : Nat, (v.fdiv (256 ^ k)).fmod 256 = v / 256 ^ k % 256 := fun k => by
      rw [Int.fmod_eq_emod_of_nonneg _ (by decide), Int.fdiv_eq_ediv_of_nonneg _ (Int.pow_nonneg (by decide))]
    show [(v.fdiv (256 ^ 0)).fmod 256, (v.fdiv (256 ^ 1)).fmod 256, (v.fdiv (256 ^ 2)).fmod 256, (v.fdiv (256 ^ 3)).fmod 256] = _
    rw [e, e, e, e]
  rw [e4, idiv4]
  refine ⟨by simp only [List.length_append, List.length_take, List.length_drop, List.length_cons, List.length_nil]; omega, fun k => ?_, fun j j0 j1 => ?_⟩
  · rw [look_put, Int.fmod_eq_emod_of_nonneg _ (by decide)]
    split
    · omega
    · exact h.words k
  · rw [look_put, Int.fmod_eq_emod_of_nonneg _ (by decide)]
    have hb := h.bytes j j0 j1
    rw [List.getD_eq_getElem?_getD] at hb ⊢
    by_cases hw : j / 4 = a / 4
    · rw [if_pos hw, byteAt_word _ _ (by omega), List.append_assoc, List.getElem?_append_right (by simp only [List.length_take]; omega), List.length_take, Nat.min_eq_left (by omega)]
      have : j % 4 = 0 ∨ j % 4 = 1 ∨ j % 4 = 2 ∨ j % 4 = 3 := by omega
      rcases this with q | q | q | q
      · rw [q, show j.toNat - (a / 4 * 4).toNat = 0 by omega]; rfl
      · rw [q, show j.toNat - (a / 4 * 4).toNat = 1 by omega]; rfl
      · rw [q, show j.toNat - (a / 4 * 4).toNat = 2 by omega]; rfl
      · rw [q, show j.toNat - (a / 4 * 4).toNat = 3 by omega]; rfl
    · rw [if_neg hw, ← hb]
      by_cases hlt : j < a / 4 * 4
      · rw [List.append_assoc, List.getElem?_append_left (by simp only [List.length_take]; omega), List.getElem?_take, if_pos (by omega)]
      · rw [List.getElem?_append_right (by simp only [List.length_append, List.length_take, List.length_cons, List.length_nil]; omega), List.getElem?_drop]
        simp only [List.length_append, List.length_take, List.length_cons, List.length_nil]
        congr 2
        omega
/-- the word that four cells in a row tell -/
theorem word_sum {z a : Int} {c : List (Int × Int)} {nc : List Int} (h : MemInv z c nc) (h0 : 0 ≤ a) (h1 : a < z) (h4 : (4 : Int) ∣ z) (q : Int → Int) (hq : ∀ k, 0 ≤ k → k < 4 → q k = nc.getD (a.fdiv 4 * 4 + k).toNat 0 * 256 ^ k.toNat) :
    (List.map q (rangeKs 0 (4 - 0 : Int).toNat)).sum = kdfLook c (a.fdiv 4) 0 := by
  rw [idiv4] at hq ⊢
  have hb := fun k : Int => fun (k0 : 0 ≤ k) (k1 : k < 4) => h.bytes (a / 4 * 4 + k) (by omega) (by omega)
  have e : List.map q (rangeKs 0 (4 - 0 : Int).toNat) = [q 0, q 1, q 2, q 3] := rfl
  have hw := h.words (a / 4)
  rw [e, hq 0 (by omega) (by omega), hq 1 (by omega) (by omega), hq 2 (by omega) (by omega), hq 3 (by omega) (by omega), hb 0 (by omega) (by omega), hb 1 (by omega) (by omega), hb 2 (by omega) (by omega), hb 3 (by omega) (by omega)]
  have d0 : (a / 4 * 4 + 0) / 4 = a / 4 := by omega
  have d1 : (a / 4 * 4 + 1) / 4 = a / 4 := by omega
  have d2 : (a / 4 * 4 + 2) / 4 = a / 4 := by omega
  have d3 : (a / 4 * 4 + 3) / 4 = a / 4 := by omega
  have m0 : (a / 4 * 4 + 0) % 4 = 0 := by omega
  have m1 : (a / 4 * 4 + 1) % 4 = 1 := by omega
  have m2 : (a / 4 * 4 + 2) % 4 = 2 := by omega
  have m3 : (a / 4 * 4 + 3) % 4 = 3 := by omega
  rw [d0, d1, d2, d3, m0, m1, m2, m3]
  have := word_bytes (kdfLook c (a / 4) 0) hw.1 hw.2
  simp only [List.sum_cons, List.sum_nil]
  show _ * 256 ^ 0 + (_ * 256 ^ 1 + (_ * 256 ^ 2 + (_ * 256 ^ 3 + 0))) = _
  omega
theorem cell_is {z a : Int} {c : List (Int × Int)} {nc : List Int} (h : MemInv z c nc) (h0 : 0 ≤ a) (h1 : a < z) : nc.getD a.toNat 0 = byteAt (kdfLook c (a.fdiv 4) 0) (a % 4) := by
  rw [idiv4]; exact h.bytes a h0 h1
end Mine
end

-- part PJ0
section
open PySem PySem.W PySem.Calls PyProof.Rows
set_option Elab.async false
set_option maxRecDepth 100000
namespace Mine
/-- read off the given program: what the law's loop does first (seven statements), what it does then, what stands behind the loop, the law's scope -/
def lawParts : Option (List Stmt × List Stmt × List Stmt × Scope) :=
  match PySem.Challenge.rw_pb0305_01.row.prog.main.body.getLast? with
  | some (.FunctionDef _ _ b _ _ _ sc _ _ _) => (match b with
     | _ :: _ :: _ :: _ :: _ :: .For _ _ (s1 :: s2 :: s3 :: s4 :: s5 :: s6 :: s7 :: lb) _ _ :: tl => some ([s1, s2, s3, s4, s5, s6, s7], lb, tl, sc)
     | _ => none)
  | _ => none
abbrev nAt : Str := Str.ofString "at"
def AtPost (h₀ : Heap) (L : Addr) (m : Str → Option Value) (u : Obj → List (Addr × Obj)) (s : Shared) (f : Flow) (s' : Shared) : Prop :=
  f = .next ∧ ∃ a ta h' tk' vs ns n, s' = { s with heap := h', toks := tk' } ∧ IntsAre vs ns ∧ Digits ns ∧ ns.length ≤ 4096 ∧ Fr h₀ L h' (fun y => if y = nAt then some (.int a ta) else m y) ∧ News h₀ L h' (u (listOf vs.toArray n))
def ValPost (h₀ : Heap) (L : Addr) (m : Str → Option Value) (u : Obj → List (Addr × Obj)) (s : Shared) (f : Flow) (s' : Shared) : Prop :=
  f = .next ∧ ∃ v tv h' tk' o, s' = { s with heap := h', toks := tk' } ∧ o.data = .cell (some (.int v tv)) ∧ Fr h₀ L h' m ∧ News h₀ L h' (u o)
section
variable {M : Model} {prog : Program} {w : World} {A : Around} {E : Value → Shared → Prop} {s s' : Shared} {h₀ h : Heap} {L d : Addr} {m : Str → Option Value} {news news' : List (Addr × Obj)} {u : Obj → List (Addr × Obj)} {t : Sem Flow} {o : Obj}
theorem at_join {x0 : Option Value} {Q : Flow → Shared → Prop} {p1 p2 p3 p4 p5 : Addr × Obj} {r : Obj} {rest : List (Addr × Obj)} (_F : Fr h₀ L s.heap (fun y => if y = nAt then x0 else m y)) (_N : News h₀ L s.heap (p1 :: p2 :: p3 :: p4 :: p5 :: (d, r) :: rest)) (h1 : wpAny M A t (AtPost h₀ L m (fun r => p1 :: p2 :: p3 :: p4 :: p5 :: (d, r) :: rest) s) E s)
    (h2 : ∀ a ta h' tk' vs ns n, IntsAre vs ns → Digits ns → ns.length ≤ 4096 → Fr h₀ L h' (fun y => if y = nAt then some (.int a ta) else m y) → News h₀ L h' (p1 :: p2 :: p3 :: p4 :: p5 :: (d, listOf vs.toArray n) :: rest) → Q .next { s with heap := h', toks := tk' }) : wpAny M A t Q E s :=
  wpAny_mono h1 (fun f s' ⟨e, a, ta, h', tk', vs, ns, n, e3, k1, k2, k3, F', N'⟩ => by subst e e3; exact h2 a ta h' tk' vs ns n k1 k2 k3 F' N') fun _ _ x => x
theorem at_end {a : Int} {ta : Tok} {tk : Nat} {vs : List Value} {ns : List Int} {n : Nat} (hi : IntsAre vs ns) (hd : Digits ns) (hl : ns.length ≤ 4096) (F : Fr h₀ L h (fun y => if y = nAt then some (.int a ta) else m y)) (N : News h₀ L h (u (listOf vs.toArray n))) : AtPost h₀ L m u s .next { s with heap := h, toks := tk } :=
  ⟨rfl, a, ta, h, tk, vs, ns, n, rfl, hi, hd, hl, F, N⟩
theorem at_over {x : Str} {a b : Option Value} (F : Fr h₀ L h (fun y => if y = x then a else if y = x then b else m y)) : Fr h₀ L h (fun y => if y = x then a else m y) := by
  have : (fun y => if y = x then a else if y = x then b else m y) = (fun y => if y = x then a else m y) := funext fun y => by
    by_cases hy : y = x
    · rw [if_pos hy, if_pos hy]
    · rw [if_neg hy, if_neg hy, if_neg hy]
  rw [← this]; exact F
theorem val_join {Q : Flow → Shared → Prop} {p1 p2 p3 p4 p5 p6 p7 : Addr × Obj} {r : Obj} {rest : List (Addr × Obj)} (_F : Fr h₀ L s.heap m) (_N : News h₀ L s.heap (p1 :: p2 :: p3 :: p4 :: p5 :: p6 :: p7 :: (d, r) :: rest)) (h1 : wpAny M A t (ValPost h₀ L m (fun r => p1 :: p2 :: p3 :: p4 :: p5 :: p6 :: p7 :: (d, r) :: rest) s) E s)
    (h2 : ∀ v tv h' tk' o', o'.data = .cell (some (.int v tv)) → Fr h₀ L h' m → News h₀ L h' (p1 :: p2 :: p3 :: p4 :: p5 :: p6 :: p7 :: (d, o') :: rest) → Q .next { s with heap := h', toks := tk' }) : wpAny M A t Q E s :=
  wpAny_mono h1 (fun f s' ⟨e, v, tv, h', tk', o', e3, k1, F', N'⟩ => by subst e e3; exact h2 v tv h' tk' o' k1 F' N') fun _ _ x => x
theorem val_end {v : Int} {tv : Tok} {tk : Nat} {o' : Obj} (k : o'.data = .cell (some (.int v tv))) (F : Fr h₀ L h m) (N : News h₀ L h (u o')) : ValPost h₀ L m u s .next { s with heap := h, toks := tk } :=
  ⟨rfl, v, tv, h, tk, o', rfl, k, F, N⟩
end
abbrev lawBase (k : Int) (t : Tok) (u mb : Str → Option Value) (f : Int) (tf : Tok) (z : Int) (tz : Tok) (Dr : Addr) : Str → Option Value := fun y =>
  if y = Str.ofString "lap" then some (.int k t) else if [Str.ofString "kind", Str.ofString "at", Str.ofString "good", Str.ofString "told"].contains y = true then u y
  else if y = Str.ofString "far" then some (.int f tf) else if y = Str.ofString "size" then some (.int z tz) else if y = Str.ofString "row" then some (.ref Dr) else mb y
def HeadPost (h₀ : Heap) (L : Addr) (m : Str → Option Value) (led : Obj → Obj → Obj → List (Addr × Obj)) (z : Int) (s : Shared) (f : Flow) (s' : Shared) : Prop :=
  f = .next ∧ ∃ kind tkd a ta good v tv tb h' tk' vr nr kr ob ov, s' = { s with heap := h', toks := tk' } ∧ (0 ≤ kind ∧ kind < 4) ∧ (good = true ↔ 0 ≤ a ∧ a < z) ∧ IntsAre vr nr ∧ Digits nr ∧ nr.length ≤ 4096 ∧
    ob.data = .cell (some (.int (a.fdiv 4 * 4) tb)) ∧ ov.data = .cell (some (.int v tv)) ∧
    Fr h₀ L h' (fun y => if y = Str.ofString "good" then some (.bool good) else if y = nAt then some (.int a ta) else if y = Str.ofString "kind" then some (.int kind tkd) else m y) ∧
    News h₀ L h' (led (listOf vr.toArray kr) ob ov)
end Mine
end

-- part PJ1
section
local macro_rules | `(tactic| walk_at "pad 0") => `(tactic| skip)
local macro_rules | `(tactic| walk_at "pad 1") => `(tactic| skip)
local macro_rules | `(tactic| walk_at "pad 2") => `(tactic| skip)
local macro_rules | `(tactic| walk_at "pad 3") => `(tactic| skip)
local macro_rules | `(tactic| walk_at "pad 4") => `(tactic| skip)
local macro_rules | `(tactic| walk_at "pad 5") => `(tactic| skip)
local macro_rules | `(tactic| walk_at "pad 6") => `(tactic| skip)
local macro_rules | `(tactic| walk_at "pad 7") => `(tactic| skip)
local macro_rules | `(tactic| walk_at "pad 8") => `(tactic| skip)
local macro_rules | `(tactic| walk_at "pad 9") => `(tactic| skip)
open PySem PySem.W PySem.Calls PyProof.Rows
set_option Elab.async false
set_option maxRecDepth 100000
namespace Mine
local macro_rules | `(tactic| walk_at "call ref") => `(tactic| (k_here; (with_reducible show wpAny _ _ (call (Value.ref 123) _) _ _ _); k_dflt (refine' next_at ?B ?F ?X ?N ?U ?T ?hk ?i ?dg ?le ?hd ?hu ?_; (case B => k_asm); (case F => k_asm); (case X => k_asm); (case N => k_asm); (case T => k_asm); (case U => k_updF); (case hk => first | rfl | assumption); (case i => assumption); (case dg => assumption); (case le => assumption); (case hd => ktr_room); (case hu => ktr_units)); intro v' t' h' tk' vs' ns' n' q0 q1 hI' hD' hL' F' N'; (try dsimp only at N'); (try k_sweep)))
local macro_rules | `(tactic| walk_at "binaryOp Mult int int") => `(tactic| (k_here; (with_reducible refine mul_int ?_ (IntMulOk.of_left (intBits_le_64 (by omega) (by omega))))))
local macro_rules | `(tactic| walk_at "exec If") => `(tactic| (k_here; (with_reducible show wpAny _ _ (exec (Stmt.If (Expr.Compare (Expr.BinOp (Expr.Call _ _ _ _) _ _ _) _ _ _) _ _ _) _) _ _ _); (fail_if_success (with_reducible show wpAny _ _ _ (AtPost _ _ _ _ _) _ _)); k_dflt (refine' at_join ?F ?N ?g1 ?_; (case F => k_asm); (case N => k_asm); (case g1 => (dsimp only; k_steps; all_goals (refine at_end (by assumption) (by assumption) (by assumption) (by first | exact at_over (by k_asm) | k_asm) (by k_asm)))); intro a' ta' h' tk' vs' ns' n' hI' hD' hL' F' N'; (try dsimp only at F' N'); (try k_sweep))))
set_option maxHeartbeats 8000000 in
theorem turn_head : ∀ lb1 lb2 tl sc, lawParts = some (lb1, lb2, tl, sc) → ∀ (w : World) (mean : ExcName → Option Value) (mg mb : Str → Option Value) (h₀ : Heap) (L fa g : Nat) (s : Shared) (E : Value → Shared → Prop)
   (k : Int) (t : Tok) (u mb' : Str → Option Value) (f : Int) (tf : Tok) (z : Int) (tz : Tok) (Dr Dc l1 W xx d : Nat) (oc o1 oW oM ob ov oC oS : Obj) (vr : List Value) (nr : List Int) (kr : Nat) (xb xv : Option Value) (own : List (Addr × Obj)),
   Below callerA h₀ [] h₀ → (Mine.hd0305.heap_39 w.params).In h₀ → Top Mine.hd0305.view_39 (looseW Mine.hd0305.view_39 []) mean mg mb h₀ →
   Fr h₀ L s.heap (lawBase k t u mb' f tf z tz Dr) →
   News h₀ L s.heap ((Dc, oc) :: (l1, o1) :: (W, oW) :: (xx, instObj 98 d) :: (d, oM) :: (Dr, listOf vr.toArray kr) :: (L+1+1+1+1, ob) :: (L+1+1+1, ov) :: (L+1+1, oC) :: (L+1, oS) :: own) →
   IntsAre vr nr → Digits nr → nr.length ≤ 4096 → ob.data = .cell xb → ov.data = .cell xv → 16 ≤ z → z ≤ 64 →
   L < Dr → L+1+1+1+1 < Dr → L+1+1+1 < Dr → L+1+1 < Dr → L+1 < Dr → @Ne Nat Dr Dc → @Ne Nat Dr l1 → @Ne Nat Dr W → @Ne Nat Dr xx → @Ne Nat Dr d → 
   L+1+1+1+1 < Dc → L+1+1+1+1 < l1 → L+1+1+1+1 < W → L+1+1+1+1 < xx → L+1+1+1+1 < d →
   OwnOff own [Dc, l1, W, xx, d, Dr, L+1+1+1+1, L+1+1+1, L+1+1, L+1] →
   wpAny (model PySem.Challenge.rw_pb0305_01.row.prog w) (callerA.deeper (envOfC (Str.ofString "law") sc L fa (.ref g))) (execs lb1 (envOfC (Str.ofString "law") sc L fa (.ref g)))
     (HeadPost h₀ L (lawBase k t u mb' f tf z tz Dr) (fun r b v => (Dc, oc) :: (l1, o1) :: (W, oW) :: (xx, instObj 98 d) :: (d, oM) :: (Dr, r) :: (L+1+1+1+1, b) :: (L+1+1+1, v) :: (L+1+1, oC) :: (L+1, oS) :: own) z s) E s := by
  intro lb1 lb2 tl sc hparts
  cases hparts
  w_top off
  w_strict (
    k_fill
    intros
    (try k_fold)
    k_steps
    all_goals (k_dflt (
      refine' ⟨rfl, _, _, _, _, _, _, _, _, _, _, _, _, _, _, _, rfl, ?kd, ?gd, ?h1, ?h2, ?h3, ?db, ?dv, ?F, ?N⟩
      case F => k_asm
      case N => k_asm
      case db => assumption
      case dv => assumption
      case h1 => assumption
      case h2 => assumption
      case h3 => assumption
      case kd => (rw [Int.fmod_eq_emod_of_nonneg _ (by decide)]; omega)
      case gd => first | (simp only [decide_eq_true_eq]; omega) | (simp only [Bool.false_eq_true, false_iff]; omega) | (simp; omega))))
end Mine
end

-- part PJ3
section
open PySem PySem.W PySem.Calls PyProof.Rows
set_option Elab.async false
set_option maxRecDepth 100000
namespace Mine
def TailPost (w : World) (z : Int) (h₀ : Heap) (L : Addr) (m : Str → Option Value) (c : List (Int × Int)) (led : List Value → Nat → Obj → List (Addr × Obj)) (s : Shared) (fl : Flow) (s' : Shared) : Prop :=
  (match fl with | .ret _ => False | .brk => False | _ => True) ∧ ∃ h' tk' m' news' vc' nc' kc' oW' kvs' c', s' = { s with heap := h', toks := tk' } ∧ Fr h₀ L h' m' ∧ News h₀ L h' news' ∧ (∀ p ∈ led vc' kc' oW', p ∈ news') ∧
    IntsAre vc' nc' ∧ oW'.IsDictOf (intKind PySem.Challenge.rw_pb0305_01.row.prog w) kvs' ∧ PyProof.V.FlatPairs PyData.int kvs' (kdfD c') ∧ c'.length ≤ c.length + 1 ∧ MemInv z c' nc' ∧
    (∀ y, y ≠ Str.ofString "lap" → [Str.ofString "kind", Str.ofString "at", Str.ofString "good", Str.ofString "told"].contains y = false → m' y = m y)
theorem told_map {x0 x1 x2 x3 : Option Value} {m : Str → Option Value} {y : Str} (h : [Str.ofString "kind", Str.ofString "at", Str.ofString "good", Str.ofString "told"].contains y = false) :
    (if y = Str.ofString "told" then x0 else if y = Str.ofString "good" then x1 else if y = nAt then x2 else if y = Str.ofString "kind" then x3 else m y) = m y := by
  simp only [List.contains_cons, List.contains_nil, Bool.or_false, Bool.or_eq_false_iff, beq_eq_false_iff_ne] at h
  rw [if_neg h.2.2.2, if_neg h.2.2.1, if_neg h.2.1, if_neg h.1]
def TailOk (K : Int) (G : Bool) : Prop := ∀ lb1 lb2 tl sc, lawParts = some (lb1, lb2, tl, sc) → ∀ (w : World) (mean : ExcName → Option Value) (mg mb : Str → Option Value) (h₀ : Heap) (L fa g : Nat) (s : Shared) (E : Value → Shared → Prop)
   (k : Int) (t : Tok) (u mb' : Str → Option Value) (f : Int) (tf : Tok) (z : Int) (tz t1 t2 : Tok) (Dr Dc l1 W xx d : Nat) (o1 oW ob ov oC oS oR : Obj) (own : List (Addr × Obj))
   (vc : List Value) (nc : List Int) (kc : Nat) (kvs : List (Int × Value)) (c : List (Int × Int)) (tkd : Tok) (a : Int) (ta : Tok) (v : Int) (tv tb : Tok),
   Below callerA h₀ [] h₀ → (Mine.hd0305.heap_39 w.params).In h₀ → Top Mine.hd0305.view_39 (looseW Mine.hd0305.view_39 []) mean mg mb h₀ →
   Fr h₀ L s.heap (fun y => if y = Str.ofString "good" then some (.bool G) else if y = nAt then some (.int a ta) else if y = Str.ofString "kind" then some (.int K tkd) else lawBase k t u mb' f tf z tz Dr y) →
   News h₀ L s.heap ((Dc, listOf vc.toArray kc) :: (l1, o1) :: (W, oW) :: (xx, instObj 98 d) :: (d, memD w z tz t1 t2 W) :: (Dr, oR) :: (L+1+1+1+1, ob) :: (L+1+1+1, ov) :: (L+1+1, oC) :: (L+1, oS) :: own) →
   IntsAre vc nc → oW.IsDictOf (intKind PySem.Challenge.rw_pb0305_01.row.prog w) kvs → PyProof.V.FlatPairs PyData.int kvs (kdfD c) → c.length ≤ 4096 → (W == sysModules) = false → MemInv z c nc →
   ob.data = .cell (some (.int (a.fdiv 4 * 4) tb)) → ov.data = .cell (some (.int v tv)) → oC.data = .cell (some (.ref Dc)) → oS.data = .cell (some (.ref xx)) → 16 ≤ z → z ≤ 64 → (4 : Int) ∣ z → (G = true ↔ 0 ≤ a ∧ a < z) →
   L+1+1+1+1 < Dr → Dr < d → d < xx → xx < W → W < l1 → l1 < Dc →
   OwnOff own [Dc, l1, W, xx, d, Dr, L+1+1+1+1, L+1+1+1, L+1+1, L+1] →
   wpAny (model PySem.Challenge.rw_pb0305_01.row.prog w) (callerA.deeper (envOfC (Str.ofString "law") sc L fa (.ref g))) (execs lb2 (envOfC (Str.ofString "law") sc L fa (.ref g)))
     (TailPost w z h₀ L (lawBase k t u mb' f tf z tz Dr) c (fun vc' kc' oW' => (Dc, listOf vc'.toArray kc') :: (l1, o1) :: (W, oW') :: (xx, instObj 98 d) :: (d, memD w z tz t1 t2 W) :: (Dr, oR) :: (L+1+1+1+1, ob) :: (L+1+1+1, ov) :: (L+1+1, oC) :: (L+1, oS) :: own) s) E s
end Mine
end

-- part PJ5_0t
section
open PySem PySem.W PySem.Calls PyProof.Rows
set_option Elab.async false
set_option maxRecDepth 100000
namespace Mine
section
local macro_rules | `(tactic| walk_at "call ref") => `(tactic| (k_here; (with_reducible show wpAny _ _ (call (Value.ref 130) _) _ _ _); k_dflt (refine' kept_good_at0 ?B ?F ?X ?N ?U ?x ?m ?T ?hk ?hd ?hu ?lo ?di ?fl ?le ?w1 ?w2 ?kk ?h0 ?h1 ?l0 ?l1 ?_; (case B => k_asm); (case F => k_asm); (case X => k_asm); (case N => k_asm); (case x => k_mem); (case m => k_mem); (case T => k_asm); (case U => k_updF); (case hk => first | rfl | assumption); (case hd => ktr_room); (case hu => ktr_units); (case lo => assumption); (case di => assumption); (case fl => assumption); (case le => omega); (case w1 => omega); (case w2 => omega); (case kk => rfl); (case h0 => omega); (case h1 => omega); (case l0 => exact ((MemInv.words (by assumption)) _).1); (case l1 => exact ((MemInv.words (by assumption)) _).2)); intro h' tk' o' kvs' F' N' hd' hf'; (try dsimp only at N'); (try k_sweep)))
local macro_rules | `(tactic| walk_at "binaryOp FloorDiv int int") => `(tactic| (k_here; (with_reducible refine floordiv_int ?kb1 ?_ ?kb2); (case kb1 => first | decide | exact pow256_ne _); (case kb2 => first | exact Or.inl (PyProof.noPylong_small (by omega)) | exact Or.inl (pow256_py (by assumption)))))
local macro_rules | `(tactic| walk_at "setItem ref") => `(tactic| (k_here; (with_reducible show wpAny _ _ (setItem (Value.ref _) (Value.ref _) (Value.ref _)) _ _ _); k_dflt (refine' set_slice ?F ?N ?U ?hx ?hi ?hw ?hms ?h0 ?h1 ?hlen ?hs ?hsl ?_; (case F => k_asm); (case N => k_asm); (case hs => exact rfl); (case hsl => exact rfl); (case U => k_updF); (case hx => k_mem); (case hi => assumption); (case hw => assumption); (case hms => rfl); (case h0 => assumption); (case h1 => assumption); (case hlen => omega)); intro h' F' N' hI'; (try dsimp only at N'); (try k_sweep)))
set_option maxHeartbeats 8000000 in
theorem tail0t : TailOk 0 true := by
  unfold TailOk
  intro lb1 lb2 tl sc hparts
  cases hparts
  w_top off
  w_strict (
    k_fill
    intro w mean mg mb h₀ L fa g s E k t u mb' f tf z tz t1 t2 Dr Dc l1 W xx d o1 oW ob ov oC oS oR own vc nc kc kvs c tkd a ta v tv tb B X T F N hi hdict hflat hclen lo hinv hob hov hoC hoS hz hz2 hz4 hgood
    have hg : 0 ≤ a ∧ a < z := hgood.mp rfl
    obtain ⟨hg0, hg1⟩ := hg
    have hlen := hinv.len
    have hb0 : 0 ≤ a.fdiv 4 * 4 := by rw [Int.fdiv_eq_ediv_of_nonneg _ (by decide)]; omega
    have hb1 : a.fdiv 4 * 4 + 4 ≤ (nc.length : Int) := by rw [Int.fdiv_eq_ediv_of_nonneg _ (by decide)]; omega
    intros
    (try k_fold)
    k_steps
    all_goals (k_dflt (
      refine' ⟨trivial, _, _, _, _, _, _, kc, _, _, _, rfl, ?F, ?N, ?M, ?i, ?d, ?f, ?l, ?v, ?u⟩
      case F => k_asm
      case N => k_asm
      case d => assumption
      case f => assumption
      case i => assumption
      case M => (intro p hp; first | exact hp | exact List.mem_cons_of_mem _ hp)
      case l => exact kdfPut_len _ _ _
      case v => exact inv_word hinv hg0 hg1 hz4
      case u => exact fun y _ hy => told_map hy)))
end
end Mine
end

-- part PJ5_0f
section
local macro_rules | `(tactic| walk_at "pad 0") => `(tactic| skip)
local macro_rules | `(tactic| walk_at "pad 1") => `(tactic| skip)
local macro_rules | `(tactic| walk_at "pad 2") => `(tactic| skip)
local macro_rules | `(tactic| walk_at "pad 3") => `(tactic| skip)
local macro_rules | `(tactic| walk_at "pad 4") => `(tactic| skip)
local macro_rules | `(tactic| walk_at "pad 5") => `(tactic| skip)
local macro_rules | `(tactic| walk_at "pad 6") => `(tactic| skip)
local macro_rules | `(tactic| walk_at "pad 7") => `(tactic| skip)
local macro_rules | `(tactic| walk_at "pad 8") => `(tactic| skip)
local macro_rules | `(tactic| walk_at "pad 9") => `(tactic| skip)
open PySem PySem.W PySem.Calls PyProof.Rows
set_option Elab.async false
set_option maxRecDepth 100000
namespace Mine
section
local macro_rules | `(tactic| walk_at "call ref") => `(tactic| (k_here; (with_reducible show wpAny _ _ (call (Value.ref 130) _) _ _ _); k_dflt (refine' kept_bad_at0 ?B ?F ?X ?N ?U ?x ?m ?T ?hk ?hd ?hu ?lo ?di ?fl ?le ?w1 ?w2 ?kk ?bad ?_; (case B => k_asm); (case F => k_asm); (case X => k_asm); (case N => k_asm); (case x => k_mem); (case m => k_mem); (case T => k_asm); (case U => k_updF); (case hk => first | rfl | assumption); (case hd => ktr_room); (case hu => ktr_units); (case lo => assumption); (case di => assumption); (case fl => assumption); (case le => omega); (case w1 => omega); (case w2 => omega); (case kk => rfl); (case bad => assumption)); intro t' h' tk' F' N'))
set_option maxHeartbeats 8000000 in
theorem tail0f : TailOk 0 false := by
  unfold TailOk
  intro lb1 lb2 tl sc hparts
  cases hparts
  w_top off
  w_strict (
    k_fill
    intro w mean mg mb h₀ L fa g s E k t u mb' f tf z tz t1 t2 Dr Dc l1 W xx d o1 oW ob ov oC oS oR own vc nc kc kvs c tkd a ta v tv tb B X T F N hi hdict hflat hclen lo hinv hob hov hoC hoS hz hz2 hz4 hgood
    have hbad : a < 0 ∨ z ≤ a := by
      by_cases h : 0 ≤ a ∧ a < z
      · exact Bool.noConfusion (hgood.mpr h)
      · omega
    intros
    (try k_fold)
    k_steps
    all_goals (k_dflt (
      refine' ⟨trivial, _, _, _, _, _, _, kc, _, _, _, rfl, ?F, ?N, ?M, hi, hdict, hflat, Nat.le_succ _, hinv, ?u⟩
      case F => k_asm
      case N => k_asm
      case M => (intro p hp; first | exact hp | exact List.mem_cons_of_mem _ hp)
      case u => exact fun y _ hy => told_map hy)))
end
end Mine
end

-- part PJ5_1t
section
open PySem PySem.W PySem.Calls PyProof.Rows
set_option Elab.async false
set_option maxRecDepth 100000
namespace Mine
section
local macro_rules | `(tactic| walk_at "call ref") => `(tactic| (k_here; (with_reducible show wpAny _ _ (call (Value.ref 130) _) _ _ _); k_dflt (refine' kept_good_at1 ?B ?F ?X ?N ?U ?x ?m ?T ?hk ?hd ?hu ?lo ?di ?fl ?le ?w1 ?w2 ?kk ?h0 ?h1 ?l0 ?l1 ?_; (case B => k_asm); (case F => k_asm); (case X => k_asm); (case N => k_asm); (case x => k_mem); (case m => k_mem); (case T => k_asm); (case U => k_updF); (case hk => first | rfl | assumption); (case hd => ktr_room); (case hu => ktr_units); (case lo => assumption); (case di => assumption); (case fl => assumption); (case le => omega); (case w1 => omega); (case w2 => omega); (case kk => rfl); (case h0 => omega); (case h1 => omega); (case l0 => exact ((MemInv.words (by assumption)) _).1); (case l1 => exact ((MemInv.words (by assumption)) _).2)); intro h' tk' o' kvs' F' N' hd' hf'; (try dsimp only at N'); (try k_sweep)))
set_option maxHeartbeats 8000000 in
theorem tail1t : TailOk 1 true := by
  unfold TailOk
  intro lb1 lb2 tl sc hparts
  cases hparts
  w_top off
  w_strict (
    k_fill
    intro w mean mg mb h₀ L fa g s E k t u mb' f tf z tz t1 t2 Dr Dc l1 W xx d o1 oW ob ov oC oS oR own vc nc kc kvs c tkd a ta v tv tb B X T F N hi hdict hflat hclen lo hinv hob hov hoC hoS hz hz2 hz4 hgood
    have hg : 0 ≤ a ∧ a < z := hgood.mp rfl
    obtain ⟨hg0, hg1⟩ := hg
    have hlen := hinv.len
    have hb0 : 0 ≤ a.fdiv 4 * 4 := by rw [Int.fdiv_eq_ediv_of_nonneg _ (by decide)]; omega
    have hb1 : a.fdiv 4 * 4 + 4 ≤ (nc.length : Int) := by rw [Int.fdiv_eq_ediv_of_nonneg _ (by decide)]; omega
    intros
    (try k_fold)
    k_steps
    all_goals (k_dflt (
      refine' ⟨trivial, _, _, _, _, _, _, kc, _, _, _, rfl, ?F, ?N, ?M, ?i, ?d, ?f, ?l, ?v, ?u⟩
      case F => k_asm
      case N => k_asm
      case d => assumption
      case f => assumption
      case i => assumption
      case M => (intro p hp; first | exact hp | exact List.mem_cons_of_mem _ hp)
      case l => exact kdfPut_len _ _ _
      case v => exact inv_byte hinv hg0 hg1
      case u => exact fun y _ hy => told_map hy)))
end
end Mine
end

-- part PJ5_1f
section
local macro_rules | `(tactic| walk_at "pad 0") => `(tactic| skip)
local macro_rules | `(tactic| walk_at "pad 1") => `(tactic| skip)
local macro_rules | `(tactic| walk_at "pad 2") => `(tactic| skip)
local macro_rules | `(tactic| walk_at "pad 3") => `(tactic| skip)
local macro_rules | `(tactic| walk_at "pad 4") => `(tactic| skip)
local macro_rules | `(tactic| walk_at "pad 5") => `(tactic| skip)
local macro_rules | `(tactic| walk_at "pad 6") => `(tactic| skip)
local macro_rules | `(tactic| walk_at "pad 7") => `(tactic| skip)
local macro_rules | `(tactic| walk_at "pad 8") => `(tactic| skip)
local macro_rules | `(tactic| walk_at "pad 9") => `(tactic| skip)
open PySem PySem.W PySem.Calls PyProof.Rows
set_option Elab.async false
set_option maxRecDepth 100000
namespace Mine
section
local macro_rules | `(tactic| walk_at "call ref") => `(tactic| (k_here; (with_reducible show wpAny _ _ (call (Value.ref 130) _) _ _ _); k_dflt (refine' kept_bad_at1 ?B ?F ?X ?N ?U ?x ?m ?T ?hk ?hd ?hu ?lo ?di ?fl ?le ?w1 ?w2 ?kk ?bad ?_; (case B => k_asm); (case F => k_asm); (case X => k_asm); (case N => k_asm); (case x => k_mem); (case m => k_mem); (case T => k_asm); (case U => k_updF); (case hk => first | rfl | assumption); (case hd => ktr_room); (case hu => ktr_units); (case lo => assumption); (case di => assumption); (case fl => assumption); (case le => omega); (case w1 => omega); (case w2 => omega); (case kk => rfl); (case bad => assumption)); intro t' h' tk' F' N'))
set_option maxHeartbeats 8000000 in
theorem tail1f : TailOk 1 false := by
  unfold TailOk
  intro lb1 lb2 tl sc hparts
  cases hparts
  w_top off
  w_strict (
    k_fill
    intro w mean mg mb h₀ L fa g s E k t u mb' f tf z tz t1 t2 Dr Dc l1 W xx d o1 oW ob ov oC oS oR own vc nc kc kvs c tkd a ta v tv tb B X T F N hi hdict hflat hclen lo hinv hob hov hoC hoS hz hz2 hz4 hgood
    have hbad : a < 0 ∨ z ≤ a := by
      by_cases h : 0 ≤ a ∧ a < z
      · exact Bool.noConfusion (hgood.mpr h)
      · omega
    intros
    (try k_fold)
    k_steps
    all_goals (k_dflt (
      refine' ⟨trivial, _, _, _, _, _, _, kc, _, _, _, rfl, ?F, ?N, ?M, hi, hdict, hflat, Nat.le_succ _, hinv, ?u⟩
      case F => k_asm
      case N => k_asm
      case M => (intro p hp; first | exact hp | exact List.mem_cons_of_mem _ hp)
      case u => exact fun y _ hy => told_map hy)))
end
end Mine
end

-- part PJ5_2t
section
open PySem PySem.W PySem.Calls PyProof.Rows
set_option Elab.async false
set_option maxRecDepth 100000
namespace Mine
section
local macro_rules | `(tactic| walk_at "call ref") => `(tactic| (k_here; (with_reducible show wpAny _ _ (call (Value.ref 130) _) _ _ _); k_dflt (refine' kept_good_at2 ?B ?F ?X ?N ?U ?x ?m ?T ?hk ?hd ?hu ?lo ?di ?fl ?le ?w1 ?w2 ?kk ?h0 ?h1 ?l0 ?l1 ?_; (case B => k_asm); (case F => k_asm); (case X => k_asm); (case N => k_asm); (case x => k_mem); (case m => k_mem); (case T => k_asm); (case U => k_updF); (case hk => first | rfl | assumption); (case hd => ktr_room); (case hu => ktr_units); (case lo => assumption); (case di => assumption); (case fl => assumption); (case le => omega); (case w1 => omega); (case w2 => omega); (case kk => rfl); (case h0 => omega); (case h1 => omega); (case l0 => exact ((MemInv.words (by assumption)) _).1); (case l1 => exact ((MemInv.words (by assumption)) _).2)); intro t' h' tk' F' N'))
local macro_rules | `(tactic| walk_at "subscriptTail Name BinOp ref int") => `(tactic| (k_here; k_dflt (refine' ksa_sub ?k1 ?k2 ?k3 ?k4 ?k5 ?k6 ?_ ?k7; (case k1 => k_asm); (case k2 => k_mem); (case k3 => with_reducible assumption); (case k4 => exact Int.add_nonneg (by assumption) (by assumption)); (case k5 => exact idx_hi (by assumption) (by assumption)); (case k6 => (refine' idx_fit ?u1 ?u2 ?u3 ?u4; (case u1 => assumption); (case u2 => assumption); (case u3 => assumption); (case u4 => assumption))); (case k7 => with_unfolding_all rfl)); intro tq'))
local macro_rules | `(tactic| walk_at "binaryOp Mult int int") => `(tactic| (k_here; (with_reducible refine mul_int ?_ (IntMulOk.of_right (pow256_bits (by assumption))))))
set_option maxHeartbeats 8000000 in
theorem tail2t : TailOk 2 true := by
  unfold TailOk
  intro lb1 lb2 tl sc hparts
  cases hparts
  w_top off
  w_strict (
    k_fill
    intro w mean mg mb h₀ L fa g s E k t u mb' f tf z tz t1 t2 Dr Dc l1 W xx d o1 oW ob ov oC oS oR own vc nc kc kvs c tkd a ta v tv tb B X T F N hi hdict hflat hclen lo hinv hob hov hoC hoS hz hz2 hz4 hgood
    have hg : 0 ≤ a ∧ a < z := hgood.mp rfl
    obtain ⟨hg0, hg1⟩ := hg
    have hlen := hinv.len
    have hb0 : 0 ≤ a.fdiv 4 * 4 := by rw [Int.fdiv_eq_ediv_of_nonneg _ (by decide)]; omega
    have hb1 : a.fdiv 4 * 4 + 4 ≤ (nc.length : Int) := by rw [Int.fdiv_eq_ediv_of_nonneg _ (by decide)]; omega
    intros
    (try k_fold)
    k_steps
    all_goals (k_dflt (first | exact absurd (word_sum hinv hg0 hg1 hz4 _ fun k _ _ => rfl).symm (by assumption) | (
      refine' ⟨trivial, _, _, _, _, _, _, kc, _, _, _, rfl, ?F, ?N, ?M, hi, hdict, hflat, Nat.le_succ _, hinv, ?u⟩
      case F => k_asm
      case N => k_asm
      case M => (intro p hp; first | exact hp | exact List.mem_cons_of_mem _ hp)
      case u => exact fun y _ hy => told_map hy))))
end
end Mine
end

-- part PJ5_2f
section
local macro_rules | `(tactic| walk_at "pad 0") => `(tactic| skip)
local macro_rules | `(tactic| walk_at "pad 1") => `(tactic| skip)
local macro_rules | `(tactic| walk_at "pad 2") => `(tactic| skip)
local macro_rules | `(tactic| walk_at "pad 3") => `(tactic| skip)
local macro_rules | `(tactic| walk_at "pad 4") => `(tactic| skip)
local macro_rules | `(tactic| walk_at "pad 5") => `(tactic| skip)
local macro_rules | `(tactic| walk_at "pad 6") => `(tactic| skip)
local macro_rules | `(tactic| walk_at "pad 7") => `(tactic| skip)
local macro_rules | `(tactic| walk_at "pad 8") => `(tactic| skip)
local macro_rules | `(tactic| walk_at "pad 9") => `(tactic| skip)
open PySem PySem.W PySem.Calls PyProof.Rows
set_option Elab.async false
set_option maxRecDepth 100000
namespace Mine
section
local macro_rules | `(tactic| walk_at "call ref") => `(tactic| (k_here; (with_reducible show wpAny _ _ (call (Value.ref 130) _) _ _ _); k_dflt (refine' kept_bad_at2 ?B ?F ?X ?N ?U ?x ?m ?T ?hk ?hd ?hu ?lo ?di ?fl ?le ?w1 ?w2 ?kk ?bad ?_; (case B => k_asm); (case F => k_asm); (case X => k_asm); (case N => k_asm); (case x => k_mem); (case m => k_mem); (case T => k_asm); (case U => k_updF); (case hk => first | rfl | assumption); (case hd => ktr_room); (case hu => ktr_units); (case lo => assumption); (case di => assumption); (case fl => assumption); (case le => omega); (case w1 => omega); (case w2 => omega); (case kk => rfl); (case bad => assumption)); intro t' h' tk' F' N'))
set_option maxHeartbeats 8000000 in
theorem tail2f : TailOk 2 false := by
  unfold TailOk
  intro lb1 lb2 tl sc hparts
  cases hparts
  w_top off
  w_strict (
    k_fill
    intro w mean mg mb h₀ L fa g s E k t u mb' f tf z tz t1 t2 Dr Dc l1 W xx d o1 oW ob ov oC oS oR own vc nc kc kvs c tkd a ta v tv tb B X T F N hi hdict hflat hclen lo hinv hob hov hoC hoS hz hz2 hz4 hgood
    have hbad : a < 0 ∨ z ≤ a := by
      by_cases h : 0 ≤ a ∧ a < z
      · exact Bool.noConfusion (hgood.mpr h)
      · omega
    intros
    (try k_fold)
    k_steps
    all_goals (k_dflt (
      refine' ⟨trivial, _, _, _, _, _, _, kc, _, _, _, rfl, ?F, ?N, ?M, hi, hdict, hflat, Nat.le_succ _, hinv, ?u⟩
      case F => k_asm
      case N => k_asm
      case M => (intro p hp; first | exact hp | exact List.mem_cons_of_mem _ hp)
      case u => exact fun y _ hy => told_map hy)))
end
end Mine
end

-- part PJ5_3t
section
open PySem PySem.W PySem.Calls PyProof.Rows
set_option Elab.async false
set_option maxRecDepth 100000
namespace Mine
section
local macro_rules | `(tactic| walk_at "call ref") => `(tactic| (k_here; (with_reducible show wpAny _ _ (call (Value.ref 130) _) _ _ _); k_dflt (refine' kept_good_at3 ?B ?F ?X ?N ?U ?x ?m ?T ?hk ?hd ?hu ?lo ?di ?fl ?le ?w1 ?w2 ?kk ?h0 ?h1 ?l0 ?l1 ?_; (case B => k_asm); (case F => k_asm); (case X => k_asm); (case N => k_asm); (case x => k_mem); (case m => k_mem); (case T => k_asm); (case U => k_updF); (case hk => first | rfl | assumption); (case hd => ktr_room); (case hu => ktr_units); (case lo => assumption); (case di => assumption); (case fl => assumption); (case le => omega); (case w1 => omega); (case w2 => omega); (case kk => rfl); (case h0 => omega); (case h1 => omega); (case l0 => exact ((MemInv.words (by assumption)) _).1); (case l1 => exact ((MemInv.words (by assumption)) _).2)); intro t' h' tk' F' N'))
set_option maxHeartbeats 8000000 in
theorem tail3t : TailOk 3 true := by
  unfold TailOk
  intro lb1 lb2 tl sc hparts
  cases hparts
  w_top off
  w_strict (
    k_fill
    intro w mean mg mb h₀ L fa g s E k t u mb' f tf z tz t1 t2 Dr Dc l1 W xx d o1 oW ob ov oC oS oR own vc nc kc kvs c tkd a ta v tv tb B X T F N hi hdict hflat hclen lo hinv hob hov hoC hoS hz hz2 hz4 hgood
    have hg : 0 ≤ a ∧ a < z := hgood.mp rfl
    obtain ⟨hg0, hg1⟩ := hg
    have hlen := hinv.len
    have hb0 : 0 ≤ a.fdiv 4 * 4 := by rw [Int.fdiv_eq_ediv_of_nonneg _ (by decide)]; omega
    have hb1 : a.fdiv 4 * 4 + 4 ≤ (nc.length : Int) := by rw [Int.fdiv_eq_ediv_of_nonneg _ (by decide)]; omega
    intros
    (try k_fold)
    k_steps
    all_goals (k_dflt (first | exact absurd (cell_is hinv hg0 hg1).symm (by assumption) | (
      refine' ⟨trivial, _, _, _, _, _, _, kc, _, _, _, rfl, ?F, ?N, ?M, hi, hdict, hflat, Nat.le_succ _, hinv, ?u⟩
      case F => k_asm
      case N => k_asm
      case M => (intro p hp; first | exact hp | exact List.mem_cons_of_mem _ hp)
      case u => exact fun y _ hy => told_map hy))))
end
end Mine
end

-- part PJ5_3f
section
local macro_rules | `(tactic| walk_at "pad 0") => `(tactic| skip)
local macro_rules | `(tactic| walk_at "pad 1") => `(tactic| skip)
local macro_rules | `(tactic| walk_at "pad 2") => `(tactic| skip)
local macro_rules | `(tactic| walk_at "pad 3") => `(tactic| skip)
local macro_rules | `(tactic| walk_at "pad 4") => `(tactic| skip)
local macro_rules | `(tactic| walk_at "pad 5") => `(tactic| skip)
local macro_rules | `(tactic| walk_at "pad 6") => `(tactic| skip)
local macro_rules | `(tactic| walk_at "pad 7") => `(tactic| skip)
local macro_rules | `(tactic| walk_at "pad 8") => `(tactic| skip)
local macro_rules | `(tactic| walk_at "pad 9") => `(tactic| skip)
open PySem PySem.W PySem.Calls PyProof.Rows
set_option Elab.async false
set_option maxRecDepth 100000
namespace Mine
section
local macro_rules | `(tactic| walk_at "call ref") => `(tactic| (k_here; (with_reducible show wpAny _ _ (call (Value.ref 130) _) _ _ _); k_dflt (refine' kept_bad_at3 ?B ?F ?X ?N ?U ?x ?m ?T ?hk ?hd ?hu ?lo ?di ?fl ?le ?w1 ?w2 ?kk ?bad ?_; (case B => k_asm); (case F => k_asm); (case X => k_asm); (case N => k_asm); (case x => k_mem); (case m => k_mem); (case T => k_asm); (case U => k_updF); (case hk => first | rfl | assumption); (case hd => ktr_room); (case hu => ktr_units); (case lo => assumption); (case di => assumption); (case fl => assumption); (case le => omega); (case w1 => omega); (case w2 => omega); (case kk => rfl); (case bad => assumption)); intro t' h' tk' F' N'))
set_option maxHeartbeats 8000000 in
theorem tail3f : TailOk 3 false := by
  unfold TailOk
  intro lb1 lb2 tl sc hparts
  cases hparts
  w_top off
  w_strict (
    k_fill
    intro w mean mg mb h₀ L fa g s E k t u mb' f tf z tz t1 t2 Dr Dc l1 W xx d o1 oW ob ov oC oS oR own vc nc kc kvs c tkd a ta v tv tb B X T F N hi hdict hflat hclen lo hinv hob hov hoC hoS hz hz2 hz4 hgood
    have hbad : a < 0 ∨ z ≤ a := by
      by_cases h : 0 ≤ a ∧ a < z
      · exact Bool.noConfusion (hgood.mpr h)
      · omega
    intros
    (try k_fold)
    k_steps
    all_goals (k_dflt (
      refine' ⟨trivial, _, _, _, _, _, _, kc, _, _, _, rfl, ?F, ?N, ?M, hi, hdict, hflat, Nat.le_succ _, hinv, ?u⟩
      case F => k_asm
      case N => k_asm
      case M => (intro p hp; first | exact hp | exact List.mem_cons_of_mem _ hp)
      case u => exact fun y _ hy => told_map hy)))
end
end Mine
end

-- part PJ7
section
open PySem PySem.W PySem.Calls PyProof.Rows
set_option Elab.async false
set_option maxRecDepth 100000
namespace Mine
theorem execs_wp {M : Model} {Γ : Ctx} {env : Env} {b : List Stmt} {Q : Flow → Pos → Shared → Prop} {E : Value → Pos → Shared → Prop} : ∀ (a : List Stmt) (p : Pos) (s : Shared),
    Sem.wp M Γ (execs a env) (fun f p' s' => match f with | .next => Sem.wp M Γ (execs b env) Q E p' s' | f => Q f p' s') E p s → Sem.wp M Γ (execs (a ++ b) env) Q E p s := by
  intro a
  induction a with
  | nil => intro p s h; exact h
  | cons st r ih =>
    intro p s h
    rw [List.cons_append, execs_cons, Sem.wp_bind']
    rw [execs_cons, Sem.wp_bind'] at h
    refine Sem.wp_mono M Γ _ (fun f p' s' h' => ?_) (fun _ _ _ h' => h') _ _ h
    cases f <;> first | exact ih p' s' h' | exact h'
theorem execs_app {M : Model} {A : Around} {E : Value → Shared → Prop} {s : Shared} {env : Env} {a b : List Stmt} {Q : Flow → Shared → Prop}
    (h : wpAny M A (execs a env) (fun f s' => match f with | .next => wpAny M A (execs b env) Q E s' | f => Q f s') E s) : wpAny M A (execs (a ++ b) env) Q E s := by
  intro Γ p hΓ
  refine execs_wp a p s (Sem.wp_mono M Γ _ (fun f p' s' h' => ?_) (fun _ _ _ h' => h') _ _ (h Γ p hΓ))
  cases f <;> first | exact h' Γ p' hΓ | exact h'
end Mine
end

-- part PJ8
section
open PySem PySem.W PySem.Calls PyProof.Rows
set_option Elab.async false
set_option maxRecDepth 100000
namespace Mine
theorem tail_any {K : Int} (h : 0 ≤ K ∧ K < 4) (G : Bool) : TailOk K G := by
  have : K = 0 ∨ K = 1 ∨ K = 2 ∨ K = 3 := by omega
  cases G
  · rcases this with rfl | rfl | rfl | rfl
    · exact tail0f
    · exact tail1f
    · exact tail2f
    · exact tail3f
  · rcases this with rfl | rfl | rfl | rfl
    · exact tail0t
    · exact tail1t
    · exact tail2t
    · exact tail3t
theorem turn_ok : ∀ lb lb1 lb2 tl sc, lawParts = some (lb1, lb2, tl, sc) → lb = lb1 ++ lb2 → ∀ (w : World) (mean : ExcName → Option Value) (mg mb : Str → Option Value) (h₀ : Heap) (L fa g : Nat) (s : Shared) (E : Value → Shared → Prop)
   (k : Int) (t : Tok) (u mb' : Str → Option Value) (f : Int) (tf : Tok) (z : Int) (tz t1 t2 : Tok) (Dr Dc l1 W xx d : Nat) (o1 oC oS : Obj) (own : List (Addr × Obj)) (c : St) (pre : List Int),
   Below callerA h₀ [] h₀ → (Mine.hd0305.heap_39 w.params).In h₀ → Top Mine.hd0305.view_39 (looseW Mine.hd0305.view_39 []) mean mg mb h₀ →
   Fr h₀ L s.heap (lawBase k t u mb' f tf z tz Dr) →
   News h₀ L s.heap (Led Dc l1 W xx d Dr (L+1+1+1+1) (L+1+1+1) (L+1+1) (L+1) o1 (memD w z tz t1 t2 W) oC oS c ++ own) →
   Facts w c → Says z pre c → pre.length < 31 → (W == sysModules) = false → oC.data = .cell (some (.ref Dc)) → oS.data = .cell (some (.ref xx)) → 16 ≤ z → z ≤ 64 → (4 : Int) ∣ z →
   L < Dr → L+1+1+1+1 < Dr → Dr < d → d < xx → xx < W → W < l1 → l1 < Dc →
   OwnOff own [Dc, l1, W, xx, d, Dr, L+1+1+1+1, L+1+1+1, L+1+1, L+1] →
   wpAny (model PySem.Challenge.rw_pb0305_01.row.prog w) (callerA.deeper (envOfC (Str.ofString "law") sc L fa (.ref g))) (execs lb (envOfC (Str.ofString "law") sc L fa (.ref g)))
     (TurnEnd w z h₀ L (Str.ofString "lap") [Str.ofString "kind", Str.ofString "at", Str.ofString "good", Str.ofString "told"] (fun y => if y = Str.ofString "far" then some (.int f tf) else if y = Str.ofString "size" then some (.int z tz) else if y = Str.ofString "row" then some (.ref Dr) else mb' y)
       (Led Dc l1 W xx d Dr (L+1+1+1+1) (L+1+1+1) (L+1+1) (L+1) o1 (memD w z tz t1 t2 W) oC oS) own (pre ++ [k]) s) E s := by
  intro lb lb1 lb2 tl sc hparts hlb w mean mg mb h₀ L fa g s E k t u mb' f tf z tz t1 t2 Dr Dc l1 W xx d o1 oC oS own c pre B X T F N hf hp hpre lo hoC hoS hz hz2 hz4 q0 q1 q2 q3 q4 q5 q6 hoff
  subst hlb
  obtain ⟨vc, nc, kc, oW, kvs, c, vr, nr, kr, ob, xb, ov, xv⟩ := c
  obtain ⟨f1, f2, f3, f4, f5, f6⟩ := hf
  obtain ⟨g1, g2, g3, g4⟩ := hp
  dsimp only at f1 f2 f3 f4 f5 f6 g1 g2 g3 g4
  refine execs_app (wpAny_mono (turn_head lb1 lb2 tl sc hparts w mean mg mb h₀ L fa g s E k t u mb' f tf z tz Dr Dc l1 W xx d (listOf vc.toArray kc) o1 oW (memD w z tz t1 t2 W) ob ov oC oS vr nr kr xb xv own B X T F N f4 g1 g2 f5 f6 hz hz2
    q0 q1 (by omega) (by omega) (by omega) (by omega) (by omega) (by omega) (by omega) (by omega) (by omega) (by omega) (by omega) (by omega) (by omega) hoff) ?_ fun _ _ e => e)
  rintro fl s' ⟨rfl, kind, tkd, a, ta, good, v, tv, tb, h', tk', vr', nr', kr', ob', ov', rfl, hk, hg, hi', hd', hl', hb', hv', F', N'⟩
  refine wpAny_mono (tail_any hk good lb1 lb2 tl sc hparts w mean mg mb h₀ L fa g _ E k t u mb' f tf z tz t1 t2 Dr Dc l1 W xx d o1 oW ob' ov' oC oS (listOf vr'.toArray kr') own vc nc kc kvs c tkd a ta v tv tb B X T F' N' f1 f2 f3 (by omega) lo g4 hb' hv' hoC hoS hz hz2 hz4 hg q1 q2 q3 q4 q5 q6 hoff) ?_ fun _ _ e => e
  rintro fl s'' ⟨hfl, h'', tk'', m', news', vc', nc', kc', oW', kvs', c', rfl, F'', N'', M'', i'', d'', f'', l'', v'', u''⟩
  have fin : ∀ fl : Flow, (match fl with | .ret _ => False | .brk => False | _ => True) → TurnEnd w z h₀ L (Str.ofString "lap") [Str.ofString "kind", Str.ofString "at", Str.ofString "good", Str.ofString "told"] (fun y => if y = Str.ofString "far" then some (.int f tf) else if y = Str.ofString "size" then some (.int z tz) else if y = Str.ofString "row" then some (.ref Dr) else mb' y)
       (Led Dc l1 W xx d Dr (L+1+1+1+1) (L+1+1+1) (L+1+1) (L+1) o1 (memD w z tz t1 t2 W) oC oS) own (pre ++ [k]) s fl { s with heap := h'', toks := tk'' } := by
    intro fl hfl
    have key : ∃ c' h' tk m' news', ({ s with heap := h'', toks := tk'' } : Shared) = { s with heap := h', toks := tk } ∧ Fr h₀ L h' m' ∧ News h₀ L h' news' ∧ (∀ p ∈ Led Dc l1 W xx d Dr (L+1+1+1+1) (L+1+1+1) (L+1+1) (L+1) o1 (memD w z tz t1 t2 W) oC oS c', p ∈ news') ∧ (∀ p ∈ own, p ∈ news') ∧ Facts w c' ∧ Says z (pre ++ [k]) c' ∧
        ∀ y, y ≠ Str.ofString "lap" → [Str.ofString "kind", Str.ofString "at", Str.ofString "good", Str.ofString "told"].contains y = false → m' y = (if y = Str.ofString "far" then some (.int f tf) else if y = Str.ofString "size" then some (.int z tz) else if y = Str.ofString "row" then some (.ref Dr) else mb' y) := by
      refine ⟨⟨vc', nc', kc', oW', kvs', c', vr', nr', kr', ob', _, ov', _⟩, h'', tk'', m', news', rfl, F'', N'', fun p hp => M'' p (List.mem_append_left own hp), fun p hp => M'' p (List.mem_append_right (Led Dc l1 W xx d Dr (L+1+1+1+1) (L+1+1+1) (L+1+1) (L+1) o1 (memD w z tz t1 t2 W) oC oS ⟨vc', nc', kc', oW', kvs', c', vr', nr', kr', ob', none, ov', none⟩) hp), ⟨i'', d'', f'', hi', hb', hv'⟩, ⟨hd', hl', ?_, v''⟩, fun y h1 h2 => ?_⟩
      · simp only [List.length_append, List.length_cons, List.length_nil]; omega
      · rw [u'' y h1 h2]
        simp only [lawBase]
        rw [if_neg h1, if_neg (by rw [h2]; exact Bool.false_ne_true)]
    cases fl with
    | ret v => exact hfl.elim
    | brk => exact hfl.elim
    | next => exact key
    | cont => exact key
  exact fin fl hfl
end Mine
end

-- part PL9
section
open PySem PySem.W PySem.Calls PyProof.Rows
set_option Elab.async false
set_option maxRecDepth 100000
namespace Mine
def FarPost (h₀ : Heap) (L : Addr) (m : Str → Option Value) (news : List (Addr × Obj)) (ns : List Int) (s : Shared) (v : Value) (s' : Shared) : Prop :=
  ∃ f t h' tk, v = .int f t ∧ (f = 0 ∨ f ∈ ns) ∧ s' = { s with heap := h', toks := tk } ∧ Fr h₀ L h' m ∧ News h₀ L h' news
section
variable {M : Model} {prog : Program} {w : World} {A : Around} {E : Value → Shared → Prop} {s s' : Shared} {h₀ h : Heap} {L l : Addr} {m : Str → Option Value} {news news' : List (Addr × Obj)} {vs : List Value} {ns : List Int}
theorem far_join {t : Sem Value} {Q : Value → Shared → Prop} (F : Fr h₀ L s.heap m) (N : News h₀ L s.heap news) (_hl : h₀.IsList l vs.toArray) (_hi : IntsAre vs ns) (h1 : wpAny M A t (FarPost h₀ L m news ns s) E s)
    (h2 : ∀ f t h' tk, (f = 0 ∨ f ∈ ns) → Fr h₀ L h' m → News h₀ L h' news → Q (.int f t) { s with heap := h', toks := tk }) : wpAny M A t Q E s :=
  wpAny_mono h1 (fun v s' ⟨f, t, h', tk, e1, e2, e3, F', N'⟩ => by subst e1 e3; exact h2 f t h' tk e2 F' N') fun _ _ x => x
theorem far_end {f : Int} {t : Tok} {tk : Nat} (F : Fr h₀ L h m) (N : News h₀ L h news') (hs : ∀ p ∈ news, p ∈ news') (hf : f = 0 ∨ f ∈ ns) : FarPost h₀ L m news ns s (.int f t) { s with heap := h, toks := tk } :=
  ⟨f, t, h, tk, rfl, hf, rfl, F, cb_drop N hs⟩
theorem script_last {value slice : Expr} {u : Tok} {Q : Value → Shared → Prop} (hl : s.heap.IsList l vs.toArray) (hi : IntsAre vs ns) (hne : decide (ns = []) = false) (h : ∀ f t, f ∈ ns → Q (.int f t) s)
    (hs : subscripted slice false (.ref l) (.int (-1) u) = operate [.ref l, .int (-1) u] (getItem (.ref l) (.int (-1) u))) (hg : ∀ r, letTemporaryGo value (.ref l) r = pure ()) :
    wpAny (model prog w) A (subscriptTail value slice (.ref l) (.int (-1) u)) Q E s := by
  have hp : 0 < ns.length := by
    cases ns with
    | nil => simp at hne
    | cons x r => simp
  have hlt : (-1 + (ns.length : Int)).toNat < ns.length := by omega
  refine item_list_ints_neg hl hi (by decide) (by omega) (by decide) (fun t => h _ t ?_) hs hg
  rw [List.getD_eq_getElem?_getD, List.getElem?_eq_getElem hlt]
  exact List.getElem_mem hlt
end
local macro_rules | `(tactic| walk_at "subscriptTail Name UnaryOp ref int") => `(tactic| (k_here; (with_unfolding_all refine' script_last ?l ?i ?n ?_ ?s ?g; (case l => is_list); (case i => l_ints); (case n => assumption); (case s => with_unfolding_all rfl); (case g => (intro _; with_unfolding_all rfl))); intro f' t' hf'))
local macro_rules | `(tactic| walk_at "eval IfExp") => `(tactic| (k_here; (with_reducible show wpAny _ _ (eval (Expr.IfExp (Expr.Compare (Expr.Name (Str.ofString "script") _) _ _ _) _ _ _) _) _ _ _); (fail_if_success (with_reducible show wpAny _ _ _ (FarPost _ _ _ _ _ _) _ _)); k_dflt (refine' far_join ?F ?N ?l ?i ?g1 ?_; (case F => k_asm); (case N => k_asm); (case l => assumption); (case i => assumption); (case g1 => (k_steps; all_goals (refine far_end (by k_asm) (by k_asm) (by kcj_all) (by first | exact Or.inl rfl | exact Or.inr (by assumption)))))); intro f' t' h' tk' hfar F' N'; (try k_sweep)))
local macro_rules | `(tactic| walk_at "call ref") => `(tactic| (k_here; (with_reducible show wpAny _ _ (call (Value.ref 116) _) _ _ _); k_dflt (refine' row_call _ _ _ _ _ _ _ _ _ _ _ _ _ _ _ _ _ _ _ _ _ _ _ _ _ ?B ?F ?X ?N ?T ?hk ?l ?i ?le ?hd ?hu ?_; (case B => k_asm); (case F => k_asm); (case X => k_asm); (case N => k_asm); (case T => k_asm); (case hk => first | rfl | assumption); (case l => assumption); (case i => assumption); (case le => omega); (case hd => ktr_room); (case hu => ktr_units)); intro d' h' tk' vs' ns' n' hI' hD' hL' F' N' l1; (try k_lt l1); (try k_sweep)))
local macro_rules | `(tactic| walk_at "call ref") => `(tactic| (k_here; (with_reducible show wpAny _ _ (call (Value.ref 123) _) _ _ _); k_dflt (refine' next_at ?B ?F ?X ?N ?U ?T ?hk ?i ?dg ?le ?hd ?hu ?_; (case B => k_asm); (case F => k_asm); (case X => k_asm); (case N => k_asm); (case T => k_asm); (case U => k_updF); (case hk => first | rfl | assumption); (case i => assumption); (case dg => assumption); (case le => assumption); (case hd => ktr_room); (case hu => ktr_units)); intro v' t' h' tk' vs' ns' n' q0 q1 hI' hD' hL' F' N'; (try dsimp only at N'); (try k_sweep)))
theorem look_nil (k : Int) : kdfLook [] k 0 = 0 := rfl
theorem flat_zero (n : Nat) : (List.replicate n [(0 : Int)]).flatten = List.replicate n 0 := by
  induction n with
  | zero => rfl
  | succ n ih => rw [List.replicate_succ, List.flatten_cons, ih]; rfl
theorem memInv_init (z : Int) (h : 0 ≤ z) : MemInv z [] (List.replicate z.toNat [(0 : Int)]).flatten := by
  rw [flat_zero]
  refine ⟨by rw [List.length_replicate]; omega, fun k => ?_, fun j h0 h1 => ?_⟩
  · rw [look_nil]; omega
  · rw [look_nil, List.getD_eq_getElem?_getD, List.getElem?_replicate, if_pos (by omega)]
    unfold byteAt; simp
theorem fmod13 (v : Int) : 0 ≤ v.fmod 13 ∧ v.fmod 13 ≤ 12 := by rw [Int.fmod_eq_emod_of_nonneg _ (by decide)]; omega
theorem fmod31 (v : Int) : 0 ≤ v.fmod 31 ∧ v.fmod 31 < 31 := by rw [Int.fmod_eq_emod_of_nonneg _ (by decide)]; omega
theorem size_ge (v : Int) : 16 ≤ 16 + v.fmod 13 * 4 := by have := fmod13 v; omega
theorem size_le (v : Int) : 16 + v.fmod 13 * 4 ≤ 64 := by have := fmod13 v; omega
theorem size_nn (v : Int) : 0 ≤ 16 + v.fmod 13 * 4 := by have := fmod13 v; omega
theorem le_small {c : List (Int × Int)} {pre : List Int} (h : c.length ≤ pre.length) (h2 : pre.length < 31) : c.length ≤ 4096 := by omega
theorem elt_lt {k z : Int} (h : k < 0 + ((z - 0).toNat : Int)) (hz : 0 ≤ z) : k < z := by omega
theorem size_four (v : Int) : (4 : Int) ∣ 16 + v.fmod 13 * 4 := by omega
local macro_rules | `(tactic| walk_at "call ref") => `(tactic| (k_here; (with_reducible show wpAny _ _ (call (Value.ref 88) _) _ _ _); k_dflt (refine' byte_keep_at ?B ?F ?X ?N ?W ?x ?m ?T ?hk ?hd ?hu ?lo ?di ?fl ?le ?h0 ?h1 ?_; (case B => k_asm); (case F => k_asm); (case X => k_asm); (case N => k_asm); (case x => k_mem); (case m => k_mem); (case W => k_mem); (case T => k_asm); (case hk => first | rfl | assumption); (case hd => ktr_room); (case hu => ktr_units); (case lo => assumption); (case di => assumption); (case fl => assumption); (case le => (refine' le_small ?la ?lb; (case la => assumption); (case lb => assumption))); (case h0 => assumption); (case h1 => exact elt_lt (by assumption) (size_nn _))); intro t' h' tk' F' N' cE'))
set_option maxHeartbeats 8000000 in
theorem law : PySem.Challenge.rw_pb0305_01.Holds := by
  refine Mine.hd0305 ?_
  w_top off
  w_strict (
    k_go0
    (all_goals try k_fold)
    k_steps
    (k_dflt (
     refine' main_loop _ [Str.ofString "kind", Str.ofString "at", Str.ofString "good", Str.ofString "told"] (c := []) ?hh ?hr ?hb ?F ?N ?f1 ?f2 ?f3 ?f4 ?f5 ?f6 ?g1 ?g2 rfl ?g4 ?turn ?done
     case hh => exact rfl
     case hr => assumption
     case hb => exact fmod31 _
     case F => assumption
     case N => assumption
     case f1 => assumption
     case f2 => assumption
     case f3 => assumption
     case f4 => assumption
     case f5 => assumption
     case f6 => assumption
     case g1 => assumption
     case g2 => assumption
     case g4 => exact memInv_init _ (size_nn _)
     case turn =>
       intro c pre k t u h tk own hpre hoff hf hp F N
       refine' turn_ok _ _ _ _ _ ?parts ?app _ _ _ _ _ _ _ _ _ _ _ _ _ _ _ _ _ _ _ _ _ _ _ _ _ _ _ _ _ _ _ _ ?B ?X ?T ?F ?N hf hp hpre ?lo ?oC ?oS ?z1 ?z2 ?z4 ?q0 ?q1 ?q2 ?q3 ?q4 ?q5 ?q6 ?off
       case F => exact F
       case N => exact N
       case off => exact hoff
       case parts => exact rfl
       case app => exact rfl
       case B => assumption
       case X => assumption
       case T => assumption
       case lo => assumption
       case oC => assumption
       case oS => assumption
       case z1 => exact size_ge _
       case z2 => exact size_le _
       case z4 => exact size_four _
       all_goals omega
     case' done =>
       intro c pre u h tk hpre hf hp F N
       obtain ⟨vc, nc, kc, oW, kvs, c, vr, nr, kr, ob, xb, ov, xv⟩ := c
       obtain ⟨f1, f2, f3, f4, f5, f6⟩ := hf
       obtain ⟨g1, g2, g3, g4⟩ := hp
       dsimp only at f1 f2 f3 f4 f5 f6 g1 g2 g3 g4
       simp only [Led] at N))
    (try k_fold)
    k_steps
    exact absurd (final_cells (by assumption) (size_nn _)) (by assumption))
end Mine
end

theorem PySem.Challenge.cw_pb0305_01_holds : PySem.Challenge.rw_pb0305_01.Holds := by
  exact Mine.law
