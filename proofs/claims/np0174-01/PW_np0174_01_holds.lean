import PyProof.Rows.All
import Wide.All
import OpenK.AllK
import Wide.FinOn
import Lean
import PySem.Challenge.RW_np0174_01
set_option Elab.async false
set_option compiler.extract_closed false
open PySem PySem.W PyProof.Rows PySem.Spec PySem.Calls
namespace Mine
section
open PySem PySem.W PyProof.Rows
local macro_rules | `(tactic| refine $_) => `(tactic| exact False.elim (by assumption))
set_option maxRecDepth 100000 in
set_option maxHeartbeats 8000000 in
/-- says nothing: its proof has the program's written part (heap) and its view set down as constants -/
theorem hd (h : False) : PySem.Challenge.rw_np0174_01.row.Holds := by
  w_on
  k_head
end
local macro_rules | `(tactic| walk_at $s:str) => `(tactic| k_extra $s)
local macro_rules | `(tactic| ktr_unf) => `(tactic| k_extra "ktr_unf")
local macro_rules | `(tactic| ktn_open) => `(tactic| k_extra "ktn_open")
local macro_rules | `(tactic| k_steps) => `(tactic| k_extra "k_steps")
local macro_rules | `(tactic| lcg_off) => `(tactic| k_extra "lcg_off")
local macro_rules | `(tactic| k_mem) => `(tactic| k_extra "k_mem")
local macro_rules | `(tactic| k_all) => `(tactic| k_extra "k_all")
local macro_rules | `(tactic| x_close) => `(tactic| k_extra "x_close")
local macro_rules | `(tactic| ktr_rel) => `(tactic| k_extra "ktr_rel")
local macro_rules | `(tactic| k_ne) => `(tactic| k_extra "k_ne")
section
open PySem PySem.W PyProof.Rows PySem.Spec PySem.Calls

abbrev Led := List (Addr × Obj)

def Con (w : World) (f : Addr) (n : Nat) (vs : List Value) (Pre : Led → Prop) (Out : Value → Led → Prop) : Prop :=
  ∀ (prog : Program) (p : Program) (loose : List Str) (mean : ExcName → Option Value) (mg mb : Str → Option Value)
    (dp un : Nat) (gd : Option (List Code)) (cn : Str) (cs : Scope) (a : Addr) (ccd : Value) (cl : List (Str × Addr)) (outer : List Env) (A₀ : Around) (base h₀ : Heap) (L : Addr) (m : Str → Option Value) (news : Led) (s : Shared)
    (Q E : Value → Shared → Prop),
    Below A₀ base outer h₀ → Fr h₀ L s.heap m → (Mine.hd.heap_1 w.params).In h₀ → News h₀ L s.heap news → Top p loose mean mg mb h₀ → cs.kind = .function → Pre news → dp + n < recursionLimit → un + 8 * n < cLine →
    (∀ (r : Value) (tl : Led) (h' : Heap) (tk' : Nat), Fr h₀ L h' m → News h₀ L h' (tl ++ news) → (∀ q ∈ tl, LCg.Off1 q.1 news) → Out r tl → Q r { s with heap := h', toks := tk' }) →
    wpAny (model prog w) (ktrTop dp un gd cn cs L a ccd cl outer) (call (.ref f) vs) Q E s

theorem fillK {P : Prop} (h : PySem.Challenge.rw_np0174_01 = PySem.Challenge.rw_np0174_01 → P) : P := h rfl

section
variable {w : World} {f : Addr} {n : Nat} {vs : List Value} {Pre : Led → Prop} {Out : Value → Led → Prop} {prog p : Program} {loose : List Str} {mean : ExcName → Option Value} {mg mb : Str → Option Value} {dp un : Nat} {gd : Option (List Code)} {cn : Str} {cs : Scope} {a : Addr} {ccd : Value} {cl : List (Str × Addr)} {outer : List Env} {A₀ : Around} {base h₀ : Heap} {L : Addr} {m : Str → Option Value} {news : Led} {s : Shared} {Q E : Value → Shared → Prop}
theorem use_con (C : Con w f n vs Pre Out) (B : Below A₀ base outer h₀) (F : Fr h₀ L s.heap m) (X : (Mine.hd.heap_1 w.params).In h₀) (N : News h₀ L s.heap news) (T : Top p loose mean mg mb h₀) (hk : cs.kind = .function) (hp : Pre news) (hd : dp + n < recursionLimit) (hu : un + 8 * n < cLine)
    (k : ∀ (r : Value) (tl : Led) (h' : Heap) (tk' : Nat), Fr h₀ L h' m → News h₀ L h' (tl ++ news) → (∀ q ∈ tl, LCg.Off1 q.1 news) → Out r tl → Q r { s with heap := h', toks := tk' }) :
    wpAny (model prog w) (ktrTop dp un gd cn cs L a ccd cl outer) (call (.ref f) vs) Q E s := C _ _ _ _ _ _ _ _ _ _ _ _ _ _ _ _ _ _ _ _ _ _ _ _ B F X N T hk hp hd hu k
theorem use_I {v : Tok → Value} (B : Below A₀ base outer h₀) (F : Fr h₀ L s.heap m) (X : (Mine.hd.heap_1 w.params).In h₀) (N : News h₀ L s.heap news) (T : Top p loose mean mg mb h₀) (hk : cs.kind = .function) (hp : Pre news) (hd : dp + n < recursionLimit) (hu : un + 8 * n < cLine)
    (C : Con w f n vs Pre (fun r tl => tl = [] ∧ ∃ t, r = v t)) (k : ∀ t h' tk', Fr h₀ L h' m → News h₀ L h' news → Q (v t) { s with heap := h', toks := tk' }) : wpAny (model prog w) (ktrTop dp un gd cn cs L a ccd cl outer) (call (.ref f) vs) Q E s :=
  use_con C B F X N T hk hp hd hu fun r tl h' tk' F' N' _ ho => by
    obtain ⟨rfl, t, rfl⟩ := ho
    exact k t h' tk' F' N'
theorem use_V {v : Value} (B : Below A₀ base outer h₀) (F : Fr h₀ L s.heap m) (X : (Mine.hd.heap_1 w.params).In h₀) (N : News h₀ L s.heap news) (T : Top p loose mean mg mb h₀) (hk : cs.kind = .function) (hp : Pre news) (hd : dp + n < recursionLimit) (hu : un + 8 * n < cLine)
    (C : Con w f n vs Pre (fun r tl => r = v ∧ tl = [])) (k : ∀ h' tk', Fr h₀ L h' m → News h₀ L h' news → Q v { s with heap := h', toks := tk' }) : wpAny (model prog w) (ktrTop dp un gd cn cs L a ccd cl outer) (call (.ref f) vs) Q E s :=
  use_con C B F X N T hk hp hd hu fun r tl h' tk' F' N' _ ho => by
    obtain ⟨rfl, rfl⟩ := ho
    exact k h' tk' F' N'
end
abbrev none0 : Led → Prop := fun _ => True
theorem lt_nil {news : Led} : ∀ q ∈ ([] : Led), LCg.Off1 q.1 news := fun _ h => nomatch h
theorem off_of {a : Addr} : ∀ {l : Led}, (∀ p ∈ l, p.1 ≠ a) → LCg.Off1 a l
  | [], _ => trivial
  | p :: _, h => ⟨h p (.head _), off_of fun q hq => h q (.tail _ hq)⟩
theorem off_mem {a : Addr} : ∀ {l : Led}, LCg.Off1 a l → ∀ p ∈ l, p.1 ≠ a
  | [], _, _, h => nomatch h
  | _ :: _, x, p, h => by
    rcases List.mem_cons.mp h with rfl | h
    · exact x.1
    · exact off_mem x.2 p h
theorem off_sub {a : Addr} {led news : Led} (h : LCg.Off1 a led) (hs : ∀ p ∈ news, p ∈ led) : LCg.Off1 a news := off_of fun p hp => off_mem h p (hs p hp)
theorem allLt_mem {a : Nat} : ∀ {l : Led}, AllLt a l → ∀ p ∈ l, p.1 < a
  | [], _, _, h => nomatch h
  | _ :: _, x, p, h => by
    rcases List.mem_cons.mp h with rfl | h
    · exact x.1
    · exact allLt_mem x.2 p h
theorem off_lt {a : Addr} {l : Led} (h : AllLt a l) : LCg.Off1 a l := off_of fun p hp => Nat.ne_of_lt (allLt_mem h p hp)
theorem lt_one {news : Led} {a : Addr} {o : Obj} (h : LCg.Off1 a news) : ∀ q ∈ [(a, o)], LCg.Off1 q.1 news := fun _ hq => by rw [List.mem_singleton.mp hq]; exact h
theorem an1 {a0 P : Prop} (h : a0 ∧ P) : P := h.2
theorem an2 {a0 a1 P : Prop} (h : a0 ∧ a1 ∧ P) : P := h.2.2
theorem an3 {a0 a1 a2 P : Prop} (h : a0 ∧ a1 ∧ a2 ∧ P) : P := h.2.2.2
theorem an4 {a0 a1 a2 a3 P : Prop} (h : a0 ∧ a1 ∧ a2 ∧ a3 ∧ P) : P := h.2.2.2.2
theorem an5 {a0 a1 a2 a3 a4 P : Prop} (h : a0 ∧ a1 ∧ a2 ∧ a3 ∧ a4 ∧ P) : P := h.2.2.2.2.2
theorem an6 {a0 a1 a2 a3 a4 a5 P : Prop} (h : a0 ∧ a1 ∧ a2 ∧ a3 ∧ a4 ∧ a5 ∧ P) : P := h.2.2.2.2.2.2
theorem an7 {a0 a1 a2 a3 a4 a5 a6 P : Prop} (h : a0 ∧ a1 ∧ a2 ∧ a3 ∧ a4 ∧ a5 ∧ a6 ∧ P) : P := h.2.2.2.2.2.2.2
theorem an8 {a0 a1 a2 a3 a4 a5 a6 a7 P : Prop} (h : a0 ∧ a1 ∧ a2 ∧ a3 ∧ a4 ∧ a5 ∧ a6 ∧ a7 ∧ P) : P := h.2.2.2.2.2.2.2.2
theorem an9 {a0 a1 a2 a3 a4 a5 a6 a7 a8 P : Prop} (h : a0 ∧ a1 ∧ a2 ∧ a3 ∧ a4 ∧ a5 ∧ a6 ∧ a7 ∧ a8 ∧ P) : P := h.2.2.2.2.2.2.2.2.2
theorem an10 {a0 a1 a2 a3 a4 a5 a6 a7 a8 a9 P : Prop} (h : a0 ∧ a1 ∧ a2 ∧ a3 ∧ a4 ∧ a5 ∧ a6 ∧ a7 ∧ a8 ∧ a9 ∧ P) : P := h.2.2.2.2.2.2.2.2.2.2
theorem an11 {a0 a1 a2 a3 a4 a5 a6 a7 a8 a9 a10 P : Prop} (h : a0 ∧ a1 ∧ a2 ∧ a3 ∧ a4 ∧ a5 ∧ a6 ∧ a7 ∧ a8 ∧ a9 ∧ a10 ∧ P) : P := h.2.2.2.2.2.2.2.2.2.2.2
theorem an12 {a0 a1 a2 a3 a4 a5 a6 a7 a8 a9 a10 a11 P : Prop} (h : a0 ∧ a1 ∧ a2 ∧ a3 ∧ a4 ∧ a5 ∧ a6 ∧ a7 ∧ a8 ∧ a9 ∧ a10 ∧ a11 ∧ P) : P := h.2.2.2.2.2.2.2.2.2.2.2.2
theorem an13 {a0 a1 a2 a3 a4 a5 a6 a7 a8 a9 a10 a11 a12 P : Prop} (h : a0 ∧ a1 ∧ a2 ∧ a3 ∧ a4 ∧ a5 ∧ a6 ∧ a7 ∧ a8 ∧ a9 ∧ a10 ∧ a11 ∧ a12 ∧ P) : P := h.2.2.2.2.2.2.2.2.2.2.2.2.2
theorem an14 {a0 a1 a2 a3 a4 a5 a6 a7 a8 a9 a10 a11 a12 a13 P : Prop} (h : a0 ∧ a1 ∧ a2 ∧ a3 ∧ a4 ∧ a5 ∧ a6 ∧ a7 ∧ a8 ∧ a9 ∧ a10 ∧ a11 ∧ a12 ∧ a13 ∧ P) : P := h.2.2.2.2.2.2.2.2.2.2.2.2.2.2
theorem an15 {a0 a1 a2 a3 a4 a5 a6 a7 a8 a9 a10 a11 a12 a13 a14 P : Prop} (h : a0 ∧ a1 ∧ a2 ∧ a3 ∧ a4 ∧ a5 ∧ a6 ∧ a7 ∧ a8 ∧ a9 ∧ a10 ∧ a11 ∧ a12 ∧ a13 ∧ a14 ∧ P) : P := h.2.2.2.2.2.2.2.2.2.2.2.2.2.2.2
theorem an16 {a0 a1 a2 a3 a4 a5 a6 a7 a8 a9 a10 a11 a12 a13 a14 a15 P : Prop} (h : a0 ∧ a1 ∧ a2 ∧ a3 ∧ a4 ∧ a5 ∧ a6 ∧ a7 ∧ a8 ∧ a9 ∧ a10 ∧ a11 ∧ a12 ∧ a13 ∧ a14 ∧ a15 ∧ P) : P := h.2.2.2.2.2.2.2.2.2.2.2.2.2.2.2.2
theorem an17 {a0 a1 a2 a3 a4 a5 a6 a7 a8 a9 a10 a11 a12 a13 a14 a15 a16 P : Prop} (h : a0 ∧ a1 ∧ a2 ∧ a3 ∧ a4 ∧ a5 ∧ a6 ∧ a7 ∧ a8 ∧ a9 ∧ a10 ∧ a11 ∧ a12 ∧ a13 ∧ a14 ∧ a15 ∧ a16 ∧ P) : P := h.2.2.2.2.2.2.2.2.2.2.2.2.2.2.2.2.2
theorem an18 {a0 a1 a2 a3 a4 a5 a6 a7 a8 a9 a10 a11 a12 a13 a14 a15 a16 a17 P : Prop} (h : a0 ∧ a1 ∧ a2 ∧ a3 ∧ a4 ∧ a5 ∧ a6 ∧ a7 ∧ a8 ∧ a9 ∧ a10 ∧ a11 ∧ a12 ∧ a13 ∧ a14 ∧ a15 ∧ a16 ∧ a17 ∧ P) : P := h.2.2.2.2.2.2.2.2.2.2.2.2.2.2.2.2.2.2
theorem an19 {a0 a1 a2 a3 a4 a5 a6 a7 a8 a9 a10 a11 a12 a13 a14 a15 a16 a17 a18 P : Prop} (h : a0 ∧ a1 ∧ a2 ∧ a3 ∧ a4 ∧ a5 ∧ a6 ∧ a7 ∧ a8 ∧ a9 ∧ a10 ∧ a11 ∧ a12 ∧ a13 ∧ a14 ∧ a15 ∧ a16 ∧ a17 ∧ a18 ∧ P) : P := h.2.2.2.2.2.2.2.2.2.2.2.2.2.2.2.2.2.2.2
theorem an20 {a0 a1 a2 a3 a4 a5 a6 a7 a8 a9 a10 a11 a12 a13 a14 a15 a16 a17 a18 a19 P : Prop} (h : a0 ∧ a1 ∧ a2 ∧ a3 ∧ a4 ∧ a5 ∧ a6 ∧ a7 ∧ a8 ∧ a9 ∧ a10 ∧ a11 ∧ a12 ∧ a13 ∧ a14 ∧ a15 ∧ a16 ∧ a17 ∧ a18 ∧ a19 ∧ P) : P := h.2.2.2.2.2.2.2.2.2.2.2.2.2.2.2.2.2.2.2.2
theorem an21 {a0 a1 a2 a3 a4 a5 a6 a7 a8 a9 a10 a11 a12 a13 a14 a15 a16 a17 a18 a19 a20 P : Prop} (h : a0 ∧ a1 ∧ a2 ∧ a3 ∧ a4 ∧ a5 ∧ a6 ∧ a7 ∧ a8 ∧ a9 ∧ a10 ∧ a11 ∧ a12 ∧ a13 ∧ a14 ∧ a15 ∧ a16 ∧ a17 ∧ a18 ∧ a19 ∧ a20 ∧ P) : P := h.2.2.2.2.2.2.2.2.2.2.2.2.2.2.2.2.2.2.2.2.2
theorem an22 {a0 a1 a2 a3 a4 a5 a6 a7 a8 a9 a10 a11 a12 a13 a14 a15 a16 a17 a18 a19 a20 a21 P : Prop} (h : a0 ∧ a1 ∧ a2 ∧ a3 ∧ a4 ∧ a5 ∧ a6 ∧ a7 ∧ a8 ∧ a9 ∧ a10 ∧ a11 ∧ a12 ∧ a13 ∧ a14 ∧ a15 ∧ a16 ∧ a17 ∧ a18 ∧ a19 ∧ a20 ∧ a21 ∧ P) : P := h.2.2.2.2.2.2.2.2.2.2.2.2.2.2.2.2.2.2.2.2.2.2
theorem an23 {a0 a1 a2 a3 a4 a5 a6 a7 a8 a9 a10 a11 a12 a13 a14 a15 a16 a17 a18 a19 a20 a21 a22 P : Prop} (h : a0 ∧ a1 ∧ a2 ∧ a3 ∧ a4 ∧ a5 ∧ a6 ∧ a7 ∧ a8 ∧ a9 ∧ a10 ∧ a11 ∧ a12 ∧ a13 ∧ a14 ∧ a15 ∧ a16 ∧ a17 ∧ a18 ∧ a19 ∧ a20 ∧ a21 ∧ a22 ∧ P) : P := h.2.2.2.2.2.2.2.2.2.2.2.2.2.2.2.2.2.2.2.2.2.2.2
theorem an24 {a0 a1 a2 a3 a4 a5 a6 a7 a8 a9 a10 a11 a12 a13 a14 a15 a16 a17 a18 a19 a20 a21 a22 a23 P : Prop} (h : a0 ∧ a1 ∧ a2 ∧ a3 ∧ a4 ∧ a5 ∧ a6 ∧ a7 ∧ a8 ∧ a9 ∧ a10 ∧ a11 ∧ a12 ∧ a13 ∧ a14 ∧ a15 ∧ a16 ∧ a17 ∧ a18 ∧ a19 ∧ a20 ∧ a21 ∧ a22 ∧ a23 ∧ P) : P := h.2.2.2.2.2.2.2.2.2.2.2.2.2.2.2.2.2.2.2.2.2.2.2.2
end
section
open PySem PySem.W PyProof.Rows
theorem mask_int (x : Int) (h : 0 ≤ x) : Builtin.bitAnd x 4294967295 = ((x.toNat % 4294967296 : Nat) : Int) := by
  have h1 := kbt_mask x 32
  have h2 : (2 : Int) ^ 32 - 1 = 4294967295 := by decide
  have h3 : (2 : Int) ^ 32 = 4294967296 := by decide
  rw [h2, h3] at h1
  rw [h1, Int.natCast_emod, Int.toNat_of_nonneg h]
  rfl
theorem mask_nat (x : Nat) : Builtin.bitAnd (x : Int) 4294967295 = ((x % 4294967296 : Nat) : Int) := by
  rw [mask_int _ (Int.natCast_nonneg x), Int.toNat_natCast]
theorem and_add (a b : BitVec 32) : Builtin.bitAnd ((a.toNat : Int) + b.toNat) 4294967295 = ((a + b).toNat : Int) := by
  rw [← Int.natCast_add, mask_nat, BitVec.toNat_add]
theorem or_nat (x y : Nat) : Builtin.bitOr (x : Int) (y : Int) = ((x ||| y : Nat) : Int) := by
  have h := nat_or_add_and x y
  rw [bitOr_and, bitAnd_pp (Int.natCast_nonneg x) (Int.natCast_nonneg y), Int.toNat_natCast, Int.toNat_natCast]
  omega
theorem xor_dm (x : Nat) {k : Nat} (h : x % 2 = k) : x = 2 * (x / 2) + k := by rw [← h]; exact (Nat.div_add_mod x 2).symm
theorem xor_step {x y u v : Nat} (hx : x % 2 = 0 ∨ x % 2 = 1) (hy : y % 2 = 0 ∨ y % 2 = 1) (hu : u % 2 = 0 ∨ u % 2 = 1) (hv : v % 2 = 0 ∨ v % 2 = 1)
    (o : u % 2 = 1 ↔ ¬(x % 2 = 1 ↔ y % 2 = 1)) (a : v % 2 = 1 ↔ x % 2 = 1 ∧ y % 2 = 1) (h : u / 2 + 2 * (v / 2) = x / 2 + y / 2) : u + 2 * v = x + y := by
  rcases hx with hx | hx <;> rcases hy with hy | hy <;> rcases hu with hu | hu <;> rcases hv with hv | hv <;> simp only [hx, hy, hu, hv] at o a <;> first | (exfalso; revert o; decide) | (exfalso; revert a; decide) | (rw [xor_dm x hx, xor_dm y hy, xor_dm u hu, xor_dm v hv]; generalize x / 2 = p, y / 2 = q, u / 2 = r, v / 2 = s at h ⊢; clear hx hy hu hv o a; omega)
theorem xor_nat (x y : Nat) : Builtin.bitXor (x : Int) (y : Int) = ((x ^^^ y : Nat) : Int) := by
  have h1 : ∀ x y : Nat, (x ^^^ y) + 2 * (x &&& y) = x + y := by
    intro x
    induction x using Nat.strongRecOn with
    | ind x ih =>
      intro y
      by_cases h0 : x = 0
      · subst h0; simp
      · have ih' := ih (x / 2) (by omega) (y / 2)
        rw [← Nat.xor_div_two, ← Nat.and_div_two] at ih'
        have o1 := @Nat.xor_mod_two_eq_one x y
        have a1 := @Nat.and_mod_two_eq_one x y
        exact xor_step (Nat.mod_two_eq_zero_or_one x) (Nat.mod_two_eq_zero_or_one y) (Nat.mod_two_eq_zero_or_one _) (Nat.mod_two_eq_zero_or_one _) o1 a1 ih'
  have h := h1 x y
  rw [bitXor_and, bitAnd_pp (Int.natCast_nonneg x) (Int.natCast_nonneg y), Int.toNat_natCast, Int.toNat_natCast]
  omega
theorem xor_bv (a b : BitVec 32) : Builtin.bitXor (a.toNat : Int) (b.toNat : Int) = ((a ^^^ b).toNat : Int) := by
  rw [xor_nat, BitVec.toNat_xor]
theorem rot_bv (x : BitVec 32) (n : Nat) (h0 : 0 < n) (h1 : n < 32) :
    Builtin.bitAnd (Builtin.bitOr ((x.toNat : Int) * 2 ^ (n : Int).toNat) ((x.toNat : Int).fdiv (2 ^ (32 - (n : Int)).toNat))) 4294967295 = ((x.rotateLeft n).toNat : Int) := by
  have e1 : (x.toNat : Int) * 2 ^ (n : Int).toNat = ((x.toNat <<< n : Nat) : Int) := by
    rw [Int.toNat_natCast, Nat.shiftLeft_eq, Int.natCast_mul, kbt_cast]
  have e2 : (x.toNat : Int).fdiv (2 ^ (32 - (n : Int)).toNat) = ((x.toNat >>> (32 - n) : Nat) : Int) := by
    have : (32 - (n : Int)).toNat = 32 - n := by omega
    rw [this, Int.fdiv_eq_ediv_of_nonneg _ (Int.le_of_lt (kbt_pos _)), Nat.shiftRight_eq_div_pow, Int.natCast_ediv, kbt_cast]
  rw [e1, e2, or_nat, mask_nat]
  congr 1
  have er : x.rotateLeft n = x <<< (n % 32) ||| x >>> (32 - n % 32) := rfl
  rw [er, BitVec.toNat_or, BitVec.toNat_shiftLeft, BitVec.toNat_ushiftRight, Nat.mod_eq_of_lt h1]
  have hx : x.toNat >>> (32 - n) < 2 ^ 32 := Nat.lt_of_le_of_lt (Nat.shiftRight_le _ _) x.isLt
  rw [show (4294967296 : Nat) = 2 ^ 32 from by decide, Nat.or_mod_two_pow, Nat.mod_eq_of_lt hx]
theorem rot_nat (x : BitVec 32) (n : Nat) (h0 : 0 < n) (h1 : n < 32) : x.toNat * 2 ^ n % 2 ^ 32 + x.toNat / 2 ^ (32 - n) = (x.rotateLeft n).toNat := by
  have er : x.rotateLeft n = x <<< (n % 32) ||| x >>> (32 - n % 32) := rfl
  rw [er, BitVec.toNat_or, BitVec.toNat_shiftLeft, BitVec.toNat_ushiftRight, Nat.mod_eq_of_lt h1]
  have hx := x.isLt
  have h2 : x.toNat <<< n % 2 ^ 32 = (x.toNat % 2 ^ (32 - n)) <<< n := by
    rw [Nat.shiftLeft_eq, Nat.shiftLeft_eq, show (2 : Nat) ^ 32 = 2 ^ (32 - n) * 2 ^ n by rw [← Nat.pow_add]; congr 1; omega, Nat.mul_mod_mul_right]
  have h3 : x.toNat >>> (32 - n) < 2 ^ n := by
    rw [Nat.shiftRight_eq_div_pow, Nat.div_lt_iff_lt_mul (Nat.two_pow_pos _), ← Nat.pow_add]
    rw [show n + (32 - n) = 32 by omega]; exact hx
  rw [h2, ← Nat.shiftLeft_add_eq_or_of_lt h3, ← h2, Nat.shiftLeft_eq, Nat.shiftRight_eq_div_pow]
end
section
open PySem PySem.W PyProof.Rows PySem.Spec PySem.Calls

set_option maxRecDepth 100000
set_option maxHeartbeats 8000000

theorem rows_C1_1 : True := by
  w_top off
  k_with_none
  (k_with "ktn_open" => (refine wpAny_call ?_; k_dflt ktr_enter))
  (k_with "ktr_unf" => (unfold Con; refine fillK ?_; k_fill; intro hZZ; clear hZZ))
  trivial
theorem end0 {news : Led} {h₀ h' : Heap} {L : Addr} {m : Str → Option Value} {s : Shared} {Q : Value → Shared → Prop} {Out : Value → Led → Prop}
    (hret : ∀ (r : Value) (tl : Led) (h' : Heap) (tk' : Nat), Fr h₀ L h' m → News h₀ L h' (tl ++ news) → (∀ q ∈ tl, LCg.Off1 q.1 news) → Out r tl → Q r { s with heap := h', toks := tk' })
    {r : Value} {tk' : Nat} (F : Fr h₀ L h' m) (N : News h₀ L h' news) (ho : Out r []) : Q r { s with heap := h', toks := tk' } := hret r [] h' tk' F N lt_nil ho

theorem con_turnedI (w : World) (x n : Int) (t u : Tok) (h0 : 0 ≤ x) (h1 : x < 4294967296) (h2 : 0 < n) (h3 : n < 32) :
    Con w 76 1 [.int x t, .int n u] none0 (fun r tl => tl = [] ∧ ∃ t, r = .int (Builtin.bitAnd (Builtin.bitOr (x * 2 ^ n.toNat) (x.fdiv (2 ^ (32 - n).toNat))) 4294967295) t) := by
  ktr_unf
  intro prog p loose mean mg mb dp un gd cn cs a ccd cl outer A₀ base h₀ L m news s Q E B F X N T hk hok hd hu hret
  ktn_open
  k_steps
  all_goals exact end0 hret (by k_asm) (by k_asm) ⟨rfl, _, rfl⟩
end
section
open PySem PySem.W PyProof.Rows
theorem filter_congr' {α : Type} {p q : α → Bool} {l : List α} (h : ∀ a ∈ l, p a = q a) : l.filter p = l.filter q := List.filter_congr h
theorem bitsum : ∀ (n z : Nat), z < 2 ^ n → (((List.range n).filter fun k => z.testBit k).map fun k => 2 ^ k).sum = z
  | 0, z, h => by
    have : z = 0 := by simp at h; omega
    subst this; rfl
  | n + 1, z, h => by
    have hp : 0 < 2 ^ n := Nat.two_pow_pos n
    have ih := bitsum n (z % 2 ^ n) (Nat.mod_lt _ hp)
    have e : (List.range n).filter (fun k => (z % 2 ^ n).testBit k) = (List.range n).filter (fun k => z.testBit k) := by
      refine filter_congr' fun k hk => ?_
      rw [Nat.testBit_mod_two_pow]
      simp [List.mem_range.mp hk]
    rw [e] at ih
    rw [List.range_succ, List.filter_append, List.map_append, List.sum_append, ih]
    have h2 := Nat.div_add_mod z (2 ^ n)
    have h3 : z / 2 ^ n < 2 := by rw [Nat.div_lt_iff_lt_mul hp]; rw [Nat.pow_succ] at h; omega
    have h4 : z.testBit n = decide (z / 2 ^ n % 2 = 1) := by rw [Nat.testBit_eq_decide_div_mod_eq]
    by_cases hb : z / 2 ^ n = 1
    · have : z.testBit n = true := by rw [h4, hb]; decide
      simp [this]
      rw [hb] at h2
      omega
    · have h0 : z / 2 ^ n = 0 := (show ∀ q : Nat, q < 2 → ¬ q = 1 → q = 0 by intro q; omega) _ h3 hb
      have : z.testBit n = false := by rw [h4, h0]; decide
      simp [this]
      rw [h0] at h2
      omega
theorem sum_cast {α : Type} (f : α → Nat) : ∀ l : List α, (l.map fun k => ((f k : Nat) : Int)).sum = (((l.map f).sum : Nat) : Int)
  | [] => rfl
  | a :: l => by simp [sum_cast f l]
theorem both_bv (x y : BitVec 32) : (((List.range 32).filter fun k => decide (x.toNat / 2 ^ k % 2 ≠ y.toNat / 2 ^ k % 2)).map fun k => ((2 ^ k : Nat) : Int)).sum = ((x ^^^ y).toNat : Int) := by
  have e : ((List.range 32).filter fun k => decide (x.toNat / 2 ^ k % 2 ≠ y.toNat / 2 ^ k % 2)) = ((List.range 32).filter fun k => (x ^^^ y).toNat.testBit k) := by
    refine filter_congr' fun k _ => ?_
    rw [BitVec.toNat_xor, Nat.testBit_xor, Nat.testBit_eq_decide_div_mod_eq, Nat.testBit_eq_decide_div_mod_eq]
    have h1 := Nat.mod_two_eq_zero_or_one (x.toNat / 2 ^ k)
    have h2 := Nat.mod_two_eq_zero_or_one (y.toNat / 2 ^ k)
    rcases h1 with h1 | h1 <;> rcases h2 with h2 | h2 <;> rw [h1, h2] <;> decide
  rw [e, sum_cast, bitsum 32 _ (x ^^^ y).isLt]
theorem sub_bv (c d : BitVec 32) : ((c.toNat : Int) - d.toNat).fmod 4294967296 = ((c - d).toNat : Int) := by
  rw [Int.fmod_eq_emod_of_nonneg _ (by decide), BitVec.toNat_sub]
  have h1 := c.isLt
  have h2 := d.isLt
  omega
end
section
open PySem PySem.W PyProof.Rows
/-- the number of some octets, the lowest first -/
def num : List UInt8 → Nat
  | [] => 0
  | c :: r => c.toNat + 256 * num r
theorem num_lt : ∀ l : List UInt8, num l < 256 ^ l.length
  | [] => by simp [num]
  | c :: r => by
    have h1 := num_lt r
    have h2 := c.toNat_lt
    rw [num, List.length_cons, Nat.pow_succ]
    omega
def pieceSum (l : List UInt8) : Nat := ((List.range l.length).map fun j => ((l[j]?.getD 0).toNat * 2 ^ (8 * j))).sum
theorem range_succ_map {α : Type} (n : Nat) (f : Nat → α) : (List.range (n + 1)).map f = f 0 :: (List.range n).map fun j => f (j + 1) := by
  rw [List.range_succ_eq_map, List.map_cons, List.map_map]; rfl
theorem sum_mul (k : Nat) : ∀ l : List Nat, (l.map fun x => k * x).sum = k * l.sum
  | [] => by simp
  | a :: l => by rw [List.map_cons, List.sum_cons, sum_mul k l, List.sum_cons, Nat.mul_add]
theorem pieceSum_num : ∀ l : List UInt8, pieceSum l = num l
  | [] => rfl
  | c :: r => by
    have ih := pieceSum_num r
    unfold pieceSum at ih ⊢
    rw [List.length_cons, range_succ_map, List.sum_cons, num, ← ih, ← sum_mul, List.map_map]
    congr 1
    · simp
    · congr 1
      refine List.map_congr_left fun j _ => ?_
      show ((c :: r)[j + 1]?.getD 0).toNat * 2 ^ (8 * (j + 1)) = 256 * ((r[j]?.getD 0).toNat * 2 ^ (8 * j))
      rw [List.getElem?_cons_succ, Nat.mul_add, Nat.pow_add, ← Nat.mul_assoc, Nat.mul_comm 256, Nat.mul_one]
end
section
open PySem PySem.W PyProof.Rows
/-- the word at a place -/
def wordAt (os : List UInt8) (i : Nat) : BitVec 32 := BitVec.ofNat 32 (num ((os.drop (4 * i)).take 4))
def words (os : List UInt8) : List (BitVec 32) := (List.range ((os.length + 3) / 4)).map (wordAt os)
theorem words_length (os : List UInt8) : (words os).length = (os.length + 3) / 4 := by simp [words]
theorem num4_lt (l : List UInt8) (h : l.length ≤ 4) : num l < 2 ^ 32 := by
  have h1 := num_lt l
  have h2 : 256 ^ l.length ≤ 256 ^ 4 := Nat.pow_le_pow_right (by decide) h
  have h3 : (256 : Nat) ^ 4 = 2 ^ 32 := by decide
  omega
theorem wordAt_toNat (os : List UInt8) (i : Nat) : (wordAt os i).toNat = num ((os.drop (4 * i)).take 4) := by
  rw [wordAt, BitVec.toNat_ofNat, Nat.mod_eq_of_lt (num4_lt _ (by simp; omega))]
theorem num_snoc0 (l : List UInt8) (k : Nat) : num (l ++ List.replicate k 0) = num l := by
  induction l with
  | nil =>
    induction k with
    | zero => rfl
    | succ k ih =>
      simp only [List.nil_append] at ih ⊢
      rw [List.replicate_succ]
      show (0 : UInt8).toNat + 256 * num (List.replicate k 0) = 0
      rw [ih]; rfl
  | cons c r ih => rw [List.cons_append, num, num, ih]
/-- the octet at a place, as a number -/
def oc (os : List UInt8) (i : Nat) : Nat := (os[i]?.getD 0).toNat
theorem oc_lt (os : List UInt8) (i : Nat) : oc os i < 256 := UInt8.toNat_lt _
theorem oc_pad (os : List UInt8) (p i : Nat) : oc (os ++ List.replicate p 0) i = oc os i := by
  unfold oc
  rw [List.getElem?_append]
  split
  · rfl
  · rename_i h
    rw [List.getElem?_eq_none (l := os) (by omega), List.getElem?_replicate]
    split <;> rfl
theorem num_take4 : ∀ l : List UInt8, num (l.take 4) = oc l 0 + 256 * oc l 1 + 65536 * oc l 2 + 16777216 * oc l 3
  | [] => rfl
  | [a] => by simp [num, oc]
  | [a, b] => by simp [num, oc]
  | [a, b, c] => by simp [num, oc]; omega
  | a :: b :: c :: d :: r => by simp [num, oc]; omega
theorem word_oc (os : List UInt8) (i : Nat) : (wordAt os i).toNat = oc os (4 * i) + 256 * oc os (4 * i + 1) + 65536 * oc os (4 * i + 2) + 16777216 * oc os (4 * i + 3) := by
  rw [wordAt_toNat, num_take4]
  simp only [oc, List.getElem?_drop, Nat.add_zero]
end
section
open PySem PySem.W PyProof.Rows PySem.Spec PySem.Calls
set_option maxRecDepth 100000
/-- a natural number as a value -/
abbrev nv (n : Nat) (t : Tok) : Value := .int (n : Int) t
theorem intBits_small {x : Int} (h : x.natAbs < 2 ^ 64) : Builtin.Int.intBits x ≤ 64 := by
  unfold Builtin.Int.intBits
  split
  · omega
  · have : x.natAbs.log2 < 64 := (Nat.log2_lt (by rename_i h'; simp at h'; omega)).mpr h
    omega
section
variable {prog : Program} {w : World} {A : Around} {E : Value → Shared → Prop} {s : Shared} {a b : Nat} {t u : Tok} {Q : Value → Shared → Prop}
theorem wn_add (h : Q (nv (a + b) s.toks) { s with toks := s.toks + 1 }) : wpAny (model prog w) A (binaryOp .Add (nv a t) (nv b u)) Q E s := add_int (by rw [← Int.natCast_add]; exact h)
theorem wn_mul (hb : a < 2 ^ 64 ∨ b < 2 ^ 64) (h : Q (nv (a * b) s.toks) { s with toks := s.toks + 1 }) : wpAny (model prog w) A (binaryOp .Mult (nv a t) (nv b u)) Q E s :=
  mul_int (by rw [← Int.natCast_mul]; exact h) (hb.elim (fun h => .of_left (intBits_small (by simpa using h))) fun h => .of_right (intBits_small (by simpa using h)))
theorem wn_mod (hb : b ≠ 0) (h : Q (nv (a % b) s.toks) { s with toks := s.toks + 1 }) : wpAny (model prog w) A (binaryOp .Mod (nv a t) (nv b u)) Q E s :=
  mod_int' (by omega) (by rw [Int.fmod_eq_emod_of_nonneg _ (by omega), ← Int.natCast_emod]; exact h)
theorem wn_div (hb : b ≠ 0) (hb2 : b < 2 ^ 64) (h : Q (nv (a / b) s.toks) { s with toks := s.toks + 1 }) : wpAny (model prog w) A (binaryOp .FloorDiv (nv a t) (nv b u)) Q E s :=
  floordiv_int (by omega) (by rw [Int.fdiv_eq_ediv_of_nonneg _ (by omega), ← Int.natCast_ediv]; exact h) (Or.inl (PyProof.noPylong_of_log2 (Nat.lt_of_lt_of_le ((Nat.log2_lt (n := b) (k := 64) hb).mpr hb2) (by decide))))
theorem wn_sub (hb : b ≤ a) (h : Q (nv (a - b) s.toks) { s with toks := s.toks + 1 }) : wpAny (model prog w) A (binaryOp .Sub (nv a t) (nv b u)) Q E s :=
  sub_int' (by rw [show ((a : Int) - b) = ((a - b : Nat) : Int) by omega]; exact h)
theorem wn_const {env : Env} {k : Nat} {pos : Pos} {M : Model} (h : Q (nv (OfNat.ofNat a) s.toks) { s with toks := s.toks + 1 }) : wpAny M A (eval (.Constant (.int (Int.ofNat a)) k pos) env) Q E s := wpAny_Constant_int h
theorem wn_pow2 (hb : b ≤ 1000) (h : Q (nv (2 ^ b) s.toks) { s with toks := s.toks + 1 }) : wpAny (model prog w) A (binaryOp .Pow (nv 2 t) (nv b u)) Q E s :=
  pow_int_small (by omega) (by omega) (by decide) (by rw [Int.toNat_natCast, show ((2 : Nat) : Int) ^ b = ((2 ^ b : Nat) : Int) from (kbt_cast b).symm]; exact h)
theorem wn_shl (hb : b ≤ 1000) (ha : a < 2 ^ 64) (h : Q (nv (a * 2 ^ b) s.toks) { s with toks := s.toks + 1 }) : wpAny (model prog w) A (binaryOp .LShift (nv a t) (nv b u)) Q E s :=
  lshift_int_small (by omega) (by omega) (by simpa using ha) (by rw [Int.toNat_natCast, ← kbt_cast, ← Int.natCast_mul]; exact h)
end

inductive AllIs {α : Type} (f : α → Value → Prop) : List α → List Value → Prop
  | nil : AllIs f [] []
  | cons {a : α} {v : Value} {as : List α} {vs : List Value} : f a v → AllIs f as vs → AllIs f (a :: as) (v :: vs)
theorem AllIs.snoc {α : Type} {f : α → Value → Prop} {a : α} {v : Value} {as : List α} {vs : List Value} (h : AllIs f as vs) (e : f a v) : AllIs f (as ++ [a]) (vs ++ [v]) := by
  induction h with
  | nil => exact .cons e .nil
  | cons h _ ih => exact .cons h ih
theorem AllIs.length {α : Type} {f : α → Value → Prop} {as : List α} {vs : List Value} (h : AllIs f as vs) : as.length = vs.length := by
  induction h with
  | nil => rfl
  | cons _ _ ih => simp [ih]
theorem AllIs.get {α : Type} {f : α → Value → Prop} {as : List α} {vs : List Value} (h : AllIs f as vs) : ∀ {i : Nat} {a : α}, as[i]? = some a → ∃ v, vs[i]? = some v ∧ f a v := by
  induction h with
  | nil => intro i a e; simp at e
  | cons h _ ih =>
    intro i a e
    cases i with
    | zero => simp at e; subst e; exact ⟨_, rfl, h⟩
    | succ i => exact ih (by simpa using e)
theorem AllIs.get' {α : Type} {f : α → Value → Prop} {as : List α} {vs : List Value} (h : AllIs f as vs) : ∀ {i : Nat} {v : Value}, vs[i]? = some v → ∃ a, as[i]? = some a ∧ f a v := by
  induction h with
  | nil => intro i a e; simp at e
  | cons h _ ih =>
    intro i a e
    cases i with
    | zero => simp at e; subst e; exact ⟨_, rfl, h⟩
    | succ i => exact ih (by simpa using e)
/-- the values are these numbers -/
def NatIs (n : Nat) (v : Value) : Prop := ∃ t, v = nv n t
theorem AllIs.ints {α : Type} {f : α → Value → Prop} {g : α → Nat} (hf : ∀ a v, f a v → NatIs (g a) v) {as : List α} {vs : List Value} (h : AllIs f as vs) : IntsAre vs (as.map fun a => (g a : Int)) := by
  induction h with
  | nil => exact .nil
  | cons h _ ih =>
    obtain ⟨t, e⟩ := hf _ _ h
    subst e
    exact .cons _ t ih
/-- the walk stops at a tree so marked -/
def stopT {α : Type} (t : Sem α) : Sem α := t
theorem stopAt {α : Type} {M : Model} {A : Around} {t : Sem α} {Q : α → Shared → Prop} {E : Value → Shared → Prop} {s : Shared} (h : wpAny M A (stopT t) Q E s) : wpAny M A t Q E s := h
theorem goOn {α : Type} {M : Model} {A : Around} {t : Sem α} {Q : α → Shared → Prop} {E : Value → Shared → Prop} {s : Shared} (h : wpAny M A t Q E s) : wpAny M A (stopT t) Q E s := h
/-- the walk stops at an end so marked -/
def Halt (P : Prop) : Prop := P
theorem halt {P : Prop} (h : P) : Halt P := h

/-- the frame and the ledger stand as they stood -/
def Same (h₀ : Heap) (L : Addr) (m : Str → Option Value) (news : Led) (s s' : Shared) : Prop := ∃ (h' : Heap) (tk' : Nat), s' = { s with heap := h', toks := tk' } ∧ Fr h₀ L h' m ∧ News h₀ L h' news
theorem same {h₀ h' : Heap} {L : Addr} {m : Str → Option Value} {news : Led} {s : Shared} {tk' : Nat} (F : Fr h₀ L h' m) (N : News h₀ L h' news) : Same h₀ L m news s { s with heap := h', toks := tk' } := ⟨h', tk', rfl, F, N⟩

section
variable {prog : Program} {w : World} {A : Around} {h₀ : Heap} {L : Addr} {m : Str → Option Value} {env : Env} {ct elt : PySem.Expr} {x : Str} {scope : Scope} {cl : List (Str × Addr)} {s : Shared} {S : Led → Prop} {P : Nat → Value → Prop} {Fin : List Value → Led → Prop} {news : Led}

/-- a comprehension with one name and one test, its ledger as it stood -/
theorem ct_rest {n : Nat} {α : Type} (R : α → Value → Prop) (p : α → Bool) (f : α → Value → Prop) (xs : List α) (hn : xs.length = n) (hP : ∀ i v, i < n → P i v → ∃ a, xs[i]? = some a ∧ R a v) (hS : S news)
    (test : ∀ a v I oI C oC D m₂ ys h tk (E' : Value → Shared → Prop), a ∈ xs → R a v → LCg.NsObj oC m₂ → m₂ x = some v → Fr h₀ L h m → News h₀ L h ((I, oI) :: (C, oC) :: (D, LCg.lst ys) :: news) → LCg.Off3 I C D news → ((@Ne Nat I C) ∧ (@Ne Nat I D) ∧ (@Ne Nat C D)) →
      wpAny (model prog w) A (isTrue ct (compEnvC scope cl C env) (eval ct (compEnvC scope cl C env))) (fun ok s' => Halt (ok = p a ∧ Same h₀ L m ((I, oI) :: (C, oC) :: (D, LCg.lst ys) :: news) s s')) E' { s with heap := h, toks := tk })
    (el : ∀ a v I oI C oC D m₂ ys h tk (E' : Value → Shared → Prop), a ∈ xs → p a = true → R a v → LCg.NsObj oC m₂ → m₂ x = some v → Fr h₀ L h m → News h₀ L h ((I, oI) :: (C, oC) :: (D, LCg.lst ys) :: news) → LCg.Off3 I C D news → ((@Ne Nat I C) ∧ (@Ne Nat I D) ∧ (@Ne Nat C D)) →
      wpAny (model prog w) A (eval elt (compEnvC scope cl C env)) (fun y s' => Halt (f a y ∧ Same h₀ L m ((I, oI) :: (C, oC) :: (D, LCg.lst ys) :: news) s s')) E' { s with heap := h, toks := tk })
    (fin : ∀ ys, AllIs f (xs.filter p) ys → Fin ys news) : LCt.CompRestT prog w A h₀ L m env ct elt x scope cl s S P Fin n 0 [] news := by
  have key : ∀ (j i : Nat) (ys : List Value), i + j = n → AllIs f ((xs.take i).filter p) ys → LCt.CompRestT prog w A h₀ L m env ct elt x scope cl s S P Fin j i ys news := by
    intro j
    induction j with
    | zero =>
      intro i ys hi hy
      have e : i = xs.length := by omega
      subst e
      rw [List.take_length] at hy
      exact LCt.CompRestT.zero (fin ys hy)
    | succ j ih =>
      intro i ys hi hy
      refine LCt.CompRestT.succ ?_
      intro v I oI C oC D m₂ h tk E' hv hC hx F N off ne
      obtain ⟨a, ha, hR⟩ := hP i v (by omega) hv
      have hmem : a ∈ xs := List.mem_of_getElem? ha
      have htake : xs.take (i + 1) = xs.take i ++ [a] := by rw [List.take_add_one, ha]; rfl
      refine wpAny_mono (test a v I oI C oC D m₂ ys h tk E' hmem hR hC hx F N off ne) (fun ok s₂ hq => ?_) fun _ _ e => e
      obtain ⟨hok, h', tk', e, F', N'⟩ := hq
      subst hok
      subst e
      cases hp : p a with
      | true =>
        simp only [if_true]
        refine wpAny_mono (el a v I oI C oC D m₂ ys h' tk' E' hmem hp hR hC hx F' N' off ne) (fun y s₃ hq => ?_) fun _ _ e => e
        obtain ⟨hf, h'', tk'', e, F'', N''⟩ := hq
        subst e
        refine ⟨h'', tk'', news, rfl, F'', N'', off, hS, ?_⟩
        refine ih (i + 1) _ (by omega) ?_
        rw [htake, List.filter_append]
        have : [a].filter p = [a] := by simp [hp]
        rw [this]
        exact hy.snoc hf
      | false =>
        simp only [Bool.false_eq_true, if_false]
        refine ⟨h', tk', news, rfl, F', N', off, hS, ?_⟩
        refine ih (i + 1) _ (by omega) ?_
        rw [htake, List.filter_append]
        have : [a].filter p = [] := by simp [hp]
        rw [this, List.append_nil]
        exact hy
  exact key n 0 [] (by omega) (by simp only [List.take_zero, List.filter_nil]; exact .nil)
end
end
section
open PySem PySem.W PyProof.Rows PySem.Spec PySem.Calls
set_option maxRecDepth 100000
set_option maxHeartbeats 8000000
theorem rows_C2_1 : True := by
  w_top off
  k_with_none
  (k_with "ktn_open" => (refine wpAny_call ?_; k_dflt ktr_enter))
  (k_with "ktr_unf" => (unfold Con; refine fillK ?_; k_fill; intro hZZ; clear hZZ))
  trivial
/-- one word of the machine -/
abbrev wv (x : BitVec 32) (t : Tok) : Value := .int (x.toNat : Int) t
abbrev tup4 (a b c d : BitVec 32) (ta tb tc td : Tok) (n : Nat) : Obj := { cls := .type "tuple", data := .seq #[wv a ta, wv b tb, wv c tc, wv d td] n }
theorem con_turned (w : World) (x : BitVec 32) (n : Nat) (t u : Tok) (h2 : 0 < n) (h3 : n < 32) :
    Con w 76 1 [wv x t, .int (n : Int) u] none0 (fun r tl => tl = [] ∧ ∃ t, r = wv (x.rotateLeft n) t) := by
  have h := con_turnedI w x.toNat n t u (by omega) (by have := x.isLt; omega) (by omega) (by omega)
  rw [rot_bv x n h2 h3] at h
  exact h
theorem con_turned16 (w : World) (x : BitVec 32) (t u : Tok) : Con w 76 1 [wv x t, .int 16 u] none0 (fun r tl => tl = [] ∧ ∃ t, r = wv (x.rotateLeft 16) t) := con_turned w x 16 t u (by decide) (by decide)
theorem con_turned12 (w : World) (x : BitVec 32) (t u : Tok) : Con w 76 1 [wv x t, .int 12 u] none0 (fun r tl => tl = [] ∧ ∃ t, r = wv (x.rotateLeft 12) t) := con_turned w x 12 t u (by decide) (by decide)
theorem con_turned8 (w : World) (x : BitVec 32) (t u : Tok) : Con w 76 1 [wv x t, .int 8 u] none0 (fun r tl => tl = [] ∧ ∃ t, r = wv (x.rotateLeft 8) t) := con_turned w x 8 t u (by decide) (by decide)
theorem con_turned7 (w : World) (x : BitVec 32) (t u : Tok) : Con w 76 1 [wv x t, .int 7 u] none0 (fun r tl => tl = [] ∧ ∃ t, r = wv (x.rotateLeft 7) t) := con_turned w x 7 t u (by decide) (by decide)

section
variable {prog : Program} {w : World} {A : Around} {E : Value → Shared → Prop} {s : Shared} {a b : BitVec 32} {t u : Tok} {Q : Value → Shared → Prop}
theorem wp_and (h : Q (wv (a + b) s.toks) { s with toks := s.toks + 1 }) : wpAny (model prog w) A (binaryOp .BitAnd (.int ((a.toNat : Int) + b.toNat) t) (.int 4294967295 u)) Q E s :=
  and_int (by rw [and_add]; exact h)
theorem wp_xor (h : Q (wv (a ^^^ b) s.toks) { s with toks := s.toks + 1 }) : wpAny (model prog w) A (binaryOp .BitXor (wv a t) (wv b u)) Q E s :=
  xor_int (by rw [xor_bv]; exact h)
end

structure W4 where
  a : BitVec 32
  b : BitVec 32
  c : BitVec 32
  d : BitVec 32
def stir (x : W4) : W4 :=
  let a := x.a + x.b
  let d := (x.d ^^^ a).rotateLeft 16
  let c := x.c + d
  let b := (x.b ^^^ c).rotateLeft 12
  let a := a + b
  let d := (d ^^^ a).rotateLeft 8
  let c := c + d
  let b := (b ^^^ c).rotateLeft 7
  ⟨a, b, c, d⟩
/-- the value is a new tuple of these words, the only new thing -/
def OutW4 (x : W4) (r : Value) (tl : Led) : Prop := ∃ D ta tb tc td n, r = .ref D ∧ tl = [(D, tup4 x.a x.b x.c x.d ta tb tc td n)]
section
variable {w : World} {f : Addr} {n : Nat} {vs : List Value} {Pre : Led → Prop} {prog p : Program} {loose : List Str} {mean : ExcName → Option Value} {mg mb : Str → Option Value} {dp un : Nat} {gd : Option (List Code)} {cn : Str} {cs : Scope} {a : Addr} {ccd : Value} {cl : List (Str × Addr)} {outer : List Env} {A₀ : Around} {base h₀ : Heap} {L : Addr} {m : Str → Option Value} {news : Led} {s : Shared} {Q E : Value → Shared → Prop}
theorem use_4 {x : W4} (B : Below A₀ base outer h₀) (F : Fr h₀ L s.heap m) (X : (Mine.hd.heap_1 w.params).In h₀) (N : News h₀ L s.heap news) (T : Top p loose mean mg mb h₀) (hk : cs.kind = .function) (hp : Pre news) (hd : dp + n < recursionLimit) (hu : un + 8 * n < cLine)
    (C : Con w f n vs Pre (OutW4 x)) (k : ∀ D ta tb tc td k h' tk', Fr h₀ L h' m → News h₀ L h' ((D, tup4 x.a x.b x.c x.d ta tb tc td k) :: news) → LCg.Off1 D news → LCg.Off1 D news → Q (.ref D) { s with heap := h', toks := tk' }) : wpAny (model prog w) (ktrTop dp un gd cn cs L a ccd cl outer) (call (.ref f) vs) Q E s :=
  use_con C B F X N T hk hp hd hu fun r tl h' tk' F' N' lt ho => by
    obtain ⟨D, ta, tb, tc, td, k', rfl, rfl⟩ := ho
    exact k D ta tb tc td k' h' tk' F' N' (lt _ List.mem_cons_self) (lt _ List.mem_cons_self)
end
theorem endW4 {news led : Led} {h₀ h' : Heap} {L : Addr} {m : Str → Option Value} {s : Shared} {Q : Value → Shared → Prop} {x : W4}
    (hret : ∀ (r : Value) (tl : Led) (h' : Heap) (tk' : Nat), Fr h₀ L h' m → News h₀ L h' (tl ++ news) → (∀ q ∈ tl, LCg.Off1 q.1 news) → OutW4 x r tl → Q r { s with heap := h', toks := tk' })
    {D : Addr} {a b c d : BitVec 32} {ta tb tc td : Tok} {n : Nat} {tk' : Nat} (F : Fr h₀ L h' m) (N : News h₀ L h' led) (hm : (D, tup4 a b c d ta tb tc td n) ∈ led) (hs : ∀ p ∈ news, p ∈ led) (hl : AllLt D news) (hx : x = ⟨a, b, c, d⟩) : Q (.ref D) { s with heap := h', toks := tk' } := by
  subst hx
  refine hret _ [(D, tup4 a b c d ta tb tc td n)] h' tk' F (fun p hp => ?_) (lt_one (off_lt hl)) ⟨D, ta, tb, tc, td, n, rfl, rfl⟩
  rcases List.mem_cons.mp hp with rfl | hp
  · exact N _ hm
  · exact N p (hs p hp)


theorem rows_C2_2 : True := by
  (k_with "binaryOp BitAnd int int" => (with_reducible refine wp_and ?_))
  (k_with "binaryOp BitXor int int" => (with_reducible refine wp_xor ?_))
  (k_with "call ref" => (first | (k_here; (with_reducible show wpAny _ _ (call (Value.ref 76) _) _ _ _); k_dflt (refine use_I (by k_asm) (by k_asm) (by k_asm) (by k_asm) (by k_asm) (by first | exact rfl | assumption) (by first | exact True.intro | k_mem | exact ⟨by k_mem, by k_mem⟩) (by ktr_room) (by ktr_units) (con_turned16 _ _ _ _) ?_; intros; (try dsimp only); (try k_sweep); (try k_fold))) | (k_here; (with_reducible show wpAny _ _ (call (Value.ref 76) _) _ _ _); k_dflt (refine use_I (by k_asm) (by k_asm) (by k_asm) (by k_asm) (by k_asm) (by first | exact rfl | assumption) (by first | exact True.intro | k_mem | exact ⟨by k_mem, by k_mem⟩) (by ktr_room) (by ktr_units) (con_turned12 _ _ _ _) ?_; intros; (try dsimp only); (try k_sweep); (try k_fold))) | (k_here; (with_reducible show wpAny _ _ (call (Value.ref 76) _) _ _ _); k_dflt (refine use_I (by k_asm) (by k_asm) (by k_asm) (by k_asm) (by k_asm) (by first | exact rfl | assumption) (by first | exact True.intro | k_mem | exact ⟨by k_mem, by k_mem⟩) (by ktr_room) (by ktr_units) (con_turned8 _ _ _ _) ?_; intros; (try dsimp only); (try k_sweep); (try k_fold))) | (k_here; (with_reducible show wpAny _ _ (call (Value.ref 76) _) _ _ _); k_dflt (refine use_I (by k_asm) (by k_asm) (by k_asm) (by k_asm) (by k_asm) (by first | exact rfl | assumption) (by first | exact True.intro | k_mem | exact ⟨by k_mem, by k_mem⟩) (by ktr_room) (by ktr_units) (con_turned7 _ _ _ _) ?_; intros; (try dsimp only); (try k_sweep); (try k_fold)))))
  trivial
theorem con_stirred (w : World) (x : W4) (st : Addr) (ta tb tc td : Tok) (n : Nat) :
    Con w 83 2 [.ref st] (fun news => (st, tup4 x.a x.b x.c x.d ta tb tc td n) ∈ news) (OutW4 (stir x)) := by
  ktr_unf
  intro prog p loose mean mg mb dp un gd cn cs a ccd cl outer A₀ base h₀ L m news s Q E B F X N T hk hok hd hu hret
  ktn_open
  k_steps
  all_goals exact endW4 hret (by k_asm) (by k_asm) (by k_mem) (fun p hp => List.mem_cons_of_mem _ hp) (allLt_of (by assumption)) rfl
end
section
open PySem PySem.W PyProof.Rows PySem.Spec PySem.Calls
set_option maxRecDepth 100000
section
variable {prog : Program} {w : World} {A : Around} {E : Value → Shared → Prop} {s : Shared} {h₀ : Heap} {L : Addr} {m : Str → Option Value} {env : Env} {elt ct iter : PySem.Expr} {x : Str} {px : Pos} {scope : Scope} {cl : List (Str × Addr)} {pos : Pos} {Q : Value → Shared → Prop}
theorem comp_T (F₀ : Fr h₀ L s.heap m) (hclos : closureFor scope env = pure cl) (hcell : ∀ y ∈ scope.names, y.2 ≠ .cell) (hkind : scope.kind = .function)
    (hnames : ∀ y ∈ scope.names, y.2 = .local → scope.names.lookup y.1 = some .local) (hx : scope.names.lookup x = some .local)
    (h : wpAny (model prog w) A (eval iter env) (fun xv s₁ => Halt (LCt.CompSrcT prog w A h₀ L m env ct elt x scope cl (fun s₂ => LCg.FinE h₀ L m s₂ Q) xv s₁)) E s)
    (hs : ∀ x, foldedSetIterable iter env x = pure x := by intro _; rfl) :
    wpAny (model prog w) A (eval (.ListComp elt [⟨.Name x px, iter, [ct], 0⟩] scope pos) env) Q E s := LCt.ListComp_T F₀ hclos hcell hkind hnames hx h hs
theorem comp_U (F₀ : Fr h₀ L s.heap m) (hclos : closureFor scope env = pure cl) (hcell : ∀ y ∈ scope.names, y.2 ≠ .cell) (hkind : scope.kind = .function)
    (hnames : ∀ y ∈ scope.names, y.2 = .local → scope.names.lookup y.1 = some .local) (hx : scope.names.lookup x = some .local)
    (h : wpAny (model prog w) A (eval iter env) (fun xv s₁ => Halt (LCg.CompSrc prog w A h₀ L m env elt x scope cl (fun s₂ => LCg.FinE h₀ L m s₂ Q) xv s₁)) E s)
    (hs : ∀ x, foldedSetIterable iter env x = pure x := by intro _; rfl) :
    wpAny (model prog w) A (eval (.ListComp elt [⟨.Name x px, iter, [], 0⟩] scope pos) env) Q E s := LCg.ListComp_U F₀ hclos hcell hkind hnames hx h hs
end

section
variable {prog : Program} {w : World} {A : Around} {h₀ : Heap} {L : Addr} {m : Str → Option Value} {env : Env} {ct elt : PySem.Expr} {x : Str} {scope : Scope} {cl : List (Str × Addr)} {s : Shared} {S : Led → Prop} {P : Nat → Value → Prop} {Fin : List Value → Led → Prop} {news : Led}
/-- a comprehension with one name: what holds between its turns -/
theorem cu_restJ {n : Nat} (J : Nat → List Value → Led → Prop) (h0 : J 0 [] news)
    (turn : ∀ i v ys nw I oI C oC D m₂ h tk (E' : Value → Shared → Prop), i < n → P i v → J i ys nw → LCg.NsObj oC m₂ → m₂ x = some v → Fr h₀ L h m → News h₀ L h ((I, oI) :: (C, oC) :: (D, LCg.lst ys) :: nw) → LCg.Off3 I C D nw → ((@Ne Nat I C) ∧ (@Ne Nat I D) ∧ (@Ne Nat C D)) →
      wpAny (model prog w) A (eval elt (compEnvC scope cl C env)) (fun y s' => Halt (LCg.CompEnd h₀ L m { s with heap := h, toks := tk } I oI C oC D (LCg.lst ys) S (fun y nw' => J (i + 1) (ys ++ [y]) nw') y s')) E' { s with heap := h, toks := tk })
    (fin : ∀ ys nw, J n ys nw → Fin ys nw) : LCg.CompRest prog w A h₀ L m env elt x scope cl s S P Fin n 0 [] news := by
  have key : ∀ (j i : Nat) (ys : List Value) (nw : Led), i + j = n → J i ys nw → LCg.CompRest prog w A h₀ L m env elt x scope cl s S P Fin j i ys nw := by
    intro j
    induction j with
    | zero =>
      intro i ys nw hi hJ
      have e : i = n := by omega
      subst e
      exact LCg.CompRest.zero (fin ys nw hJ)
    | succ j ih =>
      intro i ys nw hi hJ
      refine LCg.CompRest.succ ?_
      intro v I oI C oC D m₂ h tk E' hv hC hx F N off ne
      refine wpAny_mono (turn i v ys nw I oI C oC D m₂ h tk E' (by omega) hv hJ hC hx F N off ne) (fun y s₂ hq => ?_) fun _ _ e => e
      obtain ⟨h', tk', nw', e, F', N', off', hS, hJ'⟩ := hq
      exact ⟨h', tk', nw', e, F', N', off', hS, ih (i + 1) _ nw' (by omega) hJ'⟩
  exact key n 0 [] news (by omega) h0
/-- a comprehension with one name whose turns leave the ledger as it stood -/
theorem cu_rest {n : Nat} {α : Type} (R : α → Value → Prop) (f : α → Value → Prop) (xs : List α) (hn : xs.length = n) (hP : ∀ i v, i < n → P i v → ∃ a, xs[i]? = some a ∧ R a v) (hS : S news)
    (el : ∀ a v I oI C oC D m₂ ys h tk (E' : Value → Shared → Prop), a ∈ xs → R a v → LCg.NsObj oC m₂ → m₂ x = some v → Fr h₀ L h m → News h₀ L h ((I, oI) :: (C, oC) :: (D, LCg.lst ys) :: news) → LCg.Off3 I C D news → ((@Ne Nat I C) ∧ (@Ne Nat I D) ∧ (@Ne Nat C D)) →
      wpAny (model prog w) A (eval elt (compEnvC scope cl C env)) (fun y s' => Halt (f a y ∧ Same h₀ L m ((I, oI) :: (C, oC) :: (D, LCg.lst ys) :: news) s s')) E' { s with heap := h, toks := tk })
    (fin : ∀ ys, AllIs f xs ys → Fin ys news) : LCg.CompRest prog w A h₀ L m env elt x scope cl s S P Fin n 0 [] news := by
  refine cu_restJ (fun i ys nw => nw = news ∧ AllIs f (xs.take i) ys) ⟨rfl, by rw [List.take_zero]; exact .nil⟩ ?_ ?_
  · rintro i v ys nw I oI C oC D m₂ h tk E' hi hv ⟨rfl, hA⟩ hC hx F N off ne
    obtain ⟨a, ha, hR⟩ := hP i v hi hv
    refine wpAny_mono (el a v I oI C oC D m₂ ys h tk E' (List.mem_of_getElem? ha) hR hC hx F N off ne) (fun y s₂ hq => ?_) fun _ _ e => e
    obtain ⟨hf, h', tk', e, F', N'⟩ := hq
    subst e
    refine halt ⟨h', tk', _, rfl, F', N', off, hS, rfl, ?_⟩
    rw [List.take_add_one, ha]
    exact hA.snoc hf
  · rintro ys nw ⟨rfl, hA⟩
    rw [← hn, List.take_length] at hA
    exact fin ys hA
end
theorem range_nats {n i : Nat} {v : Value} (hi : i < n) (h : ∃ t, v = .int ((0 : Int) + (i : Int)) t) : ∃ a, (List.range n)[i]? = some a ∧ NatIs a v := by
  obtain ⟨t, e⟩ := h
  exact ⟨i, by simp [hi], t, by rw [e, Int.zero_add]⟩
end
section
open PySem PySem.W PyProof.Rows PySem.Spec PySem.Calls
set_option maxRecDepth 100000
/-- the end of a loop's turn: what holds behind it -/
def TPost (h₀ : Heap) (L : Addr) (s₁ : Shared) (I : Addr) (oI : Obj) (J : (Str → Option Value) → Led → Prop) (Q : Flow → Shared → Prop) (f : Flow) (s₂ : Shared) : Prop :=
  match f with
  | .ret v => Q (.ret v) s₂
  | .brk => Q .next s₂
  | _ => Halt (∃ h' tk m' nw', s₂ = { s₁ with heap := h', toks := tk } ∧ Fr h₀ L h' m' ∧ News h₀ L h' ((I, oI) :: nw') ∧ (∀ p ∈ nw', p.1 ≠ I) ∧ J m' nw')
section
variable {prog : Program} {w : World} {A : Around} {E : Value → Shared → Prop} {s : Shared} {env : Env} {h₀ : Heap} {target : PySem.Expr} {body : List Stmt} {Q : Flow → Shared → Prop}
theorem turnsJ {I : Addr} {fp : List Addr} {n : Nat} {P Md : Nat → Value → Heap → Prop} {St : Nat → Heap → Prop} {keep : Led} {m₀ : Str → Option Value} {news : Led} {hp : Heap} {tk0 : Nat}
    (W : KTurns prog w A target I fp [I] n P Md St) (hI0 : h₀.get? I = none) (hIfp : I ∈ fp) (hL : env.locals ∉ fp)
    (hfp : ∀ b ∈ fp, h₀.get? b = none → b = I ∨ ∃ o, (b, o) ∈ keep) (hobj : ∀ i h, St i h → ∃ o, h.get? I = some o) (hst : St 0 hp)
    (F : Fr h₀ env.locals hp m₀) (N : News h₀ env.locals hp news) (hnI : ∀ p ∈ news, p.1 ≠ I)
    (J : Nat → (Str → Option Value) → Led → Prop) (h0 : J 0 m₀ news) (hJ : ∀ i m nw, J i m nw → ∀ p ∈ keep, p ∈ nw)
    (turn : ∀ i v m₁ nw h tk oI, i < n → P i v h → J i m₁ nw → Fr h₀ env.locals h m₁ → News h₀ env.locals h ((I, oI) :: nw) → (∀ p ∈ nw, p.1 ≠ I) →
      wpAny (model prog w) A (assign target env v) (fun _ s₂ => wpAny (model prog w) A (execs body env) (TPost h₀ env.locals { s with heap := h, toks := tk } I oI (J (i + 1)) Q) E s₂) E { s with heap := h, toks := tk })
    (done : ∀ m nw h tk, J n m nw → Fr h₀ env.locals h m → News h₀ env.locals h nw → Q .next { s with heap := h, toks := tk }) :
    TurnsAt prog w A h₀ env target body Q E (.ref I) { s with heap := hp, toks := tk0 } := by
  refine ⟨I, fp, [I], n, P, Md, St, m₀, news, J, rfl, W, hL, fun b hb => by rw [List.mem_singleton.mp hb]; exact hI0, fun p hp hb => hnI p hp (List.mem_singleton.mp hb), hst, F, N, h0, ?_, ?_⟩
  · intro i v m₁ news₁ h₁ tk₁ own hin hPi hJi hoff hown hget hall hst₁ F₁ N₁
    have hoff' : ∀ p ∈ news₁, p.1 ≠ I := fun p hp e => hoff p hp (List.mem_singleton.mpr e)
    obtain ⟨oI, hoI⟩ := hobj (i + 1) h₁ hst₁
    have hIown : (I, oI) ∈ own := hall I hIfp hI0 oI hoI
    have hLI : I ≠ env.locals := fun e => hL (e ▸ hIfp)
    have N₂ : News h₀ env.locals h₁ ((I, oI) :: news₁) := fun p hp => by
      rcases List.mem_cons.mp hp with rfl | hp
      · exact N₁ _ (List.mem_append_left _ hIown)
      · exact N₁ _ (List.mem_append_right _ hp)
    have fin : ∀ s₃, (∃ h' tk m' nw', s₃ = { s with heap := h', toks := tk } ∧ Fr h₀ env.locals h' m' ∧ News h₀ env.locals h' ((I, oI) :: nw') ∧ (∀ p ∈ nw', p.1 ≠ I) ∧ J (i + 1) m' nw') →
        LoopStepU h₀ env.locals [I] own (J (i + 1)) { s with heap := h₁, toks := tk₁ } .next s₃ := by
      rintro s₃ ⟨h', tk, m', nw', e, F', N', ho, hJ'⟩
      refine ⟨rfl, h', tk, m', nw', e, F', ?_, fun p hp hI => ho p hp (List.mem_singleton.mp hI), hJ'⟩
      rintro ⟨pa, po⟩ hp
      rcases List.mem_append.mp hp with hp | hp
      · have h2 : h₁.get? pa = some po := hget _ hp
        have h0' : h₀.get? pa = none := (N₁ _ (List.mem_append_left _ hp)).2.2
        rcases hfp pa (hown _ hp) h0' with h3 | ⟨o, h3⟩
        · subst h3
          have h4 : oI = po := Option.some.inj (hoI.symm.trans h2)
          subst h4
          exact N' _ (List.mem_cons_self)
        · have h4 : h₁.get? pa = some o := (N₂ _ (List.mem_cons_of_mem _ (hJ _ _ _ hJi _ h3))).1
          have h6 : o = po := Option.some.inj (h4.symm.trans h2)
          subst h6
          exact N' _ (List.mem_cons_of_mem _ (hJ _ _ _ hJ' _ h3))
      · exact N' _ (List.mem_cons_of_mem _ hp)
    refine wpAny_mono (turn i v m₁ news₁ h₁ tk₁ oI hin hPi hJi F₁ N₂ hoff') (fun _ s₂ h₂ => wpAny_mono h₂ (fun f s₃ p => ?_) fun _ _ e => e) fun _ _ e => e
    cases f with
    | ret v => exact .ret p
    | brk => exact .brk p
    | next => exact .next (fin _ p)
    | cont => exact .cont (fin _ p)
  · intro h' tk m' news' F' N' _ hJ'
    exact done m' news' h' tk hJ' F' N'

theorem for_any {iter : PySem.Expr} {pos : Pos} {m : Str → Option Value} (F : Fr h₀ env.locals s.heap m)
    (h : wpAny (model prog w) A (eval iter env) (fun xv s₁ => Halt (wpAny (model prog w) A (pyIter xv) (fun it s₂ => TurnsAt prog w A h₀ env target body Q E it s₂) E s₁)) E s)
    (hs : ∀ x, foldedSetIterable iter env x = pure x := by intro _; rfl)
    (hE : PassesOwn (model prog w) A env E := by passes_own) :
    wpAny (model prog w) A (exec (.For target iter body [] pos) env) Q E s := For_turns F h hs hE

/-- over a tuple of the ledger -/
theorem for_tuple {ax : Addr} {vs : List Value} {k : Nat} {m₀ : Str → Option Value} {news : Led}
    (hh : A.handled = none) (F : Fr h₀ env.locals s.heap m₀) (N : News h₀ env.locals s.heap news) (hm : (ax, ({ cls := .type "tuple", data := .seq vs.toArray k } : Obj)) ∈ news)
    (J : Nat → (Str → Option Value) → Led → Prop) (h0 : J 0 m₀ news) (hJ : ∀ i m nw, J i m nw → (ax, ({ cls := .type "tuple", data := .seq vs.toArray k } : Obj)) ∈ nw)
    (turn : ∀ i v m₁ nw h tk I oI, vs[i]? = some v → J i m₁ nw → Fr h₀ env.locals h m₁ → News h₀ env.locals h ((I, oI) :: nw) → (∀ p ∈ nw, p.1 ≠ I) →
      wpAny (model prog w) A (assign target env v) (fun _ s₂ => wpAny (model prog w) A (execs body env) (TPost h₀ env.locals { s with heap := h, toks := tk } I oI (J (i + 1)) Q) E s₂) E { s with heap := h, toks := tk })
    (done : ∀ m nw h tk, J vs.length m nw → Fr h₀ env.locals h m → News h₀ env.locals h nw → Q .next { s with heap := h, toks := tk }) :
    wpAny (model prog w) A (pyIter (.ref ax)) (fun it s₂ => TurnsAt prog w A h₀ env target body Q E it s₂) E s := by
  have hax := N _ hm
  have hl : s.heap.IsTuple ax vs.toArray := ⟨_, hax.1, rfl, k, rfl⟩
  have hlt : ax < s.heap.objs.size := Heap.lt_size hax.1
  have hne : ax ≠ s.heap.objs.size := Nat.ne_of_lt hlt
  refine wpAny_pyIter_tuple hl ?_
  have W := KTurns.ofWalks (target := target) (Walks.tuple (prog := prog) (w := w) hh s.heap.objs.size ax hne vs.toArray) fun i v s Q E st q => letGo_tupleiter st.1 q
  rw [List.size_toArray] at W
  refine turnsJ (tk0 := s.toks) (n := vs.length) (keep := [(ax, ({ cls := .type "tuple", data := .seq vs.toArray k } : Obj))]) W (next_is_new F) (by simp) ?_ ?_ (fun i h st => by obtain ⟨o, e, _⟩ := st.1; exact ⟨o, e⟩) ⟨⟨_, Heap.get?_push_size _ rfl, rfl, rfl⟩, hl.at fun o e => Heap.get?_push_of_some _ e⟩ (F.push _) (fun p hp => ⟨Heap.get?_push_of_some _ (N p hp).1, (N p hp).2⟩)
      (fun p hp => Nat.ne_of_lt (Heap.lt_size (N p hp).1)) J h0 (fun i m nw h p hp => by rw [List.mem_singleton.mp hp]; exact hJ i m nw h) ?_ done
  · intro hI
    rcases List.mem_cons.mp hI with e | hI
    · exact absurd F.ns.lt (e ▸ Nat.lt_irrefl _)
    · exact hax.2.1 (List.mem_singleton.mp hI).symm
  · intro b hb _
    rcases List.mem_cons.mp hb with e | hb
    · exact .inl e
    · exact .inr ⟨_, by rw [List.mem_singleton.mp hb]; exact List.mem_cons_self⟩
  · intro i v m₁ nw h tk oI hi hP hJi F₁ N₁ off
    exact turn i v m₁ nw h tk _ oI (by simpa using hP) hJi F₁ N₁ off

/-- over a list of the ledger -/
theorem for_list {ax : Addr} {vs : List Value} {k : Nat} {m₀ : Str → Option Value} {news : Led}
    (hh : A.handled = none) (F : Fr h₀ env.locals s.heap m₀) (N : News h₀ env.locals s.heap news) (hm : (ax, listOf vs.toArray k) ∈ news)
    (J : Nat → (Str → Option Value) → Led → Prop) (h0 : J 0 m₀ news) (hJ : ∀ i m nw, J i m nw → (ax, listOf vs.toArray k) ∈ nw)
    (turn : ∀ i v m₁ nw h tk I oI, vs[i]? = some v → J i m₁ nw → Fr h₀ env.locals h m₁ → News h₀ env.locals h ((I, oI) :: nw) → (∀ p ∈ nw, p.1 ≠ I) →
      wpAny (model prog w) A (assign target env v) (fun _ s₂ => wpAny (model prog w) A (execs body env) (TPost h₀ env.locals { s with heap := h, toks := tk } I oI (J (i + 1)) Q) E s₂) E { s with heap := h, toks := tk })
    (done : ∀ m nw h tk, J vs.length m nw → Fr h₀ env.locals h m → News h₀ env.locals h nw → Q .next { s with heap := h, toks := tk }) :
    wpAny (model prog w) A (pyIter (.ref ax)) (fun it s₂ => TurnsAt prog w A h₀ env target body Q E it s₂) E s := by
  have hax := N _ hm
  have hl : s.heap.IsList ax vs.toArray := ⟨_, hax.1, rfl, k, rfl⟩
  have hlt : ax < s.heap.objs.size := Heap.lt_size hax.1
  have hne : ax ≠ s.heap.objs.size := Nat.ne_of_lt hlt
  refine wpAny_pyIter_list hl ?_
  have W := KTurns.ofWalks (target := target) (Walks.list (prog := prog) (w := w) hh s.heap.objs.size ax hne vs.toArray) fun i v s Q E st q => letGo_listiter st.1 q
  rw [List.size_toArray] at W
  refine turnsJ (tk0 := s.toks) (n := vs.length) (keep := [(ax, listOf vs.toArray k)]) W (next_is_new F) (by simp) ?_ ?_ (fun i h st => by obtain ⟨o, e, _⟩ := st.1; exact ⟨o, e⟩) ⟨⟨_, Heap.get?_push_size _ rfl, rfl, rfl⟩, hl.at fun o e => Heap.get?_push_of_some _ e⟩ (F.push _) (fun p hp => ⟨Heap.get?_push_of_some _ (N p hp).1, (N p hp).2⟩)
      (fun p hp => Nat.ne_of_lt (Heap.lt_size (N p hp).1)) J h0 (fun i m nw h p hp => by rw [List.mem_singleton.mp hp]; exact hJ i m nw h) ?_ done
  · intro hI
    rcases List.mem_cons.mp hI with e | hI
    · exact absurd F.ns.lt (e ▸ Nat.lt_irrefl _)
    · exact hax.2.1 (List.mem_singleton.mp hI).symm
  · intro b hb _
    rcases List.mem_cons.mp hb with e | hb
    · exact .inl e
    · exact .inr ⟨_, by rw [List.mem_singleton.mp hb]; exact List.mem_cons_self⟩
  · intro i v m₁ nw h tk oI hi hP hJi F₁ N₁ off
    exact turn i v m₁ nw h tk _ oI (by simpa using hP) hJi F₁ N₁ off

/-- over a range with a step -/
theorem for_range {r : Addr} {a₀ b₀ c₀ : Int} {t₀ u₀ v₀ : Tok} {n : Nat} {m₀ : Str → Option Value} {news : Led} {x : Str} {px : Pos}
    (hh : A.handled = none) (hr : IsRange s.heap r a₀ b₀ c₀ t₀ u₀ v₀) (hsmall : Builtin.Range.small a₀ b₀ c₀ = true) (hsz : Builtin.Range.rangeSize a₀ b₀ c₀ = (n : Int)) (F : Fr h₀ env.locals s.heap m₀) (N : News h₀ env.locals s.heap news)
    (J : Nat → (Str → Option Value) → Led → Prop) (h0 : J 0 m₀ news)
    (turn : ∀ i t m₁ nw h tk I oI, i < n → J i m₁ nw → Fr h₀ env.locals h m₁ → News h₀ env.locals h ((I, oI) :: nw) → (∀ p ∈ nw, p.1 ≠ I) →
      wpAny (model prog w) A (assign (.Name x px) env (.int (a₀ + (i : Int) * c₀) t)) (fun _ s₂ => wpAny (model prog w) A (execs body env) (TPost h₀ env.locals { s with heap := h, toks := tk } I oI (J (i + 1)) Q) E s₂) E { s with heap := h, toks := tk })
    (done : ∀ m nw h tk, J n m nw → Fr h₀ env.locals h m → News h₀ env.locals h nw → Q .next { s with heap := h, toks := tk }) :
    wpAny (model prog w) A (pyIter (.ref r)) (fun it s₂ => TurnsAt prog w A h₀ env (.Name x px) body Q E it s₂) E s := by
  refine wpAny_pyIter_range hr hsmall ?_
  have W : Walks prog w A s.heap.objs.size [s.heap.objs.size] [s.heap.objs.size] n (fun i v => i < n ∧ ∃ t, v = .int (a₀ + i * c₀) t)
      (fun i h => IsRangeIter h s.heap.objs.size (a₀ + (i : Nat) * c₀) ((n : Int) - (i : Nat)) c₀) := (Walks.range hh _ a₀ c₀ n).bound
  refine turnsJ (tk0 := s.toks) (n := n) (keep := []) (KTurns.ofWalks (target := .Name x px) W fun i v s Q E st q => wpAny_pure q) (next_is_new F) (by simp) ?_ ?_ (fun i h st => ⟨_, st⟩) (by show IsRangeIter _ _ _ _ _; rw [hsz]; simpa using Heap.get?_push_size _ rfl) (F.push _) (fun p hp => ⟨Heap.get?_push_of_some _ (N p hp).1, (N p hp).2⟩)
      (fun p hp => Nat.ne_of_lt (Heap.lt_size (N p hp).1)) J h0 (fun i m nw h p hp => nomatch hp) ?_ done
  · intro hI
    exact absurd F.ns.lt ((List.mem_singleton.mp hI) ▸ Nat.lt_irrefl _)
  · intro b hb _
    exact .inl (List.mem_singleton.mp hb)
  · intro i v m₁ nw h tk oI hi hP hJi F₁ N₁ off
    obtain ⟨_, t, rfl⟩ := hP
    exact turn i t m₁ nw h tk _ oI hi hJi F₁ N₁ off
end
section
variable {h₀ h h' : Heap} {L I : Addr} {m m' : Str → Option Value} {oI : Obj} {J : (Str → Option Value) → Led → Prop} {s₁ : Shared} {tk : Nat} {led nw' : Led}
theorem fr_at {x : Str} {v : Value} (F : Fr h₀ L h m) (hx : m x = some v) : Fr h₀ L h (fun y => if y = x then some v else m y) := by
  have e : (fun y => if y = x then some v else m y) = m := funext fun y => by
    by_cases e : y = x
    · rw [if_pos e, e, hx]
    · rw [if_neg e]
  rw [e]; exact F
theorem tnext (F : Fr h₀ L h' m') (N : News h₀ L h' led) (nw' : Led) (hI : (I, oI) ∈ led) (hs : ∀ p ∈ nw', p ∈ led) (off : ∀ p ∈ nw', p.1 ≠ I) (hJ : J m' nw') :
    Halt (∃ h'' tk' m'' nw'', ({ s₁ with heap := h', toks := tk } : Shared) = { s₁ with heap := h'', toks := tk' } ∧ Fr h₀ L h'' m'' ∧ News h₀ L h'' ((I, oI) :: nw'') ∧ (∀ p ∈ nw'', p.1 ≠ I) ∧ J m'' nw'') :=
  halt ⟨h', tk, m', nw', rfl, F, fun p hp => by
    rcases List.mem_cons.mp hp with rfl | hp
    · exact N _ hI
    · exact N p (hs p hp), off, hJ⟩
end
section
variable {h₀ h : Heap} {L : Addr} {m : Str → Option Value} {x1 x2 x3 x4 x5 : Str} {v1 v2 v3 v4 v5 : Value}
theorem over_eq {m m' : Str → Option Value} {x : Str} {v : Value} (hx : m x = some v) (h : m' = m) : (fun y => if y = x then some v else m' y) = m := by
  subst h
  exact funext fun y => by
    by_cases e : y = x
    · rw [if_pos e, e, hx]
    · rw [if_neg e]
theorem fr_at2 (F : Fr h₀ L h m) (h1 : m x1 = some v1) (h2 : m x2 = some v2) : Fr h₀ L h (fun y => if y = x1 then some v1 else if y = x2 then some v2 else m y) :=
  (over_eq h1 (over_eq h2 rfl)).symm ▸ F
theorem fr_at3 (F : Fr h₀ L h m) (h1 : m x1 = some v1) (h2 : m x2 = some v2) (h3 : m x3 = some v3) : Fr h₀ L h (fun y => if y = x1 then some v1 else if y = x2 then some v2 else if y = x3 then some v3 else m y) :=
  (over_eq h1 (over_eq h2 (over_eq h3 rfl))).symm ▸ F
theorem fr_at4 (F : Fr h₀ L h m) (h1 : m x1 = some v1) (h2 : m x2 = some v2) (h3 : m x3 = some v3) (h4 : m x4 = some v4) : Fr h₀ L h (fun y => if y = x1 then some v1 else if y = x2 then some v2 else if y = x3 then some v3 else if y = x4 then some v4 else m y) :=
  (over_eq h1 (over_eq h2 (over_eq h3 (over_eq h4 rfl)))).symm ▸ F
theorem fr_at5 (F : Fr h₀ L h m) (h1 : m x1 = some v1) (h2 : m x2 = some v2) (h3 : m x3 = some v3) (h4 : m x4 = some v4) (h5 : m x5 = some v5) : Fr h₀ L h (fun y => if y = x1 then some v1 else if y = x2 then some v2 else if y = x3 then some v3 else if y = x4 then some v4 else if y = x5 then some v5 else m y) :=
  (over_eq h1 (over_eq h2 (over_eq h3 (over_eq h4 (over_eq h5 rfl))))).symm ▸ F
end
end
section
open PySem PySem.W PyProof.Rows PySem.Spec PySem.Calls
set_option maxRecDepth 100000
set_option maxHeartbeats 400000
theorem rows_C3a_1 : True := by
  w_top off
  k_with_none
  (k_with "ktn_open" => (refine wpAny_call ?_; k_dflt ktr_enter))
  (k_with "ktr_unf" => (unfold Con; refine fillK ?_; k_fill; intro hZZ; clear hZZ))
  (k_with "eval Constant int" => (k_dflt (refine wn_const ?_)))
  (k_with "binaryOp Pow int int" => (k_here; (with_reducible refine wn_pow2 ?hb ?_); (case hb => first | decide | omega)))
  (k_with "binaryOp Mult int int" => (k_here; (with_reducible refine wn_mul ?hb ?_); (case hb => first | exact Or.inl (by omega) | exact Or.inr (by omega))))
  (k_with "binaryOp Mod int int" => (k_here; (with_reducible refine wn_mod ?hb ?_); (case hb => first | decide | exact Nat.ne_of_gt (Nat.two_pow_pos _))))
  (k_with "binaryOp FloorDiv int int" => (k_here; (with_reducible refine wn_div ?hb ?hc ?_); (case hb => first | decide | exact Nat.ne_of_gt (Nat.two_pow_pos _)); (case hc => first | decide | exact Nat.pow_lt_pow_right (by decide) (by omega))))
  (k_with "binaryOp Sub int int" => (k_here; (with_reducible refine wn_sub ?hb ?_); (case hb => omega)))
  (k_with "binaryOp Add int int" => (k_here; (with_reducible refine wn_add ?_)))
  trivial
theorem con_lturnedI (w : World) (x n : Nat) (t u : Tok) (h1 : x < 2 ^ 64) (h2 : 0 < n) (h3 : n < 32) :
    Con w 135 1 [nv x t, nv n u] none0 (fun r tl => tl = [] ∧ NatIs (x * 2 ^ n % 2 ^ 32 + x / 2 ^ (32 - n)) r) := by
  ktr_unf
  intro prog p loose mean mg mb dp un gd cn cs a ccd cl outer A₀ base h₀ L m news s Q E B F X N T hk hok hd hu hret
  ktn_open
  k_steps
  all_goals exact end0 hret (by k_asm) (by k_asm) ⟨rfl, _, rfl⟩
end
section
open PySem PySem.W PyProof.Rows PySem.Spec PySem.Calls
set_option maxRecDepth 100000
set_option maxHeartbeats 300000
theorem rows_C3b_1 : True := by
  w_top off
  k_with_none
  (k_with "ktn_open" => (refine wpAny_call ?_; k_dflt (refine' code_defC ?k1 ?k2 ?k3 ?k4 ?k5 ?kA ?kF ?kK ?k6 ?k7 ?k8 ?k9 ?kB ?kD ?_ ?c2 ?c3 ?c4; (case kA => exact rfl); (case kF => exact rfl); (case kK => assumption); (case k1 => k_asm); (case k2 => k_asm); (case k3 => k_asm); (case k4 => k_asm); (case k5 => k_asm); (case k6 => k_is); (case k7 => k_is); (case k8 => ktr_room); (case k9 => exact BindsTo.of_eq rfl); (case kB => exact rfl); (case kD => decide +kernel); (case c2 => exact rfl); (case c3 => exact rfl); (case c4 => exact rfl); k_whole; intro g' L' h' tk' cells' FG' F' N' Y' B' X' T' l1; (try k_lt l1); k_cells Y'; (try simp only [List.cons_append, List.nil_append] at N'); (try dsimp only); (try k_lift B'); (try k_fold))))
  (k_with "ktr_unf" => (unfold Con; refine fillK ?_; k_fill; intro hZZ; clear hZZ))
  (k_with "k_steps" => repeat' (first | (k_unfold; (try dsimp only)) | walk1 | (dsimp only; walk1) | (leave1; walk_say "STEP leave1"; try dsimp only) | fail "no step"))
  (k_with "eval Constant int" => (k_dflt (refine wn_const ?_)))
  (k_with "binaryOp Pow int int" => (k_here; (with_reducible refine wn_pow2 ?hb ?_); (case hb => first | decide | omega)))
  (k_with "binaryOp Mult int int" => (k_here; (with_reducible refine wn_mul ?hb ?_); (case hb => first | exact Or.inl (by omega) | exact Or.inr (by omega))))
  (k_with "binaryOp Mod int int" => (k_here; (with_reducible refine wn_mod ?hb ?_); (case hb => first | decide | exact Nat.ne_of_gt (Nat.two_pow_pos _))))
  (k_with "binaryOp FloorDiv int int" => (k_here; (with_reducible refine wn_div ?hb ?hc ?_); (case hb => first | decide | exact Nat.ne_of_gt (Nat.two_pow_pos _)); (case hc => first | decide | exact Nat.pow_lt_pow_right (by decide) (by omega))))
  (k_with "binaryOp Sub int int" => (k_here; (with_reducible refine wn_sub ?hb ?_); (case hb => omega)))
  (k_with "binaryOp Add int int" => (k_here; (with_reducible refine wn_add ?_)))
  (k_with "eval ListComp" => (k_here; k_dflt (refine comp_T (F₀ := by k_asm) (by with_unfolding_all rfl) (by decide) (by rfl) (by decide) (by rfl) ?_)))
  trivial
theorem bne_nat (a b : Nat) : ((a : Int) != (b : Int)) = decide (a ≠ b) := by
  by_cases h : a = b
  · subst h; simp
  · simp [h]; omega
theorem drop {news led : Led} {h₀ h' : Heap} {L : Addr} (N : News h₀ L h' led) (hs : ∀ p ∈ news, p ∈ led) : News h₀ L h' news := fun p hp => N p (hs p hp)
theorem con_both (w : World) (x y : Nat) (t u : Tok) (hx : x < 2 ^ 32) (hy : y < 2 ^ 32) :
    Con w 140 1 [nv x t, nv y u] none0 (fun r tl => tl = [] ∧ ∃ t, r = .int (((List.range 32).filter fun k => decide (x / 2 ^ k % 2 ≠ y / 2 ^ k % 2)).map fun k => ((2 ^ k : Nat) : Int)).sum t) := by
  ktr_unf
  intro prog p loose mean mg mb dp un gd cn cs a ccd cl outer A₀ base h₀ L m news s Q E B F X N T hk hok hd hu hret
  ktn_open
  k_steps
  k_dflt (refine halt (LCt.CompSrcT.range (by rfl) (by k_asm) (by k_asm) (by assumption) (by decide) (by rfl) (by exact Nat.le_of_ble_eq_true rfl) ?_))
  intro g'
  refine ct_rest NatIs (fun k => decide (x / 2 ^ k % 2 ≠ y / 2 ^ k % 2)) (fun k v => NatIs (2 ^ k) v) (List.range 32) rfl (fun i v hi h => range_nats hi h) True.intro ?_ ?_ ?_
  · intro k v I oI C oC D m₂ ys h tk E' hk hR hC hx F' N' off ne
    obtain ⟨tv, hv⟩ := hR
    subst hv
    have hk32 : k < 32 := List.mem_range.mp hk
    k_steps
    exact halt ⟨bne_nat _ _, same (by k_asm) (by k_asm)⟩
  · intro k v I oI C oC D m₂ ys h tk E' hk _ hR hC hx F' N' off ne
    obtain ⟨tv, hv⟩ := hR
    subst hv
    have hk32 : k < 32 := List.mem_range.mp hk
    k_steps
    exact halt ⟨⟨_, rfl⟩, same (by k_asm) (by k_asm)⟩
  · intro ys hys
    have hI : IntsAre ys _ := hys.ints (g := fun k => 2 ^ k) fun _ _ h => h
    intro D h tk F' N' o1
    simp only [LCg.Off1] at o1
    k_steps
    all_goals (refine' end0 hret (by k_asm) (drop ?N9 ?hs9) ⟨rfl, _, rfl⟩; (case N9 => k_asm); (case hs9 => kcf_all))
end
section
open PySem PySem.W PyProof.Rows PySem.Spec PySem.Calls
set_option maxRecDepth 100000
section
variable {prog : Program} {w : World} {A : Around} {E : Value → Shared → Prop} {s : Shared} {env : Env} {h₀ : Heap} {target : PySem.Expr} {body : List Stmt} {Q : Flow → Shared → Prop}
/-- over a tuple, the ledger as it stood -/
theorem for_tuple0 {ax : Addr} {vs : List Value} {k : Nat} {m₀ : Str → Option Value} {news : Led}
    (hh : A.handled = none) (F : Fr h₀ env.locals s.heap m₀) (N : News h₀ env.locals s.heap news) (hm : (ax, ({ cls := .type "tuple", data := .seq vs.toArray k } : Obj)) ∈ news)
    (J : Nat → (Str → Option Value) → Prop) (h0 : J 0 m₀)
    (turn : ∀ i v m₁ h tk I oI, vs[i]? = some v → J i m₁ → Fr h₀ env.locals h m₁ → News h₀ env.locals h ((I, oI) :: news) → (∀ p ∈ news, p.1 ≠ I) →
      wpAny (model prog w) A (assign target env v) (fun _ s₂ => wpAny (model prog w) A (execs body env) (TPost h₀ env.locals { s with heap := h, toks := tk } I oI (fun m' nw' => nw' = news ∧ J (i + 1) m') Q) E s₂) E { s with heap := h, toks := tk })
    (done : ∀ m h tk, J vs.length m → Fr h₀ env.locals h m → News h₀ env.locals h news → Q .next { s with heap := h, toks := tk }) :
    wpAny (model prog w) A (pyIter (.ref ax)) (fun it s₂ => TurnsAt prog w A h₀ env target body Q E it s₂) E s :=
  for_tuple hh F N hm (fun i m nw => nw = news ∧ J i m) ⟨rfl, h0⟩ (fun i m nw h => by rw [h.1]; exact hm)
    (fun i v m₁ nw h tk I oI hv hJ F₁ N₁ off => by obtain ⟨rfl, hJ⟩ := hJ; exact turn i v m₁ h tk I oI hv hJ F₁ N₁ off)
    (fun m nw h tk hJ F₁ N₁ => by obtain ⟨rfl, hJ⟩ := hJ; exact done m h tk hJ F₁ N₁)
theorem for_list0 {ax : Addr} {vs : List Value} {k : Nat} {m₀ : Str → Option Value} {news : Led}
    (hh : A.handled = none) (F : Fr h₀ env.locals s.heap m₀) (N : News h₀ env.locals s.heap news) (hm : (ax, listOf vs.toArray k) ∈ news)
    (J : Nat → (Str → Option Value) → Prop) (h0 : J 0 m₀)
    (turn : ∀ i v m₁ h tk I oI, vs[i]? = some v → J i m₁ → Fr h₀ env.locals h m₁ → News h₀ env.locals h ((I, oI) :: news) → (∀ p ∈ news, p.1 ≠ I) →
      wpAny (model prog w) A (assign target env v) (fun _ s₂ => wpAny (model prog w) A (execs body env) (TPost h₀ env.locals { s with heap := h, toks := tk } I oI (fun m' nw' => nw' = news ∧ J (i + 1) m') Q) E s₂) E { s with heap := h, toks := tk })
    (done : ∀ m h tk, J vs.length m → Fr h₀ env.locals h m → News h₀ env.locals h news → Q .next { s with heap := h, toks := tk }) :
    wpAny (model prog w) A (pyIter (.ref ax)) (fun it s₂ => TurnsAt prog w A h₀ env target body Q E it s₂) E s :=
  for_list hh F N hm (fun i m nw => nw = news ∧ J i m) ⟨rfl, h0⟩ (fun i m nw h => by rw [h.1]; exact hm)
    (fun i v m₁ nw h tk I oI hv hJ F₁ N₁ off => by obtain ⟨rfl, hJ⟩ := hJ; exact turn i v m₁ h tk I oI hv hJ F₁ N₁ off)
    (fun m nw h tk hJ F₁ N₁ => by obtain ⟨rfl, hJ⟩ := hJ; exact done m h tk hJ F₁ N₁)
theorem for_range0 {r : Addr} {a₀ b₀ c₀ : Int} {t₀ u₀ v₀ : Tok} {n : Nat} {m₀ : Str → Option Value} {news : Led} {x : Str} {px : Pos}
    (hh : A.handled = none) (hr : IsRange s.heap r a₀ b₀ c₀ t₀ u₀ v₀) (hsmall : Builtin.Range.small a₀ b₀ c₀ = true) (hsz : Builtin.Range.rangeSize a₀ b₀ c₀ = (n : Int)) (F : Fr h₀ env.locals s.heap m₀) (N : News h₀ env.locals s.heap news)
    (J : Nat → (Str → Option Value) → Prop) (h0 : J 0 m₀)
    (turn : ∀ i t m₁ h tk I oI, i < n → J i m₁ → Fr h₀ env.locals h m₁ → News h₀ env.locals h ((I, oI) :: news) → (∀ p ∈ news, p.1 ≠ I) →
      wpAny (model prog w) A (assign (.Name x px) env (.int (a₀ + (i : Int) * c₀) t)) (fun _ s₂ => wpAny (model prog w) A (execs body env) (TPost h₀ env.locals { s with heap := h, toks := tk } I oI (fun m' nw' => nw' = news ∧ J (i + 1) m') Q) E s₂) E { s with heap := h, toks := tk })
    (done : ∀ m h tk, J n m → Fr h₀ env.locals h m → News h₀ env.locals h news → Q .next { s with heap := h, toks := tk }) :
    wpAny (model prog w) A (pyIter (.ref r)) (fun it s₂ => TurnsAt prog w A h₀ env (.Name x px) body Q E it s₂) E s :=
  for_range hh hr hsmall hsz F N (fun i m nw => nw = news ∧ J i m) ⟨rfl, h0⟩
    (fun i t m₁ nw h tk I oI hv hJ F₁ N₁ off => by obtain ⟨rfl, hJ⟩ := hJ; exact turn i t m₁ h tk I oI hv hJ F₁ N₁ off)
    (fun m nw h tk hJ F₁ N₁ => by obtain ⟨rfl, hJ⟩ := hJ; exact done m h tk hJ F₁ N₁)
end
section
variable {prog : Program} {w : World} {A : Around} {E : Value → Shared → Prop} {s : Shared} {c d : BitVec 32} {t u : Tok} {Q : Value → Shared → Prop}
theorem wp_modsub {M : Int} (hM : M = 4294967296) (h : Q (wv (c - d) s.toks) { s with toks := s.toks + 1 }) : wpAny (model prog w) A (binaryOp .Mod (.int ((c.toNat : Int) - d.toNat) t) (.int M u)) Q E s := by
  subst hM
  exact mod_int' (by decide) (by rw [sub_bv]; exact h)
end
theorem con_lturned (w : World) (x : BitVec 32) (k : Int) (n : Nat) (t u : Tok) (hk : k = (n : Int)) (h2 : 0 < n) (h3 : n < 32) :
    Con w 135 1 [wv x t, .int k u] none0 (fun r tl => tl = [] ∧ ∃ t, r = wv (x.rotateLeft n) t) := by
  subst hk
  have h := con_lturnedI w x.toNat n t u (Nat.lt_trans x.isLt (by decide)) h2 h3
  rw [rot_nat x n h2 h3] at h
  exact h
theorem con_bothB (w : World) (x y : BitVec 32) (t u : Tok) :
    Con w 140 1 [wv x t, wv y u] none0 (fun r tl => tl = [] ∧ ∃ t, r = wv (x ^^^ y) t) := by
  have h := con_both w x.toNat y.toNat t u x.isLt y.isLt
  rw [both_bv] at h
  exact h
end
section
open PySem PySem.W PyProof.Rows PySem.Spec PySem.Calls PyProof.Rows.LCg
set_option maxRecDepth 100000
set_option maxHeartbeats 2000000
/-- two iterators, the block's names and its list: apart from the ledger -/
def Off4 (I J C D : Addr) (nw : Led) : Prop := ∀ p ∈ nw, p.1 ≠ I ∧ p.1 ≠ J ∧ p.1 ≠ C ∧ p.1 ≠ D
def EndP (h₀ : Heap) (L : Addr) (m : Str → Option Value) (s₁ : Shared) (I : Addr) (oI : Obj) (J : Addr) (oJ : Obj) (C : Addr) (oC : Obj) (D : Addr) (oD : Obj) (R : Value → Led → Prop) (y : Value) (s₂ : Shared) : Prop :=
  ∃ h' tk nw', s₂ = { s₁ with heap := h', toks := tk } ∧ Fr h₀ L h' m ∧ News h₀ L h' ((I, oI) :: (J, oJ) :: (C, oC) :: (D, oD) :: nw') ∧ Off4 I J C D nw' ∧ R y nw'
section
variable {prog : Program} {w : World} {A : Around} {E : Value → Shared → Prop} {s : Shared} {h₀ : Heap} {L : Addr} {m : Str → Option Value} {env : Env}

theorem mp_block {elt iter : PySem.Expr} {a b : Str} {pa pb tp : Pos} {kk : Nat} {scope : Scope} {cl : List (Str × Addr)} {pos : Pos} {s₂ : Shared} {I I₂ : Addr} {fp : List Addr} {n : Nat} {P Md : Nat → Value → Heap → Prop} {St : Nat → Heap → Prop} {keep : Led} {V : Nat → Value → Value → Prop} {news : Led} {RR : Value → Addr → Result → Shared → Prop}
    (W : KTurns prog w A (.Tuple [.Name a pa, .Name b pb] kk tp) I fp [I, I₂] n P Md St) (hP : ∀ i v h, P i v h → ∃ T x y, v = .ref T ∧ V i x y ∧ h.IsTuple T #[x, y])
    (hh : A.handled = none) (hsz : n ≤ sizeLine) (hI : I ∈ fp) (hI₂ : I₂ ∈ fp) (hfpl : ∀ c ∈ fp, c < s₂.heap.objs.size) (hfp : ∀ c ∈ fp, h₀.get? c = none → c = I ∨ c = I₂ ∨ ∃ o, (c, o) ∈ keep)
    (hobj : ∀ i h, St i h → (∃ o, h.get? I = some o) ∧ ∃ o, h.get? I₂ = some o) (hst : St 0 s₂.heap) (hself : ∀ h, St 0 h → ∀ (Q : Value → Shared → Prop) (E : Value → Shared → Prop) (s : Shared), s.heap = h → Q (.ref I) s → wpAny (model prog w) A (pyIter (.ref I)) Q E s)
    (hcell : ∀ y ∈ scope.names, y.2 ≠ .cell) (hkind : scope.kind = .function) (hxa : scope.names.lookup a = some .local) (hxb : scope.names.lookup b = some .local) (hab : ¬ a = b)
    (F : Fr h₀ L s₂.heap m) (N : News h₀ L s₂.heap news) (hI₀ : h₀.get? I = none) (hI₂₀ : h₀.get? I₂ = none) (hLfp : L ∉ fp) (hne : I ≠ I₂) (off : ∀ p ∈ news, p.1 ≠ I ∧ p.1 ≠ I₂)
    (J : Nat → List Value → Led → Prop) (h0 : J 0 [] news) (hJ : ∀ i ys nw, J i ys nw → ∀ p ∈ keep, p ∈ nw)
    (turn : ∀ i x y ys nw oI oI₂ C oC D m₂ h tk (E' : Value → Shared → Prop), i < n → V i x y → J i ys nw → NsObj oC m₂ → m₂ a = some x → m₂ b = some y → Fr h₀ L h m → News h₀ L h ((I, oI) :: (I₂, oI₂) :: (C, oC) :: (D, lst ys) :: nw) → Off4 I I₂ C D nw →
      wpAny (model prog w) A (eval elt (compEnvC scope cl C env)) (fun y s' => Halt (EndP h₀ L m { s₂ with heap := h, toks := tk } I oI I₂ oI₂ C oC D (lst ys) (fun y nw' => J (i + 1) (ys ++ [y]) nw') y s')) E' { s₂ with heap := h, toks := tk })
    (hRR : ∀ D C h tk m' ys nw, Fr h₀ L h m → News h₀ L h ((D, lst ys) :: nw) → Off1 D nw → h.Ns C m' → h₀.get? C = none → h₀.get? D = none → C ≠ L → D ≠ L → C ≠ D → (∀ p ∈ nw, p.1 ≠ C) → J n ys nw → RR (.ref D) C (.ok .next) { s₂ with heap := h, toks := tk }) :
    wpAny (model prog w) A (newList []) (fun acc s₃ => wpAny (model prog w) A (newFunctionEnv scope env.globals cl [] env.qual none .none (some env)) (fun cenv s₄ =>
      codeAny (model prog w) A (.compStart (.ListComp elt [⟨.Tuple [.Name a pa, .Name b pb] kk tp, iter, [], 0⟩] scope pos) 0 (.ref I) acc { cenv with scope := relabel scope env }) (RR acc cenv.locals) s₄) E s₃) E s₂ := by
  refine wpAny_newObj_type (wpAny_newFunctionEnv hcell (by intro y hy; simp at hy) (fun h₁ hns₁ hsb₁ => ?_) hkind)
  dsimp only at hns₁ hsb₁ ⊢
  generalize hH2 : s₂.heap.push { cls := .type "list", dict := none, data := .seq ([] : List Value).toArray } = H2 at hns₁ hsb₁ ⊢
  have hC : H2.objs.size = s₂.heap.objs.size + 1 := by rw [← hH2, Heap.size_push]
  have hDC : s₂.heap.objs.size ≠ H2.objs.size := by rw [hC]; exact Nat.ne_of_lt (Nat.lt_succ_self _)
  have below : ∀ b, b < s₂.heap.objs.size → b ≠ H2.objs.size ∧ b ≠ s₂.heap.objs.size := fun b hb => ⟨by rw [hC]; exact Nat.ne_of_lt (Nat.lt_succ_of_lt hb), Nat.ne_of_lt hb⟩
  have old : ∀ b o, s₂.heap.get? b = some o → h₁.get? b = some o := fun b o e => hsb₁.extBut b o (below b (Heap.lt_size e)).1 (Heap.get?_push_of_some _ (hH2 ▸ Heap.get?_push_of_some _ e))
  have hacc : h₁.get? s₂.heap.objs.size = some (lst []) := hsb₁.extBut _ _ hDC (Heap.get?_push_of_some _ (hH2 ▸ Heap.get?_push_size _ rfl))
  have hst₁ : St 0 h₁ := W.frame _ _ _ hst fun b _ o e => old b o e
  have fresh : ∀ a, s₂.heap.objs.size ≤ a → s₂.heap.get? a = none := fun a ha => by
    cases e : s₂.heap.get? a with
    | none => rfl
    | some o' => exact absurd (Heap.lt_size e) (Nat.not_lt.mpr ha)
  have fresh₀ : ∀ a, s₂.heap.objs.size ≤ a → h₀.get? a = none := fun a ha => by
    cases e : h₀.get? a with
    | none => rfl
    | some o' => have := F.keep a o' e; rw [fresh a ha] at this; cases this
  have hD₀ : h₀.get? s₂.heap.objs.size = none := fresh₀ _ (Nat.le_refl _)
  have hC₀ : h₀.get? H2.objs.size = none := fresh₀ _ (by rw [hC]; exact Nat.le_succ _)
  have hLlt : L < s₂.heap.objs.size := F.ns.lt
  have hDL : s₂.heap.objs.size ≠ L := Ne.symm (below L hLlt).2
  have hCL : H2.objs.size ≠ L := Ne.symm (below L hLlt).1
  have fpC : ∀ c ∈ fp, c ≠ H2.objs.size := fun c hc => (below c (hfpl c hc)).1
  have fpD : ∀ c ∈ fp, c ≠ s₂.heap.objs.size := fun c hc => (below c (hfpl c hc)).2
  have off₀ : Off4 I I₂ H2.objs.size s₂.heap.objs.size news := fun p hp => ⟨(off p hp).1, (off p hp).2, (below _ (Heap.lt_size (N p hp).1)).1, (below _ (Heap.lt_size (N p hp).1)).2⟩
  have hIL : L ≠ I := fun e => hLfp (e ▸ hI)
  have hI₂L : L ≠ I₂ := fun e => hLfp (e ▸ hI₂)
  have notin : ∀ c : Addr, c ≠ I → c ≠ I₂ → c ∉ [I, I₂] := fun c h1 h2 hm => by
    rcases List.mem_cons.mp hm with e | hm
    · exact h1 e
    · exact h2 (List.mem_singleton.mp hm)
  have based : ∀ c o, h₀.get? c = some o → c ∉ [I, I₂] ∧ c ≠ H2.objs.size ∧ c ≠ s₂.heap.objs.size := fun c o e =>
    ⟨notin c (fun q => by rw [q, hI₀] at e; cases e) (fun q => by rw [q, hI₂₀] at e; cases e), (fun q => by rw [q, hC₀] at e; cases e), (fun q => by rw [q, hD₀] at e; cases e)⟩
  have loop : ∀ s₃ : Shared, s₃ = { s₂ with heap := h₁, toks := s₂.toks + ([] : List (Str × Value)).length } →
      codeAny (model prog w) A (.compLoop (.ListComp elt [⟨.Tuple [.Name a pa, .Name b pb] kk tp, iter, [], 0⟩] scope pos) 0 (.ref I) (.ref s₂.heap.objs.size) (compEnvC scope cl H2.objs.size env))
        (RR (.ref s₂.heap.objs.size) H2.objs.size) s₃ := by
    rintro s₃ rfl
    refine kcp_loop
      (fun k s' => ∃ h' tk i ys m' nw, s' = { s₂ with heap := h', toks := tk } ∧ i ≤ n ∧ k = n + 1 - i ∧ ys.length = i ∧ St i h' ∧ Fr h₀ L h' m ∧ h'.Ns H2.objs.size m' ∧
        News h₀ L h' ((s₂.heap.objs.size, lst ys) :: nw) ∧ Off4 I I₂ H2.objs.size s₂.heap.objs.size nw ∧ J i ys nw) ?_ (n + 1)
      ⟨h₁, _, 0, [], _, news, rfl, Nat.zero_le _, rfl, rfl, hst₁, F.keeps old, hns₁, fun p hp => ?_, off₀, h0⟩
    · rintro k s' ⟨h', tk, i, ys, m', nw, rfl, hi, rfl, hyl, hst', F', hn', N', off', hJ'⟩
      by_cases hlt : i < n
      · refine W.item i _ _ _ hlt hst' fun v h₂ tk₂ hMd hk₂ => ?_
        refine W.go i v _ _ _ hMd fun h₃ hPv hst₃ hk₃ => ?_
        obtain ⟨T, x, y, rfl, hV, hT⟩ := hP i v _ hPv
        have up₃ : ∀ c o, c ∉ [I, I₂] → h'.get? c = some o → h₃.get? c = some o := fun c o hc e => hk₃ c o hc (hk₂ c o hc e)
        have hCw : H2.objs.size ∉ [I, I₂] := notin _ (Ne.symm (fpC I hI)) (Ne.symm (fpC I₂ hI₂))
        have hDw : s₂.heap.objs.size ∉ [I, I₂] := notin _ (Ne.symm (fpD I hI)) (Ne.symm (fpD I₂ hI₂))
        have hLw : L ∉ [I, I₂] := notin _ hIL hI₂L
        refine kcp_assign (env := compEnvC scope cl H2.objs.size env) hh hT (lookup_relabel_local hxa) (lookup_relabel_local hxb) (by simp [compEnvC, relabel, hkind]) (hn'.at' fun o e => up₃ _ o hCw e) fun h₄ tk₄ hn₄ hs₄ => ?_
        have up : ∀ c o, c ∉ [I, I₂] → c ≠ H2.objs.size → h'.get? c = some o → h₄.get? c = some o := fun c o h1 h2 e => hs₄ c o h2 (up₃ c o h1 e)
        have hst₄ : St (i + 1) h₄ := W.frame _ _ _ hst₃ fun c hc o e => hs₄ c o (fpC c hc) e
        obtain ⟨⟨oI, heI⟩, oJ, heJ⟩ := hobj _ _ hst₄
        obtain ⟨oC, heC, hoC⟩ := ns_obj hn₄
        have F₄ : Fr h₀ L h₄ m := ⟨F'.ns.at' fun o e => up _ o hLw (Ne.symm hCL) e, fun c o e => up c o (based c o e).1 (based c o e).2.1 (F'.keep c o e), F'.above⟩
        have N₄ : News h₀ L h₄ ((I, oI) :: (I₂, oJ) :: (H2.objs.size, oC) :: (s₂.heap.objs.size, lst ys) :: nw) := fun q hq => by
          rcases List.mem_cons.mp hq with rfl | hq
          · exact ⟨heI, Ne.symm hIL, hI₀⟩
          · rcases List.mem_cons.mp hq with rfl | hq
            · exact ⟨heJ, Ne.symm hI₂L, hI₂₀⟩
            · rcases List.mem_cons.mp hq with rfl | hq
              · exact ⟨heC, hCL, hC₀⟩
              · have z := N' q hq
                refine ⟨up _ _ ?_ ?_ z.1, z.2⟩
                · rcases List.mem_cons.mp hq with rfl | hq
                  · exact hDw
                  · exact notin _ (off' q hq).1 (off' q hq).2.1
                · rcases List.mem_cons.mp hq with rfl | hq
                  · exact hDC
                  · exact (off' q hq).2.2.1
        refine wpAny_mono (turn i x y ys nw oI oJ H2.objs.size oC s₂.heap.objs.size _ h₄ _ _ hlt hV hJ' hoC (by simp [hab]) (by simp) F₄ N₄ off') (fun z s₅ h₅ => ?_) fun _ _ e => e
        obtain ⟨h₅, tk₅, nw₅, rfl, F₅, N₅, off₅, hJ₅⟩ := h₅
        have zI := (N₅ (I, oI) List.mem_cons_self).1
        have zJ := (N₅ (I₂, oJ) (List.mem_cons_of_mem _ List.mem_cons_self)).1
        have zC := (N₅ (H2.objs.size, oC) (List.mem_cons_of_mem _ (List.mem_cons_of_mem _ List.mem_cons_self))).1
        have zD := (N₅ (s₂.heap.objs.size, lst ys) (List.mem_cons_of_mem _ (List.mem_cons_of_mem _ (List.mem_cons_of_mem _ List.mem_cons_self)))).1
        have N₅' : News h₀ L h₅ nw₅ := fun q hq => N₅ q (List.mem_cons_of_mem _ (List.mem_cons_of_mem _ (List.mem_cons_of_mem _ (List.mem_cons_of_mem _ hq))))
        have hst₅ : St (i + 1) h₅ := W.frame _ _ _ hst₄ fun c hc o e => by
          cases hb : h₀.get? c with
          | some o' =>
            have h1 := F₄.keep c o' hb
            rw [e] at h1
            rw [Option.some.inj h1]
            exact F₅.keep c o' hb
          | none =>
            rcases hfp c hc hb with rfl | rfl | ⟨o', ho'⟩
            · rw [heI] at e; rw [← Option.some.inj e]; exact zI
            · rw [heJ] at e; rw [← Option.some.inj e]; exact zJ
            · have h1 := (N₄ _ (List.mem_cons_of_mem _ (List.mem_cons_of_mem _ (List.mem_cons_of_mem _ (List.mem_cons_of_mem _ (hJ _ _ _ hJ' _ ho')))))).1
              have h2 := (N₅' _ (hJ _ _ _ hJ₅ _ ho')).1
              have h3 : o' = o := Option.some.inj (h1.symm.trans e)
              rw [← h3]; exact h2
        refine append_at (hsz := by show ys.toArray.size ≤ sizeLine; rw [List.size_toArray, hyl]; exact Nat.le_trans hi hsz) zD fun h₆ hs₆ hD₆ => ?_
        refine ⟨n + 1 - (i + 1), by omega, h₆, tk₅, i + 1, ys ++ [z], _, nw₅, rfl, hlt, rfl, by rw [List.length_append, List.length_singleton, hyl], W.frame _ _ _ hst₅ fun c hc o e => hs₆.extBut c o (fpD c hc) e, F₅.change hs₆ hDL hD₀,
          (hoC.ns zC).sameBut hs₆ (Ne.symm hDC), fun q hq => ?_, off₅, hJ₅⟩
        rcases List.mem_cons.mp hq with rfl | hq
        · exact ⟨hD₆.trans (congrArg some (lst_snoc ys z)), hDL, hD₀⟩
        · exact ⟨hs₆.extBut _ _ (off₅ q hq).2.2.2 (N₅' q hq).1, (N₅' q hq).2⟩
      · have hin : i = n := Nat.le_antisymm hi (Nat.not_lt.mp hlt)
        subst hin
        refine W.done _ _ _ hst' fun h₂ tk₂ hk₂ => ?_
        have hLw : L ∉ [I, I₂] := notin _ hIL hI₂L
        have hCw : H2.objs.size ∉ [I, I₂] := notin _ (Ne.symm (fpC I hI)) (Ne.symm (fpC I₂ hI₂))
        have hDw : s₂.heap.objs.size ∉ [I, I₂] := notin _ (Ne.symm (fpD I hI)) (Ne.symm (fpD I₂ hI₂))
        exact hRR _ _ h₂ tk₂ _ ys nw ⟨F'.ns.at' fun o e => hk₂ _ o hLw e, fun c o e => hk₂ c o (based c o e).1 (F'.keep c o e), F'.above⟩ (fun p hp => by
          have z := N' p hp
          refine ⟨hk₂ _ _ ?_ z.1, z.2⟩
          rcases List.mem_cons.mp hp with rfl | hp
          · exact hDw
          · exact notin _ (off' p hp).1 (off' p hp).2.1) (by
          have : ∀ l : Led, (∀ p ∈ l, p.1 ≠ s₂.heap.objs.size) → Off1 s₂.heap.objs.size l := by
            intro l
            induction l with
            | nil => intro _; trivial
            | cons q r ih => intro hq; exact ⟨hq q List.mem_cons_self, ih fun p hp => hq p (List.mem_cons_of_mem _ hp)⟩
          exact this nw fun p hp => (off' p hp).2.2.2) (hn'.at' fun o e => hk₂ _ o hCw e) hC₀ hD₀ hCL hDL (Ne.symm hDC) (fun p hp => (off' p hp).2.2.1) hJ'
    · rcases List.mem_cons.mp hp with rfl | hp
      · exact ⟨hacc, hDL, hD₀⟩
      · exact ⟨old _ _ (N p hp).1, (N p hp).2⟩
  exact codeAny_compStart_list (loop _ rfl) (hself _ hst₁ _ _ _ rfl (loop _ rfl))
end
end
section
open PySem PySem.W PyProof.Rows PySem.Spec PySem.Calls PyProof.Rows.LCg
open PySem.AutoSeq1 (wpAny_loadPart')
set_option maxRecDepth 100000
set_option maxHeartbeats 2000000
section
variable {prog : Program} {w : World} {A : Around} {E : Value → Shared → Prop} {s : Shared} {b : Array UInt8} {t : Tok}
theorem nextOf_bytes_item {it : Addr} {i : Nat} {c : UInt8} {Q : Value → Shared → Prop} (hit : KBw.IsBytesIter s.heap it b t i) (hx : b[i]? = some c)
    (hQ : ∀ h', KBw.IsBytesIter h' it b t (i + 1) → Heap.SameBut it s.heap h' → Q (.int (c.toNat : Int) s.toks) { s with heap := h', toks := s.toks + 1 }) : wpAny (model prog w) A (Builtin.SmallTypes.nextOf (.ref it)) Q E s := by
  obtain ⟨o, ho, hc, hd⟩ := id hit
  unfold Builtin.SmallTypes.nextOf
  refine wpAny_bind (wpAny_callSpecial?_slot (name := PySem.Str.ofString "__next__") (KBw.iter_typeIs hit) KBw.slot_next
    (wpAny_call_entry KBw.slot_next (KBw.iter_typeIs hit) KBw.entry_next ?_ (KBw.args_next _)))
  show wpAny _ _ (field (.ref it) 0 >>= _) _ _ s
  refine wpAny_bind (wpAny_field ho hd (x := .bytes b t) rfl ?_)
  show wpAny _ _ (if (Value.bytes b t == Value.none) = true then _ else _) _ _ s
  rw [if_neg (show ¬ ((Value.bytes b t == Value.none) = true) from Bool.false_ne_true)]
  show wpAny _ _ (field (.ref it) 1 >>= _) _ _ s
  refine wpAny_bind (wpAny_field ho hd (x := .int i 0) rfl ?_)
  refine wpAny_bind (wpAny_of_eq (a := b) rfl ?_)
  simp only [Int.toNat_natCast, hx]
  refine wpAny_bind (wpAny_setField ho hd (by simp) (wpAny_bind (wpAny_mkInt (wpAny_pure ⟨_, rfl, wpAny_pure (hQ _ ?_ (Heap.SameBut.update ..))⟩))))
  exact ⟨_, Heap.get?_update_self _ ho (Obj.isFreed_of_fields (Obj.data_mapFields hd _)), (Obj.cls_mapFields ..).trans hc, by
    rw [Obj.data_mapFields hd]; simp [rawInt]⟩
theorem nextOf_bytes_end {it : Addr} {i : Nat} {Q : Value → Shared → Prop} (hh : A.handled = none) (hit : KBw.IsBytesIter s.heap it b t i) (hx : b[i]? = none)
    (hE : ∀ h' e, Heap.ExtBut it s.heap h' → (∃ o, h'.get? e = some o ∧ o.cls = .type "StopIteration") → E (.ref e) { s with heap := h' }) : wpAny (model prog w) A (Builtin.SmallTypes.nextOf (.ref it)) Q E s := by
  obtain ⟨o, ho, hc, hd⟩ := id hit
  unfold Builtin.SmallTypes.nextOf
  refine wpAny_bind (wpAny_callSpecial?_slot (name := PySem.Str.ofString "__next__") (KBw.iter_typeIs hit) KBw.slot_next
    (wpAny_call_entry KBw.slot_next (KBw.iter_typeIs hit) KBw.entry_next ?_ (KBw.args_next _)))
  show wpAny _ _ (field (.ref it) 0 >>= _) _ _ s
  refine wpAny_bind (wpAny_field ho hd (x := .bytes b t) rfl ?_)
  show wpAny _ _ (if (Value.bytes b t == Value.none) = true then _ else _) _ _ s
  rw [if_neg (show ¬ ((Value.bytes b t == Value.none) = true) from Bool.false_ne_true)]
  show wpAny _ _ (field (.ref it) 1 >>= _) _ _ s
  refine wpAny_bind (wpAny_field ho hd (x := .int i 0) rfl ?_)
  refine wpAny_bind (wpAny_of_eq (a := b) rfl ?_)
  simp only [Int.toNat_natCast, hx]
  refine wpAny_bind (wpAny_rule (wpAny_bind (wpAny_setField ho hd (by simp) ?_)))
  show wpAny _ _ (newExc (.type "StopIteration") [] >>= _) _ _ _
  refine wpAny_bind ?_
  simp only [newExc, newTuple]
  refine wpAny_bind (wpAny_newObj_type ?_ (by size_fits))
  refine wpAny_bind (m := firstArgMember _ _) (wpAny_of_eq (a := Value.none) (by first | rfl | (simp only [firstArgMember]; rfl)) ?_)
  refine wpAny_newObj_type ?_ (by size_fits)
  simp only [raiseNew]
  refine wpAny_bind (wpAny_handled ?_)
  first | rw [show A.in1.handled = none from hh] | rw [hh]
  refine wpAny_bind (wpAny_pure (wpAny_throw ?_))
  exact hE _ _ (((Heap.SameBut.update ..).extBut.push _).push _) ⟨_, Heap.get?_push_size _ rfl, rfl⟩
end
theorem draws_bytes {prog : Program} {w : World} {A : Around} (hh : A.handled = none) (it : Addr) (b : Array UInt8) (t : Tok) :
    Draws prog w A it [it] b.size (fun i v => ∃ c u, b[i]? = some c ∧ v = .int (c.toNat : Int) u) (fun i h => KBw.IsBytesIter h it b t i) where
  live := fun _ _ st => let ⟨o, ho, _⟩ := st; ⟨o, ho⟩
  frame := fun _ _ _ st hk => let ⟨o, ho, r⟩ := st; ⟨o, hk it (by simp) o ho, r⟩
  item := fun i s Q E hi st hQ => by
    refine nextOf_bytes_item st (c := b[i]) (by simp [hi]) fun h' hit' hs' => ?_
    exact hQ _ h' (s.toks + 1) ⟨_, _, by simp [hi], rfl⟩ hit' hs'
  done := fun s Q E st hQ => nextOf_bytes_end hh st (by simp) hQ

theorem pyIter_bytesU {prog : Program} {w : World} {A : Around} {E : Value → Shared → Prop} {s : Shared} {b : Array UInt8} {t : Tok} {Q : Value → Shared → Prop}
    (hQ : Q (.ref s.heap.objs.size) { s with heap := s.heap.push { cls := .type "bytes_iterator", data := .fields #[.bytes b t, .int 0 0] } }) : wpAny (model prog w) A (pyIter (.bytes b t)) Q E s := KBw.pyIter_bytes hQ
theorem meets_enumerate_newB (b : Array UInt8) (t : Tok) :
    Meets (Builtin.«enumerate.__new__» ⟨[.type "enumerate", .bytes b t], []⟩) (fun _ R s =>
      R (.ok (.ret (.ref (s.heap.push { cls := .type "bytes_iterator", data := .fields #[.bytes b t, .int 0 0] }).objs.size)))
        { s with heap := (s.heap.push { cls := .type "bytes_iterator", data := .fields #[.bytes b t, .int 0 0] }).push { cls := .type "enumerate", data := .fields #[.none, .bool false, .ref s.heap.objs.size, rawInt 0, .none, .none] } }) :=
  .of_wp fun prog w A R s h => by
    obtain ⟨hp, g, d, tk, os⟩ := s
    have hsub := sub_enumerate
    wp_walk
    refine wpAny_stack_any fun st => wpAny_pure ?_
    split
    · rename_i c _ _ _ _ _
      cases (c == Value.type "enumerate")
      · wp_walk using pyIter_bytesU
        exact ⟨_, rfl, h⟩
      · wp_walk using pyIter_bytesU
        exact ⟨_, rfl, h⟩
    · wp_walk using pyIter_bytesU
      exact ⟨_, rfl, h⟩
section
variable {prog : Program} {w : World} {A : Around} {E : Value → Shared → Prop} {s : Shared}
theorem call_enumerate_bytes {b : Array UInt8} {t : Tok} {Q : Value → Shared → Prop}
    (h : ∀ h', IsEnum h' (s.heap.objs.size + 1) s.heap.objs.size 0 .none → KBw.IsBytesIter h' s.heap.objs.size b t 0 → h'.objs.size = s.heap.objs.size + 2 →
      (∀ b o, s.heap.get? b = some o → h'.get? b = some o) → Q (.ref (s.heap.objs.size + 1)) { s with heap := h' }) :
    wpAny (model prog w) A (call (.type "enumerate") [.bytes b t]) Q E s := by
  refine callType_new F.called_enumerate (by decide) (F.typeCall_enumerate_1 _) (F.newCall_enumerate_1 _) (fun obj => F.args_object_init_2 obj _) F.entry_enumerate_new
    (meets_enumerate_newB b t) ?_
  have hz : (s.heap.push { cls := .type "bytes_iterator", data := .fields #[.bytes b t, .int 0 0] }).objs.size = s.heap.objs.size + 1 := Heap.size_push ..
  show _ ∧ _
  rw [hz]
  have he : IsEnum ((s.heap.push { cls := .type "bytes_iterator", data := .fields #[.bytes b t, .int 0 0] }).push
      { cls := .type "enumerate", data := .fields #[.none, .bool false, .ref s.heap.objs.size, rawInt 0, .none, .none] }) (s.heap.objs.size + 1) s.heap.objs.size 0 .none := by
    have := Heap.get?_push_size (s.heap.push { cls := .type "bytes_iterator", data := .fields #[.bytes b t, .int 0 0] })
      (o := { cls := .type "enumerate", data := .fields #[.none, .bool false, .ref s.heap.objs.size, rawInt 0, .none, .none] }) rfl
    rw [hz] at this; exact this
  refine ⟨⟨_, he, rfl⟩, h _ he ⟨_, Heap.get?_push_of_some _ (Heap.get?_push_size _ rfl), rfl, rfl⟩ (by rw [Heap.size_push, hz]) fun b o y => Heap.get?_push_of_some _ (Heap.get?_push_of_some _ y)⟩
end
end
section
open PySem PySem.W PyProof.Rows PySem.Spec PySem.Calls PyProof.Rows.LCg
set_option maxRecDepth 100000
set_option maxHeartbeats 2000000
section
variable {prog : Program} {w : World} {A : Around} {E : Value → Shared → Prop} {s : Shared} {h₀ : Heap} {L : Addr} {m : Str → Option Value} {env : Env}
/-- what stands behind a comprehension's last turn -/
def Back (h₀ : Heap) (L : Addr) (m : Str → Option Value) (s₂ : Shared) (CP : Value → Addr → Result → Shared → Prop) (ys : List Value) (nw : Led) : Prop :=
  ∀ D C h tk m', Fr h₀ L h m → News h₀ L h ((D, lst ys) :: nw) → Off1 D nw → h.Ns C m' → h₀.get? C = none → h₀.get? D = none → C ≠ L → D ≠ L → C ≠ D → (∀ p ∈ nw, p.1 ≠ C) → CP (.ref D) C (.ok .next) { s₂ with heap := h, toks := tk }
theorem back_none {ys : List Value} {nw : Led} {s₂ : Shared} {Q : Value → Shared → Prop}
    (fin : ∀ D h tk, Fr h₀ L h m → News h₀ L h ((D, lst ys) :: nw) → Off1 D nw → Q (.ref D) { s₂ with heap := h, toks := tk }) :
    Back h₀ L m s₂ (compPost (model prog w) A E none Q) ys nw := by
  intro D C h tk m' F' N' o1 hn hC₀ _ hCL _ hCD offC
  refine ⟨m', hn, fun h'' hs'' => fin D h'' tk (F'.change hs'' hCL hC₀) (fun p hp => ?_) o1⟩
  refine ⟨hs''.extBut _ _ ?_ (N' p hp).1, (N' p hp).2⟩
  rcases List.mem_cons.mp hp with rfl | hp
  · exact Ne.symm hCD
  · exact offC p hp
theorem back_assign {ys : List Value} {nw : Led} {s₂ : Shared} {y : Str} {py : Pos} {Q : Shared → Prop} (hLe : env.locals = L)
    (hy : env.kindOf y = some .local) (hp : (env.scope.kind == .class || (env.scope.kind == .module && env.locals != env.globals)) = false)
    (fin : ∀ D h tk, Fr h₀ L h (fun z => if z = y then some (.ref D) else m z) → News h₀ L h ((D, lst ys) :: nw) → Off1 D nw → Q { s₂ with heap := h, toks := tk }) :
    Back h₀ L m s₂ (compPost (model prog w) A E (some (assign (.Name y py) env)) (fun _ s' => Q s')) ys nw := by
  subst hLe
  intro D C h tk m' F' N' o1 hn hC₀ hD₀ hCL hDL hCD offC
  show wpAny _ A (assign (.Name y py) env (.ref D)) _ _ _
  refine wpAny_assign_Name (wpAny_storeName_local hy F'.ns (fun h₂ hn₂ hs₂ => ?_) hp)
  have F₂ := F'.set hn₂ hs₂
  have N₂ := N'.set hs₂
  refine ⟨m', hn.sameBut hs₂ hCL, fun h'' hs'' => fin D h'' _ (F₂.change hs'' hCL hC₀) (fun p hp => ?_) o1⟩
  refine ⟨hs''.extBut _ _ ?_ (N₂ p hp).1, (N₂ p hp).2⟩
  rcases List.mem_cons.mp hp with rfl | hp
  · exact Ne.symm hCD
  · exact offC p hp
/-- what stands behind the iterable of a comprehension -/
def CompBlock (prog : Program) (w : World) (A : Around) (env : Env) (e : PySem.Expr) (scope : Scope) (cl : List (Str × Addr)) (CP : Value → Addr → Result → Shared → Prop) (E : Value → Shared → Prop) (xv : Value) (s₁ : Shared) : Prop :=
  wpAny (model prog w) A (pyIter xv) (fun it s₂ => wpAny (model prog w) A (newList []) (fun acc s₃ =>
      wpAny (model prog w) A (newFunctionEnv scope env.globals cl [] env.qual none .none (some env)) (fun cenv s₄ =>
        codeAny (model prog w) A (.compStart e 0 it acc { cenv with scope := relabel scope env })
          (CP acc cenv.locals) s₄) E s₃) E s₂) E s₁
/-- the block of one name -/
abbrev Block1 (prog : Program) (w : World) (A : Around) (env : Env) (elt iter : PySem.Expr) (x : Str) (px : Pos) (scope : Scope) (cl : List (Str × Addr)) (pos : Pos) (CP : Value → Addr → Result → Shared → Prop) (E : Value → Shared → Prop) (xv : Value) (s₁ : Shared) : Prop :=
  CompBlock prog w A env (.ListComp elt [⟨.Name x px, iter, [], 0⟩] scope pos) scope cl CP E xv s₁
/-- the block of two names -/
abbrev PairBlock (prog : Program) (w : World) (A : Around) (env : Env) (elt iter : PySem.Expr) (a b : Str) (pa pb tp : Pos) (kk : Nat) (scope : Scope) (cl : List (Str × Addr)) (pos : Pos) (CP : Value → Addr → Result → Shared → Prop) (E : Value → Shared → Prop) (xv : Value) (s₁ : Shared) : Prop :=
  CompBlock prog w A env (.ListComp elt [⟨.Tuple [.Name a pa, .Name b pb] kk tp, iter, [], 0⟩] scope pos) scope cl CP E xv s₁
theorem comp_E {elt iter : PySem.Expr} {a b : Str} {pa pb tp : Pos} {kk : Nat} {scope : Scope} {cl : List (Str × Addr)} {pos : Pos} {Q : Value → Shared → Prop}
    (hclos : closureFor scope env = pure cl) (hkind : scope.kind = .function) (hnames : ∀ y ∈ scope.names, y.2 = .local → scope.names.lookup y.1 = some .local)
    (h : wpAny (model prog w) A (eval iter env) (fun xv s₁ => Halt (PairBlock prog w A env elt iter a b pa pb tp kk scope cl pos (compPost (model prog w) A E none Q) E xv s₁)) E s)
    (hs : ∀ x, foldedSetIterable iter env x = pure x := by intro _; rfl) :
    wpAny (model prog w) A (eval (.ListComp elt [⟨.Tuple [.Name a pa, .Name b pb] kk tp, iter, [], 0⟩] scope pos) env) Q E s := by
  rw [eval_ListComp]
  exact wpAny_comprehension_free (use := none) rfl hs hclos hkind hnames h
theorem comp_1 {elt iter : PySem.Expr} {x : Str} {px : Pos} {scope : Scope} {cl : List (Str × Addr)} {pos : Pos} {Q : Value → Shared → Prop}
    (hclos : closureFor scope env = pure cl) (hkind : scope.kind = .function) (hnames : ∀ y ∈ scope.names, y.2 = .local → scope.names.lookup y.1 = some .local)
    (h : wpAny (model prog w) A (eval iter env) (fun xv s₁ => Halt (Block1 prog w A env elt iter x px scope cl pos (compPost (model prog w) A E none Q) E xv s₁)) E s)
    (hs : ∀ x, foldedSetIterable iter env x = pure x := by intro _; rfl) :
    wpAny (model prog w) A (eval (.ListComp elt [⟨.Name x px, iter, [], 0⟩] scope pos) env) Q E s := by
  rw [eval_ListComp]
  exact wpAny_comprehension_free (use := none) rfl hs hclos hkind hnames h
theorem comp_A {elt iter t : PySem.Expr} {y : Str} {py : Pos} {scope : Scope} {cl : List (Str × Addr)} {pos spos : Pos} {Q : Flow → Shared → Prop}
    (hsw : swapsWith (.ListComp elt [⟨t, iter, [], 0⟩] scope pos) (some (.Name y py)) spos.line env = pure true)
    (hclos : closureFor scope env = pure cl) (hkind : scope.kind = .function) (hnames : ∀ y ∈ scope.names, y.2 = .local → scope.names.lookup y.1 = some .local)
    (h : wpAny (model prog w) A (eval iter env) (fun xv s₁ => Halt (CompBlock prog w A env (.ListComp elt [⟨t, iter, [], 0⟩] scope pos) scope cl (compPost (model prog w) A E (some (assign (.Name y py) env)) (fun _ s' => Q .next s')) E xv s₁)) E s)
    (hs : ∀ x, foldedSetIterable iter env x = pure x := by intro _; rfl) :
    wpAny (model prog w) A (exec (.Assign [.Name y py] (.ListComp elt [⟨t, iter, [], 0⟩] scope pos) spos) env) Q E s := by
  rw [exec_Assign_Name_used _ _ _ _ hsw]
  refine wpAny_bind (wpAny_standAt (wpAny_bind ?_))
  show wpAny _ A (do let _ ← comprehension (.ListComp elt [⟨t, iter, [], 0⟩] scope pos) scope env _ (newList []) false (eval iter env) (some (assign (.Name y py) env))) _ _ s
  exact wpAny_bind (wpAny_mono (wpAny_comprehension_free (use := some (assign (.Name y py) env)) (Q := fun _ s' => Q .next s') rfl hs hclos hkind hnames h) (fun _ s' hq => wpAny_pure (wpAny_pure hq)) fun _ _ e => e)
theorem enum_bytes {elt iter : PySem.Expr} {x₁ x₂ : Str} {pa pb tp : Pos} {kk : Nat} {scope : Scope} {cl : List (Str × Addr)} {pos : Pos} {CP : Value → Addr → Result → Shared → Prop} {b : Array UInt8} {t : Tok} {news : Led}
    (hh : A.handled = none) (hsz : b.size ≤ sizeLine) (hcell : ∀ y ∈ scope.names, y.2 ≠ .cell) (hkind : scope.kind = .function) (hxa : scope.names.lookup x₁ = some .local) (hxb : scope.names.lookup x₂ = some .local) (hab : ¬ x₁ = x₂)
    (F : Fr h₀ L s.heap m) (N : News h₀ L s.heap news)
    (J : Nat → List Value → Led → Prop) (h0 : J 0 [] news)
    (turn : ∀ i c t₁ t₂ ys nw I oI I₂ oI₂ C oC D m₂ h tk (s₂ : Shared) (E' : Value → Shared → Prop), b[i]? = some c → J i ys nw → NsObj oC m₂ → m₂ x₁ = some (nv i t₁) → m₂ x₂ = some (nv c.toNat t₂) → Fr h₀ L h m → News h₀ L h ((I, oI) :: (I₂, oI₂) :: (C, oC) :: (D, lst ys) :: nw) → Off4 I I₂ C D nw →
      wpAny (model prog w) A (eval elt (compEnvC scope cl C env)) (fun y s' => Halt (EndP h₀ L m { s₂ with heap := h, toks := tk } I oI I₂ oI₂ C oC D (lst ys) (fun y nw' => J (i + 1) (ys ++ [y]) nw') y s')) E' { s₂ with heap := h, toks := tk })
    (fin : ∀ ys nw, J b.size ys nw → Back h₀ L m s CP ys nw) :
    wpAny (model prog w) A (call (.type "enumerate") [.bytes b t]) (fun xv s₁ => PairBlock prog w A env elt iter x₁ x₂ pa pb tp kk scope cl pos CP E xv s₁) E s := by
  have hLs : L < s.heap.objs.size := F.ns.lt
  refine call_enumerate_bytes fun h' hE hI hsz' hk => ?_
  unfold PairBlock CompBlock
  refine wpAny_pyIter_enum hE ?_
  have W := KTurns.ofWalksU (elts := [.Name x₁ pa, .Name x₂ pb]) (k := kk) (pos := tp) (WalksT.enumerateD (prog := prog) (w := w) (A := A) (Draws.of_in1 (draws_bytes (A := A.in1.in1) hh s.heap.objs.size b t)) (s.heap.objs.size + 1) (Nat.succ_ne_self _) (by simp) (by simp)).toU
  refine mp_block (s₂ := { s with heap := h' }) (V := fun i x y => ∃ c t₁ t₂, b[i]? = some c ∧ x = nv i t₁ ∧ y = nv c.toNat t₂) (keep := []) W ?_ hh hsz (by simp) (by simp) ?_ ?_ ?_ ⟨⟨_, hE⟩, hI⟩ ?_ hcell hkind hxa hxb hab (F.keeps hk) (N.grown hk) (ktu_new F (Nat.le_add_right _ _)) (ktu_new F (Nat.le_refl _)) ?_ (Nat.succ_ne_self _) ?_ J h0 (fun _ _ _ _ p hp => nomatch hp) ?_ ?_
  · rintro i v h ⟨T, vals, rfl, ⟨t₁, x, ⟨c, u, hc, rfl⟩, rfl⟩, hT⟩
    exact ⟨T, _, _, rfl, ⟨c, t₁, u, hc, rfl, rfl⟩, hT⟩
  · intro c hc
    have hc' : c = s.heap.objs.size + 1 ∨ c = s.heap.objs.size := by simpa using hc
    show c < h'.objs.size
    rw [hsz']
    refine ltN ?_
    rcases hc' with e | e <;> (rw [e]; omega)
  · intro c hc _
    have hc' : c = s.heap.objs.size + 1 ∨ c = s.heap.objs.size := by simpa using hc
    rcases hc' with e | e
    · exact .inl e
    · exact .inr (.inl e)
  · rintro i h ⟨⟨old, he⟩, o, ho, _⟩
    exact ⟨⟨_, he⟩, o, ho⟩
  · rintro h ⟨⟨old, he⟩, _⟩ Q' E' s' rfl hq
    exact wpAny_pyIter_enum he hq
  · intro hm
    have hc' : L = s.heap.objs.size + 1 ∨ L = s.heap.objs.size := by simpa using hm
    rcases hc' with e | e
    · exact ktu_ne 1 hLs e
    · exact Nat.ne_of_lt hLs e
  · intro p hp
    have hlp := Heap.lt_size (N p hp).1
    exact ⟨ktu_ne 1 hlp, Nat.ne_of_lt hlp⟩
  · rintro i x y ys nw oI oI₂ C oC D m₂ h tk E' hi ⟨c, t₁, t₂, hc, rfl, rfl⟩ hJ hC h1 h2 F₁ N₁ off
    exact turn i c t₁ t₂ ys nw _ oI _ oI₂ C oC D m₂ h tk _ E' hc hJ hC h1 h2 F₁ N₁ off
  · intro D C h tk m' ys nw F' N' o1 hn hC₀ hD₀ hCL hDL hCD offC hJ
    exact fin ys nw hJ D C h tk m' F' N' o1 hn hC₀ hD₀ hCL hDL hCD offC
theorem enum_list {elt iter : PySem.Expr} {x₁ x₂ : Str} {pa pb tp : Pos} {kk : Nat} {scope : Scope} {cl : List (Str × Addr)} {pos : Pos} {CP : Value → Addr → Result → Shared → Prop} {l : Addr} {vs : List Value} {k : Nat} {news : Led}
    (hh : A.handled = none) (hsz : vs.length ≤ sizeLine) (hm : (l, listOf vs.toArray k) ∈ news) (hcell : ∀ y ∈ scope.names, y.2 ≠ .cell) (hkind : scope.kind = .function) (hxa : scope.names.lookup x₁ = some .local) (hxb : scope.names.lookup x₂ = some .local) (hab : ¬ x₁ = x₂)
    (F : Fr h₀ L s.heap m) (N : News h₀ L s.heap news)
    (J : Nat → List Value → Led → Prop) (h0 : J 0 [] news) (hJ : ∀ i ys nw, J i ys nw → (l, listOf vs.toArray k) ∈ nw)
    (turn : ∀ i v t₁ ys nw I oI I₂ oI₂ C oC D m₂ h tk (s₂ : Shared) (E' : Value → Shared → Prop), vs[i]? = some v → J i ys nw → NsObj oC m₂ → m₂ x₁ = some (nv i t₁) → m₂ x₂ = some v → Fr h₀ L h m → News h₀ L h ((I, oI) :: (I₂, oI₂) :: (C, oC) :: (D, lst ys) :: nw) → Off4 I I₂ C D nw →
      wpAny (model prog w) A (eval elt (compEnvC scope cl C env)) (fun y s' => Halt (EndP h₀ L m { s₂ with heap := h, toks := tk } I oI I₂ oI₂ C oC D (lst ys) (fun y nw' => J (i + 1) (ys ++ [y]) nw') y s')) E' { s₂ with heap := h, toks := tk })
    (fin : ∀ ys nw, J vs.length ys nw → Back h₀ L m s CP ys nw) :
    wpAny (model prog w) A (call (.type "enumerate") [.ref l]) (fun xv s₁ => PairBlock prog w A env elt iter x₁ x₂ pa pb tp kk scope cl pos CP E xv s₁) E s := by
  have hLs : L < s.heap.objs.size := F.ns.lt
  have hax := N _ hm
  have hl : s.heap.IsList l vs.toArray := ⟨_, hax.1, rfl, k, rfl⟩
  have hlt : l < s.heap.objs.size := Heap.lt_size hax.1
  refine call_enumerate_list hl fun h' hE hI hsz' hk => ?_
  unfold PairBlock CompBlock
  refine wpAny_pyIter_enum hE ?_
  have W := KTurns.ofWalksU (elts := [.Name x₁ pa, .Name x₂ pb]) (k := kk) (pos := tp) (WalksT.enumerate (prog := prog) (w := w) (A := A) hh (s.heap.objs.size + 1) s.heap.objs.size l (Nat.succ_ne_self _) (ktu_ne 1 hlt) (Nat.ne_of_lt hlt) vs.toArray).toU
  rw [List.size_toArray] at W
  refine mp_block (s₂ := { s with heap := h' }) (V := fun i x y => ∃ t₁, vs[i]? = some y ∧ x = nv i t₁) (keep := [(l, listOf vs.toArray k)]) W ?_ hh hsz (by simp) (by simp) ?_ ?_ ?_ ⟨⟨_, hE⟩, hI, hl.at fun o e => hk l o e⟩ ?_ hcell hkind hxa hxb hab (F.keeps hk) (N.grown hk) (ktu_new F (Nat.le_add_right _ _)) (ktu_new F (Nat.le_refl _)) ?_ (Nat.succ_ne_self _) ?_ J h0 (fun i ys nw h p hp => by rw [List.mem_singleton.mp hp]; exact hJ i ys nw h) ?_ ?_
  · rintro i v h ⟨T, vals, rfl, ⟨t₁, x, hx, rfl⟩, hT⟩
    exact ⟨T, _, _, rfl, ⟨t₁, by simpa using hx, rfl⟩, hT⟩
  · intro c hc
    have hc' : c = s.heap.objs.size + 1 ∨ c = s.heap.objs.size ∨ c = l := by simpa using hc
    show c < h'.objs.size
    rw [hsz']
    have hlt' := ltN hlt
    refine ltN ?_
    rcases hc' with e | e | e <;> (rw [e]; omega)
  · intro c hc _
    have hc' : c = s.heap.objs.size + 1 ∨ c = s.heap.objs.size ∨ c = l := by simpa using hc
    rcases hc' with e | e | e
    · exact .inl e
    · exact .inr (.inl e)
    · exact .inr (.inr ⟨_, by rw [e]; exact List.mem_cons_self⟩)
  · rintro i h ⟨⟨old, he⟩, ⟨o, ho, _⟩, _⟩
    exact ⟨⟨_, he⟩, o, ho⟩
  · rintro h ⟨⟨old, he⟩, _⟩ Q' E' s' rfl hq
    exact wpAny_pyIter_enum he hq
  · intro hm'
    have hc' : L = s.heap.objs.size + 1 ∨ L = s.heap.objs.size ∨ L = l := by simpa using hm'
    rcases hc' with e | e | e
    · exact ktu_ne 1 hLs e
    · exact Nat.ne_of_lt hLs e
    · exact hax.2.1 e.symm
  · intro p hp
    have hlp := Heap.lt_size (N p hp).1
    exact ⟨ktu_ne 1 hlp, Nat.ne_of_lt hlp⟩
  · rintro i x y ys nw oI oI₂ C oC D m₂ h tk E' hi ⟨t₁, hx, rfl⟩ hJ hC h1 h2 F₁ N₁ off
    exact turn i y t₁ ys nw _ oI _ oI₂ C oC D m₂ h tk _ E' hx hJ hC h1 h2 F₁ N₁ off
  · intro D C h tk m' ys nw F' N' o1 hn hC₀ hD₀ hCL hDL hCD offC hJ
    exact fin ys nw hJ D C h tk m' F' N' o1 hn hC₀ hD₀ hCL hDL hCD offC
end
end
section
open PySem PySem.W PyProof.Rows PySem.Spec PySem.Calls PyProof.Rows.LCg
set_option maxRecDepth 100000
set_option maxHeartbeats 2000000
section
variable {prog : Program} {w : World} {A : Around} {E : Value → Shared → Prop} {s : Shared} {h₀ : Heap} {L : Addr} {m : Str → Option Value} {env : Env}

theorem mp1_block {elt iter : PySem.Expr} {a b : Str} {pa pb tp : Pos} {kk : Nat} {scope : Scope} {cl : List (Str × Addr)} {pos : Pos} {s₂ : Shared} {I : Addr} {fp : List Addr} {n : Nat} {P Md : Nat → Value → Heap → Prop} {St : Nat → Heap → Prop} {keep : Led} {V : Nat → Value → Value → Prop} {news : Led} {RR : Value → Addr → Result → Shared → Prop}
    (W : KTurns prog w A (.Tuple [.Name a pa, .Name b pb] kk tp) I fp [I] n P Md St) (hP : ∀ i v h, P i v h → ∃ T x y, v = .ref T ∧ V i x y ∧ h.IsTuple T #[x, y])
    (hh : A.handled = none) (hsz : n ≤ sizeLine) (hI : I ∈ fp) (hfpl : ∀ c ∈ fp, c < s₂.heap.objs.size) (hfp : ∀ c ∈ fp, h₀.get? c = none → c = I ∨ ∃ o, (c, o) ∈ keep)
    (hobj : ∀ i h, St i h → ∃ o, h.get? I = some o) (hst : St 0 s₂.heap) (hself : ∀ h, St 0 h → ∀ (Q : Value → Shared → Prop) (E : Value → Shared → Prop) (s : Shared), s.heap = h → Q (.ref I) s → wpAny (model prog w) A (pyIter (.ref I)) Q E s)
    (hcell : ∀ y ∈ scope.names, y.2 ≠ .cell) (hkind : scope.kind = .function) (hxa : scope.names.lookup a = some .local) (hxb : scope.names.lookup b = some .local) (hab : ¬ a = b)
    (F : Fr h₀ L s₂.heap m) (N : News h₀ L s₂.heap news) (hI₀ : h₀.get? I = none) (hLfp : L ∉ fp) (off : ∀ p ∈ news, p.1 ≠ I)
    (J : Nat → List Value → Led → Prop) (h0 : J 0 [] news) (hJ : ∀ i ys nw, J i ys nw → ∀ p ∈ keep, p ∈ nw)
    (turn : ∀ i x y ys nw oI C oC D m₂ h tk (E' : Value → Shared → Prop), i < n → V i x y → J i ys nw → NsObj oC m₂ → m₂ a = some x → m₂ b = some y → Fr h₀ L h m → News h₀ L h ((I, oI) :: (C, oC) :: (D, lst ys) :: nw) → Off3 I C D nw → ((@Ne Nat I C) ∧ (@Ne Nat I D) ∧ (@Ne Nat C D)) →
      wpAny (model prog w) A (eval elt (compEnvC scope cl C env)) (fun y s' => Halt (CompEnd h₀ L m { s₂ with heap := h, toks := tk } I oI C oC D (lst ys) (fun _ => True) (fun y nw' => J (i + 1) (ys ++ [y]) nw') y s')) E' { s₂ with heap := h, toks := tk })
    (hRR : ∀ D C h tk m' ys nw, Fr h₀ L h m → News h₀ L h ((D, lst ys) :: nw) → Off1 D nw → h.Ns C m' → h₀.get? C = none → h₀.get? D = none → C ≠ L → D ≠ L → C ≠ D → (∀ p ∈ nw, p.1 ≠ C) → J n ys nw → RR (.ref D) C (.ok .next) { s₂ with heap := h, toks := tk }) :
    wpAny (model prog w) A (newList []) (fun acc s₃ => wpAny (model prog w) A (newFunctionEnv scope env.globals cl [] env.qual none .none (some env)) (fun cenv s₄ =>
      codeAny (model prog w) A (.compStart (.ListComp elt [⟨.Tuple [.Name a pa, .Name b pb] kk tp, iter, [], 0⟩] scope pos) 0 (.ref I) acc { cenv with scope := relabel scope env }) (RR acc cenv.locals) s₄) E s₃) E s₂ := by
  refine wpAny_newObj_type (wpAny_newFunctionEnv hcell (by intro y hy; simp at hy) (fun h₁ hns₁ hsb₁ => ?_) hkind)
  dsimp only at hns₁ hsb₁ ⊢
  generalize hH2 : s₂.heap.push { cls := .type "list", dict := none, data := .seq ([] : List Value).toArray } = H2 at hns₁ hsb₁ ⊢
  have hC : H2.objs.size = s₂.heap.objs.size + 1 := by rw [← hH2, Heap.size_push]
  have hDC : s₂.heap.objs.size ≠ H2.objs.size := by rw [hC]; exact Nat.ne_of_lt (Nat.lt_succ_self _)
  have below : ∀ b, b < s₂.heap.objs.size → b ≠ H2.objs.size ∧ b ≠ s₂.heap.objs.size := fun b hb => ⟨by rw [hC]; exact Nat.ne_of_lt (Nat.lt_succ_of_lt hb), Nat.ne_of_lt hb⟩
  have old : ∀ b o, s₂.heap.get? b = some o → h₁.get? b = some o := fun b o e => hsb₁.extBut b o (below b (Heap.lt_size e)).1 (Heap.get?_push_of_some _ (hH2 ▸ Heap.get?_push_of_some _ e))
  have hacc : h₁.get? s₂.heap.objs.size = some (lst []) := hsb₁.extBut _ _ hDC (Heap.get?_push_of_some _ (hH2 ▸ Heap.get?_push_size _ rfl))
  have hst₁ : St 0 h₁ := W.frame _ _ _ hst fun b _ o e => old b o e
  have fresh : ∀ a, s₂.heap.objs.size ≤ a → s₂.heap.get? a = none := fun a ha => by
    cases e : s₂.heap.get? a with
    | none => rfl
    | some o' => exact absurd (Heap.lt_size e) (Nat.not_lt.mpr ha)
  have fresh₀ : ∀ a, s₂.heap.objs.size ≤ a → h₀.get? a = none := fun a ha => by
    cases e : h₀.get? a with
    | none => rfl
    | some o' => have := F.keep a o' e; rw [fresh a ha] at this; cases this
  have hD₀ : h₀.get? s₂.heap.objs.size = none := fresh₀ _ (Nat.le_refl _)
  have hC₀ : h₀.get? H2.objs.size = none := fresh₀ _ (by rw [hC]; exact Nat.le_succ _)
  have hLlt : L < s₂.heap.objs.size := F.ns.lt
  have hDL : s₂.heap.objs.size ≠ L := Ne.symm (below L hLlt).2
  have hCL : H2.objs.size ≠ L := Ne.symm (below L hLlt).1
  have fpC : ∀ c ∈ fp, c ≠ H2.objs.size := fun c hc => (below c (hfpl c hc)).1
  have fpD : ∀ c ∈ fp, c ≠ s₂.heap.objs.size := fun c hc => (below c (hfpl c hc)).2
  have off₀ : ∀ p ∈ news, p.1 ≠ I ∧ p.1 ≠ H2.objs.size ∧ p.1 ≠ s₂.heap.objs.size := fun p hp => ⟨off p hp, (below _ (Heap.lt_size (N p hp).1)).1, (below _ (Heap.lt_size (N p hp).1)).2⟩
  have hIL : L ≠ I := fun e => hLfp (e ▸ hI)
  have notin : ∀ c : Addr, c ≠ I → c ∉ [I] := fun c h1 hm => h1 (List.mem_singleton.mp hm)
  have based : ∀ c o, h₀.get? c = some o → c ∉ [I] ∧ c ≠ H2.objs.size ∧ c ≠ s₂.heap.objs.size := fun c o e =>
    ⟨notin c (fun q => by rw [q, hI₀] at e; cases e), (fun q => by rw [q, hC₀] at e; cases e), (fun q => by rw [q, hD₀] at e; cases e)⟩
  have loop : ∀ s₃ : Shared, s₃ = { s₂ with heap := h₁, toks := s₂.toks + ([] : List (Str × Value)).length } →
      codeAny (model prog w) A (.compLoop (.ListComp elt [⟨.Tuple [.Name a pa, .Name b pb] kk tp, iter, [], 0⟩] scope pos) 0 (.ref I) (.ref s₂.heap.objs.size) (compEnvC scope cl H2.objs.size env))
        (RR (.ref s₂.heap.objs.size) H2.objs.size) s₃ := by
    rintro s₃ rfl
    refine kcp_loop
      (fun k s' => ∃ h' tk i ys m' nw, s' = { s₂ with heap := h', toks := tk } ∧ i ≤ n ∧ k = n + 1 - i ∧ ys.length = i ∧ St i h' ∧ Fr h₀ L h' m ∧ h'.Ns H2.objs.size m' ∧
        News h₀ L h' ((s₂.heap.objs.size, lst ys) :: nw) ∧ (∀ p ∈ nw, p.1 ≠ I ∧ p.1 ≠ H2.objs.size ∧ p.1 ≠ s₂.heap.objs.size) ∧ J i ys nw) ?_ (n + 1)
      ⟨h₁, _, 0, [], _, news, rfl, Nat.zero_le _, rfl, rfl, hst₁, F.keeps old, hns₁, fun p hp => ?_, off₀, h0⟩
    · rintro k s' ⟨h', tk, i, ys, m', nw, rfl, hi, rfl, hyl, hst', F', hn', N', off', hJ'⟩
      by_cases hlt : i < n
      · refine W.item i _ _ _ hlt hst' fun v h₂ tk₂ hMd hk₂ => ?_
        refine W.go i v _ _ _ hMd fun h₃ hPv hst₃ hk₃ => ?_
        obtain ⟨T, x, y, rfl, hV, hT⟩ := hP i v _ hPv
        have up₃ : ∀ c o, c ∉ [I] → h'.get? c = some o → h₃.get? c = some o := fun c o hc e => hk₃ c o hc (hk₂ c o hc e)
        have hCw : H2.objs.size ∉ [I] := notin _ (Ne.symm (fpC I hI))
        have hDw : s₂.heap.objs.size ∉ [I] := notin _ (Ne.symm (fpD I hI))
        have hLw : L ∉ [I] := notin _ hIL
        refine kcp_assign (env := compEnvC scope cl H2.objs.size env) hh hT (lookup_relabel_local hxa) (lookup_relabel_local hxb) (by simp [compEnvC, relabel, hkind]) (hn'.at' fun o e => up₃ _ o hCw e) fun h₄ tk₄ hn₄ hs₄ => ?_
        have up : ∀ c o, c ∉ [I] → c ≠ H2.objs.size → h'.get? c = some o → h₄.get? c = some o := fun c o h1 h2 e => hs₄ c o h2 (up₃ c o h1 e)
        have hst₄ : St (i + 1) h₄ := W.frame _ _ _ hst₃ fun c hc o e => hs₄ c o (fpC c hc) e
        obtain ⟨oI, heI⟩ := hobj _ _ hst₄
        obtain ⟨oC, heC, hoC⟩ := ns_obj hn₄
        have F₄ : Fr h₀ L h₄ m := ⟨F'.ns.at' fun o e => up _ o hLw (Ne.symm hCL) e, fun c o e => up c o (based c o e).1 (based c o e).2.1 (F'.keep c o e), F'.above⟩
        have N₄ : News h₀ L h₄ ((I, oI) :: (H2.objs.size, oC) :: (s₂.heap.objs.size, lst ys) :: nw) := fun q hq => by
          rcases List.mem_cons.mp hq with rfl | hq
          · exact ⟨heI, Ne.symm hIL, hI₀⟩
          · rcases List.mem_cons.mp hq with rfl | hq
            · exact ⟨heC, hCL, hC₀⟩
            · have z := N' q hq
              refine ⟨up _ _ ?_ ?_ z.1, z.2⟩
              · rcases List.mem_cons.mp hq with rfl | hq
                · exact hDw
                · exact notin _ (off' q hq).1
              · rcases List.mem_cons.mp hq with rfl | hq
                · exact hDC
                · exact (off' q hq).2.1
        refine wpAny_mono (turn i x y ys nw oI H2.objs.size oC s₂.heap.objs.size _ h₄ _ _ hlt hV hJ' hoC (by simp [hab]) (by simp) F₄ N₄ (Off3.of off') ⟨fpC I hI, fpD I hI, Ne.symm hDC⟩) (fun z s₅ h₅ => ?_) fun _ _ e => e
        obtain ⟨h₅, tk₅, nw₅, rfl, F₅, N₅, off₅o, _, hJ₅⟩ := h₅
        have off₅ := off₅o.mem
        have zI := (N₅ (I, oI) List.mem_cons_self).1
        have zC := (N₅ (H2.objs.size, oC) (List.mem_cons_of_mem _ List.mem_cons_self)).1
        have zD := (N₅ (s₂.heap.objs.size, lst ys) (List.mem_cons_of_mem _ (List.mem_cons_of_mem _ List.mem_cons_self))).1
        have N₅' : News h₀ L h₅ nw₅ := fun q hq => N₅ q (List.mem_cons_of_mem _ (List.mem_cons_of_mem _ (List.mem_cons_of_mem _ hq)))
        have hst₅ : St (i + 1) h₅ := W.frame _ _ _ hst₄ fun c hc o e => by
          cases hb : h₀.get? c with
          | some o' =>
            have h1 := F₄.keep c o' hb
            rw [e] at h1
            rw [Option.some.inj h1]
            exact F₅.keep c o' hb
          | none =>
            rcases hfp c hc hb with rfl | ⟨o', ho'⟩
            · rw [heI] at e; rw [← Option.some.inj e]; exact zI
            · have h1 := (N₄ _ (List.mem_cons_of_mem _ (List.mem_cons_of_mem _ (List.mem_cons_of_mem _ (hJ _ _ _ hJ' _ ho'))))).1
              have h2 := (N₅' _ (hJ _ _ _ hJ₅ _ ho')).1
              have h3 : o' = o := Option.some.inj (h1.symm.trans e)
              rw [← h3]; exact h2
        refine append_at (hsz := by show ys.toArray.size ≤ sizeLine; rw [List.size_toArray, hyl]; exact Nat.le_trans hi hsz) zD fun h₆ hs₆ hD₆ => ?_
        refine ⟨n + 1 - (i + 1), by omega, h₆, tk₅, i + 1, ys ++ [z], _, nw₅, rfl, hlt, rfl, by rw [List.length_append, List.length_singleton, hyl], W.frame _ _ _ hst₅ fun c hc o e => hs₆.extBut c o (fpD c hc) e, F₅.change hs₆ hDL hD₀,
          (hoC.ns zC).sameBut hs₆ (Ne.symm hDC), fun q hq => ?_, off₅, hJ₅⟩
        rcases List.mem_cons.mp hq with rfl | hq
        · exact ⟨hD₆.trans (congrArg some (lst_snoc ys z)), hDL, hD₀⟩
        · exact ⟨hs₆.extBut _ _ (off₅ q hq).2.2 (N₅' q hq).1, (N₅' q hq).2⟩
      · have hin : i = n := Nat.le_antisymm hi (Nat.not_lt.mp hlt)
        subst hin
        refine W.done _ _ _ hst' fun h₂ tk₂ hk₂ => ?_
        have hLw : L ∉ [I] := notin _ hIL
        have hCw : H2.objs.size ∉ [I] := notin _ (Ne.symm (fpC I hI))
        have hDw : s₂.heap.objs.size ∉ [I] := notin _ (Ne.symm (fpD I hI))
        exact hRR _ _ h₂ tk₂ _ ys nw ⟨F'.ns.at' fun o e => hk₂ _ o hLw e, fun c o e => hk₂ c o (based c o e).1 (F'.keep c o e), F'.above⟩ (fun p hp => by
          have z := N' p hp
          refine ⟨hk₂ _ _ ?_ z.1, z.2⟩
          rcases List.mem_cons.mp hp with rfl | hp
          · exact hDw
          · exact notin _ (off' p hp).1) (by
          have : ∀ l : Led, (∀ p ∈ l, p.1 ≠ s₂.heap.objs.size) → Off1 s₂.heap.objs.size l := by
            intro l
            induction l with
            | nil => intro _; trivial
            | cons q r ih => intro hq; exact ⟨hq q List.mem_cons_self, ih fun p hp => hq p (List.mem_cons_of_mem _ hp)⟩
          exact this nw fun p hp => (off' p hp).2.2) (hn'.at' fun o e => hk₂ _ o hCw e) hC₀ hD₀ hCL hDL (Ne.symm hDC) (fun p hp => (off' p hp).2.1) hJ'
    · rcases List.mem_cons.mp hp with rfl | hp
      · exact ⟨hacc, hDL, hD₀⟩
      · exact ⟨old _ _ (N p hp).1, (N p hp).2⟩
  exact codeAny_compStart_list (loop _ rfl) (hself _ hst₁ _ _ _ rfl (loop _ rfl))

/-- a pair as it lies -/
abbrev pairT (x y : Value) (n : Nat) : Obj := { cls := .type "tuple", data := .seq #[x, y] n }
/-- a row: where it lies, its two values -/
structure Row where
  at' : Addr
  x : Value
  y : Value
  n : Nat
abbrev Row.led (r : Row) : Addr × Obj := (r.at', pairT r.x r.y r.n)
theorem rows_list {elt iter : PySem.Expr} {x₁ x₂ : Str} {pa pb tp : Pos} {kk : Nat} {scope : Scope} {cl : List (Str × Addr)} {pos : Pos} {CP : Value → Addr → Result → Shared → Prop} {l : Addr} {vs : List Value} {k : Nat} {rs : List Row} {news : Led}
    (hh : A.handled = none) (hv : vs = rs.map fun r => .ref r.at') (hsz : rs.length ≤ sizeLine) (hm : (l, listOf vs.toArray k) ∈ news) (hr : ∀ r ∈ rs, r.led ∈ news) (hcell : ∀ y ∈ scope.names, y.2 ≠ .cell) (hkind : scope.kind = .function) (hxa : scope.names.lookup x₁ = some .local) (hxb : scope.names.lookup x₂ = some .local) (hab : ¬ x₁ = x₂)
    (F : Fr h₀ L s.heap m) (N : News h₀ L s.heap news)
    (J : Nat → List Value → Led → Prop) (h0 : J 0 [] news) (hJ : ∀ i ys nw, J i ys nw → (l, listOf vs.toArray k) ∈ nw ∧ ∀ r ∈ rs, r.led ∈ nw)
    (turn : ∀ i (r : Row) ys nw I oI C oC D m₂ h tk (s₂ : Shared) (E' : Value → Shared → Prop), rs[i]? = some r → J i ys nw → NsObj oC m₂ → m₂ x₁ = some r.x → m₂ x₂ = some r.y → Fr h₀ L h m → News h₀ L h ((I, oI) :: (C, oC) :: (D, lst ys) :: nw) → Off3 I C D nw → ((@Ne Nat I C) ∧ (@Ne Nat I D) ∧ (@Ne Nat C D)) →
      wpAny (model prog w) A (eval elt (compEnvC scope cl C env)) (fun y s' => Halt (CompEnd h₀ L m { s₂ with heap := h, toks := tk } I oI C oC D (lst ys) (fun _ => True) (fun y nw' => J (i + 1) (ys ++ [y]) nw') y s')) E' { s₂ with heap := h, toks := tk })
    (fin : ∀ ys nw, J rs.length ys nw → Back h₀ L m s CP ys nw) :
    PairBlock prog w A env elt iter x₁ x₂ pa pb tp kk scope cl pos CP E (.ref l) s := by
  have hLs : L < s.heap.objs.size := F.ns.lt
  have hax := N _ hm
  have hl : s.heap.IsList l vs.toArray := ⟨_, hax.1, rfl, k, rfl⟩
  have hlt : l < s.heap.objs.size := Heap.lt_size hax.1
  have hne : l ≠ s.heap.objs.size := Nat.ne_of_lt hlt
  have hlen : vs.length = rs.length := by rw [hv, List.length_map]
  have hrn : ∀ r ∈ rs, r.at' ≠ s.heap.objs.size := fun r h => Nat.ne_of_lt (Heap.lt_size (N _ (hr r h)).1)
  unfold PairBlock CompBlock
  refine wpAny_pyIter_list hl ?_
  have W0 := Walks.list (prog := prog) (w := w) hh s.heap.objs.size l hne vs.toArray
  have e : vs.toArray.size = rs.length := (List.size_toArray).trans hlen
  rw [e] at W0
  have W : KTurns prog w A (.Tuple [.Name x₁ pa, .Name x₂ pb] kk tp) s.heap.objs.size (s.heap.objs.size :: l :: rs.map (·.at')) [s.heap.objs.size] rs.length
      (fun i v h => vs.toArray[i]? = some v ∧ ∀ r ∈ rs, h.get? r.at' = some r.led.2)
      (fun i v h => (vs.toArray[i]? = some v) ∧ (h.IsListIter s.heap.objs.size l (i + 1) ∧ h.IsList l vs.toArray) ∧ ∀ r ∈ rs, h.get? r.at' = some r.led.2)
      (fun i h => (h.IsListIter s.heap.objs.size l i ∧ h.IsList l vs.toArray) ∧ ∀ r ∈ rs, h.get? r.at' = some r.led.2) :=
    { sub := fun b hb => by rw [List.mem_singleton.mp hb]; exact List.mem_cons_self
      frame := fun i h h' st hk => ⟨W0.frame i h h' st.1 fun b hb o e => hk b (by
          rcases List.mem_cons.mp hb with rfl | hb
          · exact List.mem_cons_self
          · rw [List.mem_singleton.mp hb]; exact List.mem_cons_of_mem _ List.mem_cons_self) o e,
        fun r hr' => hk _ (List.mem_cons_of_mem _ (List.mem_cons_of_mem _ (List.mem_map.mpr ⟨r, hr', rfl⟩))) _ (st.2 r hr')⟩
      item := fun i s' Q E' hi st hQ => W0.item i s' Q E' hi st.1 fun v h' tk hP st' hk => hQ v h' tk ⟨hP, st', fun r hr' => hk _ _ (by rw [List.mem_singleton]; exact hrn r hr') (st.2 r hr')⟩ hk
      go := fun i v s' Q E' hm' hQ => letGo_listiter hm'.2.1.1 (hQ s'.heap ⟨hm'.1, hm'.2.2⟩ hm'.2 fun _ _ _ e => e)
      done := fun s' Q E' st hQ => W0.done s' Q E' st.1 hQ }
  refine mp1_block (s₂ := { s with heap := _ }) (V := fun i x y => ∃ r, rs[i]? = some r ∧ x = r.x ∧ y = r.y) (keep := (l, listOf vs.toArray k) :: rs.map Row.led) W ?_ hh hsz (by simp) ?_ ?_ ?_ ⟨⟨⟨_, Heap.get?_push_size _ rfl, rfl, rfl⟩, hl.push _⟩, fun r h => Heap.get?_push_of_some _ (N _ (hr r h)).1⟩ ?_ hcell hkind hxa hxb hab (F.push _) (fun p hp => ⟨Heap.get?_push_of_some _ (N p hp).1, (N p hp).2⟩) (next_is_new F) ?_ (fun p hp => Nat.ne_of_lt (Heap.lt_size (N p hp).1)) J h0 ?_ ?_ ?_
  · rintro i v h ⟨hvi, hrs⟩
    have hvi' : vs[i]? = some v := by simpa using hvi
    rw [hv, List.getElem?_map] at hvi'
    obtain ⟨r, hri, rfl⟩ := Option.map_eq_some_iff.mp hvi'
    exact ⟨r.at', r.x, r.y, rfl, ⟨r, hri, rfl, rfl⟩, ⟨_, hrs r (List.mem_of_getElem? hri), rfl, r.n, rfl⟩⟩
  · intro c hc
    show c < (s.heap.push _).objs.size
    rw [Heap.size_push]
    rcases List.mem_cons.mp hc with rfl | hc
    · exact Nat.lt_succ_self _
    · rcases List.mem_cons.mp hc with rfl | hc
      · exact Nat.lt_succ_of_lt hlt
      · obtain ⟨r, hr', rfl⟩ := List.mem_map.mp hc
        exact Nat.lt_succ_of_lt (Heap.lt_size (N _ (hr r hr')).1)
  · intro c hc _
    rcases List.mem_cons.mp hc with rfl | hc
    · exact .inl rfl
    · rcases List.mem_cons.mp hc with rfl | hc
      · exact .inr ⟨_, List.mem_cons_self⟩
      · obtain ⟨r, hr', rfl⟩ := List.mem_map.mp hc
        exact .inr ⟨_, List.mem_cons_of_mem _ (List.mem_map.mpr ⟨r, hr', rfl⟩)⟩
  · rintro i h ⟨⟨⟨o, ho, _⟩, _⟩, _⟩
    exact ⟨o, ho⟩
  · rintro h st Q' E' s' rfl hq
    exact W0.self 0 _ _ _ st.1 hq
  · intro hm'
    rcases List.mem_cons.mp hm' with e | hc
    · exact absurd hLs (e ▸ Nat.lt_irrefl _)
    · rcases List.mem_cons.mp hc with e | hc
      · exact hax.2.1 e.symm
      · obtain ⟨r, hr', e⟩ := List.mem_map.mp hc
        exact (N _ (hr r hr')).2.1 e
  · intro i ys nw hJ' p hp
    rcases List.mem_cons.mp hp with rfl | hp
    · exact (hJ i ys nw hJ').1
    · obtain ⟨r, hr', rfl⟩ := List.mem_map.mp hp
      exact (hJ i ys nw hJ').2 r hr'
  · rintro i x y ys nw oI C oC D m₂ h tk E' hi ⟨r, hri, rfl, rfl⟩ hJ' hC h1 h2 F₁ N₁ off ne
    exact turn i r ys nw _ oI C oC D m₂ h tk _ E' hri hJ' hC h1 h2 F₁ N₁ off ne
  · intro D C h tk m' ys nw F' N' o1 hn hC₀ hD₀ hCL hDL hCD offC hJ'
    exact fin ys nw hJ' D C h tk m' F' N' o1 hn hC₀ hD₀ hCL hDL hCD offC

/-- one name over a range with a step -/
theorem blk_range {elt iter : PySem.Expr} {x : Str} {px : Pos} {scope : Scope} {cl : List (Str × Addr)} {pos : Pos} {CP : Value → Addr → Result → Shared → Prop} {r : Addr} {a b c : Int} {t u v : Tok} {n : Nat} {news : Led}
    (hh : A.handled = none) (hr : IsRange s.heap r a b c t u v) (hsm : Builtin.Range.small a b c = true) (hn : Builtin.Range.rangeSize a b c = ((n : Nat) : Int)) (hsz : n ≤ sizeLine) (hcell : ∀ y ∈ scope.names, y.2 ≠ .cell) (hkind : scope.kind = .function) (hx : scope.names.lookup x = some .local)
    (F : Fr h₀ L s.heap m) (N : News h₀ L s.heap news)
    (J : Nat → List Value → Led → Prop) (h0 : J 0 [] news)
    (turn : ∀ i t ys nw I oI C oC D m₂ h tk (s₂ : Shared) (E' : Value → Shared → Prop), i < n → J i ys nw → NsObj oC m₂ → m₂ x = some (.int (a + (i : Int) * c) t) → Fr h₀ L h m → News h₀ L h ((I, oI) :: (C, oC) :: (D, lst ys) :: nw) → Off3 I C D nw → ((@Ne Nat I C) ∧ (@Ne Nat I D) ∧ (@Ne Nat C D)) →
      wpAny (model prog w) A (eval elt (compEnvC scope cl C env)) (fun y s' => Halt (CompEnd h₀ L m { s₂ with heap := h, toks := tk } I oI C oC D (lst ys) (fun _ => True) (fun y nw' => J (i + 1) (ys ++ [y]) nw') y s')) E' { s₂ with heap := h, toks := tk })
    (fin : ∀ ys nw, J n ys nw → Back h₀ L m s CP ys nw) :
    Block1 prog w A env elt iter x px scope cl pos CP E (.ref r) s := by
  unfold Block1 CompBlock
  refine wpAny_pyIter_range hr hsm ?_
  have W : Walks prog w A s.heap.objs.size [s.heap.objs.size] [s.heap.objs.size] n (fun i v => i < n ∧ ∃ t, v = .int (a + i * c) t)
      (fun i h => IsRangeIter h s.heap.objs.size (a + (i : Nat) * c) ((n : Int) - (i : Nat)) c) := (Walks.range hh _ a c n).bound
  refine block_U (s₂ := { s with heap := _ }) (S := fun _ => True) (Fin := fun ys nw => J n ys nw) W hsz (fun i h st => ⟨_, st⟩) ?_ hcell hkind hx (by show IsRangeIter _ _ _ _ _; rw [hn]; simpa using Heap.get?_push_size _ rfl) (fun b hb => ?_)
      (F.keeps fun _ _ e => Heap.get?_push_of_some _ e) (N.grown fun _ _ e => Heap.get?_push_of_some _ e) (Nat.ne_of_lt F.ns.lt) (next_is_new F) (fun p hp => Nat.ne_of_lt (Heap.lt_size (N p hp).1)) trivial ?_ ?_
  · exact fun i h h' o nw st e e' _ _ _ => by
      have st' : h.get? s.heap.objs.size = some _ := st
      show h'.get? s.heap.objs.size = some _
      rw [e', ← e]; exact st'
  · rw [List.mem_singleton.mp hb]
    show s.heap.objs.size < (s.heap.push _).objs.size
    rw [Heap.size_push]; exact Nat.lt_succ_self _
  · refine cu_restJ J h0 ?_ (fun ys nw h => h)
    rintro i v ys nw I oI C oC D m₂ h tk E' hi ⟨_, t, rfl⟩ hJ hC hx' F₁ N₁ off ne
    exact turn i t ys nw I oI C oC D m₂ h tk _ E' hi hJ hC hx' F₁ N₁ off ne
  · intro D C h tk m' ys nw F' N' o1 hn hC₀ hD₀ hCL hDL hCD offC hJ'
    exact fin ys nw hJ' D C h tk m' F' N' o1 hn hC₀ hD₀ hCL hDL hCD offC
/-- one name over a tuple of the ledger, or of the written part -/
theorem blk_tuple {elt iter : PySem.Expr} {x : Str} {px : Pos} {scope : Scope} {cl : List (Str × Addr)} {pos : Pos} {CP : Value → Addr → Result → Shared → Prop} {l : Addr} {vs : List Value} {k : Nat} {news : Led}
    (hh : A.handled = none) (hm : (l, ({ cls := .type "tuple", data := .seq vs.toArray k } : Obj)) ∈ news) (hsz : vs.length ≤ sizeLine) (hcell : ∀ y ∈ scope.names, y.2 ≠ .cell) (hkind : scope.kind = .function) (hx : scope.names.lookup x = some .local)
    (F : Fr h₀ L s.heap m) (N : News h₀ L s.heap news)
    (J : Nat → List Value → Led → Prop) (h0 : J 0 [] news)
    (turn : ∀ i v ys nw I oI C oC D m₂ h tk (s₂ : Shared) (E' : Value → Shared → Prop), vs[i]? = some v → J i ys nw → (l, ({ cls := .type "tuple", data := .seq vs.toArray k } : Obj)) ∈ nw → NsObj oC m₂ → m₂ x = some v → Fr h₀ L h m → News h₀ L h ((I, oI) :: (C, oC) :: (D, lst ys) :: nw) → Off3 I C D nw → ((@Ne Nat I C) ∧ (@Ne Nat I D) ∧ (@Ne Nat C D)) →
      wpAny (model prog w) A (eval elt (compEnvC scope cl C env)) (fun y s' => Halt (CompEnd h₀ L m { s₂ with heap := h, toks := tk } I oI C oC D (lst ys) (fun nw' => (l, ({ cls := .type "tuple", data := .seq vs.toArray k } : Obj)) ∈ nw') (fun y nw' => J (i + 1) (ys ++ [y]) nw') y s')) E' { s₂ with heap := h, toks := tk })
    (hJm : ∀ i ys nw, J i ys nw → (l, ({ cls := .type "tuple", data := .seq vs.toArray k } : Obj)) ∈ nw)
    (fin : ∀ ys nw, J vs.length ys nw → Back h₀ L m s CP ys nw) :
    Block1 prog w A env elt iter x px scope cl pos CP E (.ref l) s := by
  have hax := N _ hm
  have hl : s.heap.IsTuple l vs.toArray := ⟨_, hax.1, rfl, k, rfl⟩
  have hlt : l < s.heap.objs.size := Heap.lt_size hax.1
  have hne : l ≠ s.heap.objs.size := Nat.ne_of_lt hlt
  unfold Block1 CompBlock
  refine wpAny_pyIter_tuple hl ?_
  have W := Walks.tuple (prog := prog) (w := w) hh s.heap.objs.size l hne vs.toArray
  have e : vs.toArray.size = vs.length := List.size_toArray
  rw [e] at W
  refine block_U (s₂ := { s with heap := _ }) (S := fun nw => (l, ({ cls := .type "tuple", data := .seq vs.toArray k } : Obj)) ∈ nw) (Fin := fun ys nw => J vs.length ys nw) W hsz (fun i h st => by obtain ⟨o, e, _⟩ := st.1; exact ⟨o, e⟩) ?_ hcell hkind hx ⟨⟨_, Heap.get?_push_size _ rfl, rfl, rfl⟩, hl.at fun o e => Heap.get?_push_of_some _ e⟩ (fun b hb => ?_)
      (F.keeps fun _ _ e => Heap.get?_push_of_some _ e) (N.grown fun _ _ e => Heap.get?_push_of_some _ e) (Nat.ne_of_lt F.ns.lt) (next_is_new F) (fun p hp => Nat.ne_of_lt (Heap.lt_size (N p hp).1)) hm ?_ ?_
  · exact fun i h h' o nw st e e' _ N' S => ⟨by obtain ⟨o', q, r⟩ := st.1; rw [e] at q; cases q; exact ⟨o, e', r⟩, ⟨_, (N' _ S).1, rfl, k, rfl⟩⟩
  · show b < (s.heap.push _).objs.size
    rw [Heap.size_push]
    rcases List.mem_cons.mp hb with rfl | hb
    · exact Nat.lt_succ_self _
    · rw [List.mem_singleton.mp hb]; exact Nat.lt_succ_of_lt hlt
  · refine cu_restJ J h0 ?_ (fun ys nw h => h)
    intro i v ys nw I oI C oC D m₂ h tk E' hi hv hJ hC hx' F₁ N₁ off ne
    exact turn i v ys nw I oI C oC D m₂ h tk _ E' (by simpa using hv) hJ (hJm _ _ _ hJ) hC hx' F₁ N₁ off ne
  · intro D C h tk m' ys nw F' N' o1 hn hC₀ hD₀ hCL hDL hCD offC hJ'
    exact fin ys nw hJ' D C h tk m' F' N' o1 hn hC₀ hD₀ hCL hDL hCD offC
end
end
section
open PySem PySem.W PyProof.Rows PySem.Spec PySem.Calls
set_option maxRecDepth 100000
set_option maxHeartbeats 2000000
theorem picked_nat (os : List UInt8) (a b : Nat) : KBy.picked os.toArray (some (a : Int)) (some (b : Int)) = ((os.drop a).take (b - a)).toArray := by
  rw [KBc.picked_eq]
  simp only [Option.elim, clipAt_nat, List.size_toArray]
  congr 1
  rcases Nat.le_total a os.length with h | h
  · rw [Nat.min_eq_left h]
    rcases Nat.le_total b os.length with hb | hb
    · rw [Nat.min_eq_left hb]
    · rw [Nat.min_eq_right hb, List.take_of_length_le (by simp), List.take_of_length_le (by simp; omega)]
  · rw [Nat.min_eq_right h, List.drop_of_length_le (Nat.le_refl _), List.drop_of_length_le h]; simp
section
variable {prog : Program} {w : World} {A : Around} {E : Value → Shared → Prop} {s : Shared} {value slice : PySem.Expr} {os : List UInt8} {t ta tb : Tok} {h₀ : Heap} {L : Addr} {m : PySem.Str → Option Value} {news : Led} {a b : Nat} {Q : Value → Shared → Prop}
theorem by_slice (hF : Fr h₀ L s.heap m) (hN : News h₀ L s.heap news) (hz : os.length ≤ 1000)
    (h : ∀ h' t' k, Fr h₀ L h' m → News h₀ L h' news → Q (.bytes ((os.drop a).take (b - a)).toArray t') { s with heap := h', toks := k })
    (hs : subscripted slice false (.bytes os.toArray t) (.ref s.heap.objs.size) = operate [.ref s.heap.objs.size, .bytes os.toArray t] (getItem (.bytes os.toArray t) (.ref s.heap.objs.size)) := by with_unfolding_all rfl)
    (ht : ∀ r, letTemporaryGo value (.bytes os.toArray t) r = pure () := by intro _; with_unfolding_all rfl) :
    wpAny (model prog w) A (subscriptTail value slice (.bytes os.toArray t) (.ref s.heap.objs.size)) Q E { s with heap := s.heap.push { cls := .type "slice", data := .fields #[nv a ta, nv b tb, .none] } } :=
  KBc.slice_K hF hN (rfl : KBw.bInts os.toArray = _) (.int _ _) (.int _ _) (by rw [KBw.ints_length]; simp; omega) (fun h' t' k F N _ => by
    rw [picked_nat]; exact h h' t' k F N) hs ht
theorem by_len (hz : os.length ≤ 1000) (h : ∀ t k, Q (nv os.length t) { s with toks := k }) : wpAny (model prog w) A (call (.builtin "len") [.bytes os.toArray t]) Q E s :=
  KBw.len_K (rfl : KBw.bInts os.toArray = _) (by rw [KBw.ints_length]; simp; omega) (by rw [KBw.ints_length]; exact h _ _)
end
theorem range4 (n : Nat) : Builtin.Range.rangeSize 0 (n : Int) 4 = (((n + 3) / 4 : Nat) : Int) := by
  unfold Builtin.Range.rangeSize
  rw [if_pos (by decide)]
  split <;> omega
theorem small4 (n : Nat) (h : n ≤ 1000) : Builtin.Range.small 0 (n : Int) 4 = true := by
  unfold Builtin.Range.small
  rw [range4, if_pos (show (4 : Int) > 0 by decide)]
  have hq : (n + 3) / 4 ≤ 1000 := by omega
  generalize (n + 3) / 4 = q at hq
  unfold Builtin.Range.rangeFitsLong
  simp only [Bool.and_eq_true, Bool.or_eq_true, decide_eq_true_eq, beq_iff_eq]
  omega
theorem range2 (n : Nat) : Builtin.Range.rangeSize 0 (n : Int) 2 = (((n + 1) / 2 : Nat) : Int) := by
  unfold Builtin.Range.rangeSize
  rw [if_pos (by decide)]
  split <;> omega
theorem small2 (n : Nat) (h : n ≤ 1000) : Builtin.Range.small 0 (n : Int) 2 = true := by
  unfold Builtin.Range.small
  rw [range2, if_pos (show (2 : Int) > 0 by decide)]
  have hq : (n + 1) / 2 ≤ 1000 := by omega
  generalize (n + 1) / 2 = q at hq
  unfold Builtin.Range.rangeFitsLong
  simp only [Bool.and_eq_true, Bool.or_eq_true, decide_eq_true_eq, beq_iff_eq]
  omega
end
section
open PySem PySem.W PyProof.Rows PySem.Spec PySem.Calls
set_option maxRecDepth 100000
set_option maxHeartbeats 1000000
theorem rows_C4_1 : True := by
  w_top off
  k_with_none
  (k_with "ktn_open" => (refine wpAny_call ?_; k_dflt ktr_enter))
  (k_with "ktr_unf" => (unfold Con; refine fillK ?_; k_fill; intro hZZ; clear hZZ))
  (k_with "k_steps" => repeat' (first | (k_unfold; (try dsimp only)) | walk1 | (dsimp only; walk1) | (leave1; walk_say "STEP leave1"; try dsimp only) | fail "no step"))
  (k_with "exec For Tuple Tuple cons nil" => (k_here; (rename Fr _ _ _ _ => lF'); (with_unfolding_all refine' for_any lF' ?_; k_whole)))
  (k_with "binaryOp Mod int int" => (k_here; (with_reducible refine wp_modsub ?hM ?_); (case hM => first | rfl | decide)))
  (k_with "call ref" => (first | (k_here; (with_reducible show wpAny _ _ (call (Value.ref 135) _) _ _ _); k_dflt (refine use_I (by k_asm) (by k_asm) (by k_asm) (by k_asm) (by k_asm) (by first | exact rfl | assumption) (by first | exact True.intro | k_mem | exact ⟨by k_mem, by k_mem⟩) (by ktr_room) (by ktr_units) (con_lturned _ _ _ 25 _ _ (by decide) (by decide) (by decide)) ?_; intros; (try dsimp only); (try k_sweep); (try k_fold))) | (k_here; (with_reducible show wpAny _ _ (call (Value.ref 135) _) _ _ _); k_dflt (refine use_I (by k_asm) (by k_asm) (by k_asm) (by k_asm) (by k_asm) (by first | exact rfl | assumption) (by first | exact True.intro | k_mem | exact ⟨by k_mem, by k_mem⟩) (by ktr_room) (by ktr_units) (con_lturned _ _ _ 24 _ _ (by decide) (by decide) (by decide)) ?_; intros; (try dsimp only); (try k_sweep); (try k_fold))) | (k_here; (with_reducible show wpAny _ _ (call (Value.ref 135) _) _ _ _); k_dflt (refine use_I (by k_asm) (by k_asm) (by k_asm) (by k_asm) (by k_asm) (by first | exact rfl | assumption) (by first | exact True.intro | k_mem | exact ⟨by k_mem, by k_mem⟩) (by ktr_room) (by ktr_units) (con_lturned _ _ _ 20 _ _ (by decide) (by decide) (by decide)) ?_; intros; (try dsimp only); (try k_sweep); (try k_fold))) | (k_here; (with_reducible show wpAny _ _ (call (Value.ref 135) _) _ _ _); k_dflt (refine use_I (by k_asm) (by k_asm) (by k_asm) (by k_asm) (by k_asm) (by first | exact rfl | assumption) (by first | exact True.intro | k_mem | exact ⟨by k_mem, by k_mem⟩) (by ktr_room) (by ktr_units) (con_lturned _ _ _ 16 _ _ (by decide) (by decide) (by decide)) ?_; intros; (try dsimp only); (try k_sweep); (try k_fold)))))
  (k_with "call ref" => (k_here; (with_reducible show wpAny _ _ (call (Value.ref 140) _) _ _ _); k_dflt (refine use_I (by k_asm) (by k_asm) (by k_asm) (by k_asm) (by k_asm) (by first | exact rfl | assumption) (by first | exact True.intro | k_mem | exact ⟨by k_mem, by k_mem⟩) (by ktr_room) (by ktr_units) (con_bothB _ _ _ _ _) ?_; intros; (try dsimp only); (try k_sweep); (try k_fold))))
  (k_with "lcg_off" => first | exact allLt_of (by assumption) | assumption | exact an1 (by assumption) | exact an2 (by assumption) | exact an3 (by assumption) | exact an4 (by assumption) | exact an5 (by assumption) | exact an6 (by assumption) | exact an7 (by assumption) | exact an8 (by assumption) | exact an9 (by assumption) | exact an10 (by assumption) | exact an11 (by assumption) | exact an12 (by assumption) | exact an13 (by assumption) | exact an14 (by assumption) | exact an15 (by assumption) | exact an16 (by assumption) | exact an17 (by assumption) | exact an18 (by assumption) | exact an19 (by assumption) | exact an20 (by assumption) | exact an21 (by assumption) | exact an22 (by assumption) | exact an23 (by assumption) | exact an24 (by assumption))
  trivial
def unhalf (p q : Nat) (x : W4) : W4 :=
  let b := (x.b.rotateLeft q) ^^^ x.c
  let c := x.c - x.d
  let d := (x.d.rotateLeft p) ^^^ x.a
  let a := x.a - b
  ⟨a, b, c, d⟩
def unstir (x : W4) : W4 := unhalf 16 20 (unhalf 24 25 x)
def J4 (y : W4) (m : Str → Option Value) : Prop := (∃ t, m "first" = some (wv y.a t)) ∧ (∃ t, m "second" = some (wv y.b t)) ∧ (∃ t, m "third" = some (wv y.c t)) ∧ (∃ t, m "fourth" = some (wv y.d t))
def stage (x : W4) : Nat → W4
  | 0 => x
  | 1 => unhalf 24 25 x
  | _ => unstir x
theorem con_unstirred (w : World) (x : W4) (st : Addr) (ta tb tc td : Tok) (n : Nat) :
    Con w 147 2 [.ref st] (fun news => (st, tup4 x.a x.b x.c x.d ta tb tc td n) ∈ news) (OutW4 (unstir x)) := by
  ktr_unf
  intro prog p loose mean mg mb dp un gd cn cs a ccd cl outer A₀ base h₀ L m news s Q E B F X N T hk hok hd hu hret
  ktn_open
  k_steps
  (with_reducible rename Fr _ _ _ _ => lF)
  (with_reducible rename News _ _ _ _ => lN)
  k_dflt (refine halt (for_tuple0 (vs := [Value.ref _, Value.ref _]) (by rfl) lF lN (by k_mem) (fun i m => J4 (stage x i) m) ⟨⟨_, rfl⟩, ⟨_, rfl⟩, ⟨_, rfl⟩, ⟨_, rfl⟩⟩ ?_ ?_))
  · intro i v m₁ h tk I oI hv hJ F₁ N₁ off
    obtain ⟨⟨t1, e1⟩, ⟨t2, e2⟩, ⟨t3, e3⟩, ⟨t4, e4⟩⟩ := hJ
    have F₂ := fr_at4 F₁ e1 e2 e3 e4
    clear F₁ lF lN
    rcases i with _ | _ | i
    · simp only [List.getElem?_cons_zero, Option.some.injEq] at hv
      subst hv
      simp only [stage] at F₂
      k_steps
      exact tnext (by k_asm) (by k_asm) _ List.mem_cons_self (fun p hp => List.mem_cons_of_mem _ hp) off ⟨rfl, ⟨_, rfl⟩, ⟨_, rfl⟩, ⟨_, rfl⟩, ⟨_, rfl⟩⟩
    · simp only [List.getElem?_cons_succ, List.getElem?_cons_zero, Option.some.injEq] at hv
      subst hv
      simp only [stage] at F₂
      k_steps
      exact tnext (by k_asm) (by k_asm) _ List.mem_cons_self (fun p hp => List.mem_cons_of_mem _ hp) off ⟨rfl, ⟨_, rfl⟩, ⟨_, rfl⟩, ⟨_, rfl⟩, ⟨_, rfl⟩⟩
    · simp at hv
  · intro m₁ h tk hJ F₁ N₁
    obtain ⟨⟨t1, e1⟩, ⟨t2, e2⟩, ⟨t3, e3⟩, ⟨t4, e4⟩⟩ := hJ
    have F₂ := fr_at4 F₁ e1 e2 e3 e4
    clear F₁ lF lN
    simp only [stage, List.length_cons, List.length_nil] at F₂
    k_steps
    all_goals (refine' endW4 hret ?F9 ?N9 ?m9 ?s9 ?l9 ?x9; (case F9 => k_asm); (case N9 => k_asm); (case m9 => k_mem); (case s9 => kcf_all); (case l9 => lcg_off); (case x9 => rfl))
end
section
open PySem PySem.W PyProof.Rows PySem.Spec PySem.Calls
set_option maxRecDepth 100000
set_option maxHeartbeats 1000000
theorem rows_C5_1 : True := by
  w_top off
  k_with_none
  (k_with "ktn_open" => (refine wpAny_call ?_; k_dflt ktr_enter))
  (k_with "ktr_unf" => (unfold Con; refine fillK ?_; k_fill; intro hZZ; clear hZZ))
  (k_with "k_steps" => repeat' (first | (k_unfold; (try dsimp only)) | walk1 | (dsimp only; walk1) | (leave1; walk_say "STEP leave1"; try dsimp only) | fail "no step"))
  (k_with "eval Constant int" => (k_dflt (refine wn_const ?_)))
  (k_with "binaryOp Mult int int" => (k_here; (with_reducible refine wn_mul ?hb ?_); (case hb => first | exact Or.inl (by omega) | exact Or.inr (by omega))))
  (k_with "binaryOp LShift int int" => (k_here; (with_reducible refine wn_shl ?hb ?hc ?_); (case hb => omega); (case hc => omega)))
  (k_with "eval ListComp" => (k_here; k_dflt (refine comp_E (by with_unfolding_all rfl) (by rfl) (by decide) ?_)))
  (k_with "call type:enumerate" => (refine stopAt ?_))
  trivial
def numT (b : Array UInt8) (j : Nat) : Nat := (b.toList[j]?.getD 0).toNat * 2 ^ (8 * j)
theorem con_number (w : World) (b : Array UInt8) (hb : b.size ≤ 4) (u : Tok) : Con w 51 1 [.bytes b u] none0 (fun r tl => tl = [] ∧ ∃ t, r = nv (num b.toList) t) := by
  ktr_unf
  intro prog p loose mean mg mb dp un gd cn cs a ccd cl outer A₀ base h₀ L m news s Q E B F X N T hk hok hd hu hret
  ktn_open
  k_steps
  (with_reducible rename Fr _ _ _ _ => lF)
  (with_reducible rename News _ _ _ _ => lN)
  refine goOn (wpAny_mono ?_ (fun _ _ h => halt h) (fun _ _ h => h))
  k_dflt (refine enum_bytes (by rfl) (by rw [PySem.sizeLine_eq]; omega) (by decide) (by rfl) (by rfl) (by rfl) (by decide) lF lN (fun i ys nw => nw = _ ∧ IntsAre ys ((List.range i).map fun j => ((numT b j : Nat) : Int))) ⟨rfl, .nil⟩ ?_ ?_)
  · rintro i c t₁ t₂ ys nw I oI I₂ oI₂ C oC D m₂ h tk s₂ E' hc ⟨rfl, hys⟩ hC h1 h2 F₁ N₁ off
    have hi : i < b.size := (Array.getElem?_eq_some_iff.mp hc).1
    have hcc := c.toNat_lt
    clear lF lN
    k_steps
    refine halt ⟨_, _, _, rfl, by k_asm, by k_asm, off, rfl, ?_⟩
    have e : numT b i = c.toNat * 2 ^ (8 * i) := by
      have : b.toList[i]? = some c := by simpa using hc
      rw [numT, this]; rfl
    rw [List.range_succ, List.map_append, List.map_singleton, e]
    exact hys.append (.cons _ _ .nil)
  · rintro ys nw ⟨rfl, hys⟩
    refine back_none fun D h tk F₁ N₁ o1 => ?_
    clear lF lN
    k_steps
    have e : ((List.range b.size).map fun j => ((numT b j : Nat) : Int)).sum = ((num b.toList : Nat) : Int) := by
      rw [sum_cast]
      show (((List.range b.size).map fun j => numT b j).sum : Int) = _
      rw [show b.size = b.toList.length by simp]
      exact congrArg _ (pieceSum_num b.toList)
    rw [e]
    all_goals (refine' end0 hret (by k_asm) (drop ?N9 ?hs9) ⟨rfl, _, rfl⟩; (case N9 => k_asm); (case hs9 => kcf_all))
end
section
open PySem PySem.W PyProof.Rows PySem.Spec PySem.Calls
set_option maxRecDepth 100000
set_option maxHeartbeats 2000000
theorem sz1000 {n : Nat} (h : n ≤ 1000) : n ≤ sizeLine := by rw [PySem.sizeLine_eq]; omega
theorem upd_new {h₀ h h' : Heap} {L D : Addr} {o o' : Obj} {led rest : Led} (N : News h₀ L h led) (hm : (D, o) ∈ led) (hs : Heap.SameBut D h h') (ho : h'.get? D = some o') (hr : ∀ p ∈ rest, p ∈ led) (off : LCg.Off1 D rest) : News h₀ L h' ((D, o') :: rest) := fun p hp => by
  rcases List.mem_cons.mp hp with rfl | hp
  · exact ⟨ho, (N _ hm).2⟩
  · have z := N p (hr p hp)
    exact ⟨(hs.2 _ (off_mem off p hp)).trans z.1, z.2⟩
section
variable {prog : Program} {w : World} {A : Around} {E : Value → Shared → Prop} {s : Shared} {h₀ : Heap} {L l b D : Addr} {m : Str → Option Value} {news rest : Led} {vs ws : List Value} {k k2 : Nat} {value slice : PySem.Expr} {lo hi st : Option Int} {vl vu vk : Value} {zs : List Value} {ops : List Value}

theorem l_is (N : News h₀ L s.heap news) (hm : (l, listOf vs.toArray k) ∈ news) : s.heap.IsList l vs.toArray := ⟨_, (N _ hm).1, rfl, k, rfl⟩
theorem l_copy {Q : Value → Shared → Prop} (F : Fr h₀ L s.heap m) (N : News h₀ L s.heap news) (hm : (l, listOf vs.toArray k) ∈ news) (hz : vs.length ≤ 1000)
    (h : ∀ D c h', Fr h₀ L h' m → News h₀ L h' ((D, listOf vs.toArray c) :: news) → (∀ q ∈ news, q.1 < D) → Q (.ref D) { s with heap := h' }) :
    wpAny (model prog w) A (call (.type "list") [.ref l]) Q E s := list_copyK F N (l_is N hm) h (by simpa using sz1000 hz)
theorem l_add {Q : Value → Shared → Prop} (F : Fr h₀ L s.heap m) (N : News h₀ L s.heap news) (hm : (l, listOf vs.toArray k) ∈ news) (hb : (b, listOf ws.toArray k2) ∈ news) (hz : vs.length + ws.length ≤ 1000)
    (h : ∀ D c h', Fr h₀ L h' m → News h₀ L h' ((D, listOf (vs ++ ws).toArray c) :: news) → (∀ q ∈ news, q.1 < D) → Q (.ref D) { s with heap := h' }) :
    wpAny (model prog w) A (binaryOp .Add (.ref l) (.ref b)) Q E s :=
  add_lists F N (l_is N hm) (l_is N hb) (fun h' F' N' => h _ _ h' F' N' fun q hq => Heap.lt_size (N q hq).1) (sz1000 hz)
theorem repl_fold {α : Type} (x : α) : ∀ n : Nat, ∀ (acc : List α), List.foldl (fun x1 x2 => x1 ++ x2) acc.toArray (List.replicate n #[x]) = (acc ++ List.replicate n x).toArray
  | 0, acc => by simp
  | n + 1, acc => by
    rw [List.replicate_succ, List.foldl_cons, show acc.toArray ++ #[x] = (acc ++ [x]).toArray by simp, repl_fold x n (acc ++ [x]), List.replicate_succ, List.append_assoc]
    rfl
theorem l_mul1 {Q : Value → Shared → Prop} {x : Value} {i : Int} {u : Tok} (F : Fr h₀ L s.heap m) (N : News h₀ L s.heap news) (hm : (l, listOf #[x] k) ∈ news) (h0 : 0 ≤ i) (h1 : i ≤ 1000)
    (h : ∀ D c h', Fr h₀ L h' m → News h₀ L h' ((D, listOf (List.replicate i.toNat x).toArray c) :: news) → (∀ q ∈ news, q.1 < D) → Q (.ref D) { s with heap := h' }) :
    wpAny (model prog w) A (binaryOp .Mult (.ref l) (.int i u)) Q E s := by
  have e : List.foldl (fun x1 x2 => x1 ++ x2) #[] (List.replicate (if (#[x] : Array Value).isEmpty = true then 0 else i.toNat) #[x]) = (List.replicate i.toNat x).toArray := by
    rw [if_neg (by simp)]
    have := repl_fold x i.toNat []
    simpa using this
  refine mul_list F N (N _ hm).1 (by omega) (by omega) (by simp; omega) (fun h' F' N' => ?_)
  rw [e] at N'
  exact h _ _ h' F' N' fun q hq => Heap.lt_size (N q hq).1
theorem l_len {Q : Value → Shared → Prop} (N : News h₀ L s.heap news) (hm : (l, listOf vs.toArray k) ∈ news) (hz : vs.length ≤ 1000) (h : ∀ t k, Q (nv vs.length t) { s with toks := k }) :
    wpAny (model prog w) A (call (.builtin "len") [.ref l]) Q E s := len_list (l_is N hm) (by simp; omega) (by simpa using h _ _)
theorem l_item {Q : Value → Shared → Prop} {i : Nat} {u : Tok} {x : Value} (N : News h₀ L s.heap news) (hm : (l, listOf vs.toArray k) ∈ news) (hz : i ≤ 1000) (hx : vs[i]? = some x) (h : Q x s)
    (hs : subscripted slice false (.ref l) (nv i u) = operate [.ref l, nv i u] (getItem (.ref l) (nv i u)) := by with_unfolding_all rfl) (hg : ∀ r, letTemporaryGo value (.ref l) r = pure () := by intro _; with_unfolding_all rfl) :
    wpAny (model prog w) A (subscriptTail value slice (.ref l) (nv i u)) Q E s := item_list (l_is N hm) (by omega) (by omega) (by simpa using hx) h hs hg
theorem l_set {Q : Unit → Shared → Prop} {i : Nat} {u : Tok} {x : Int} {t : Tok} {ns : List Int} (F : Fr h₀ L s.heap m) (N : News h₀ L s.heap news) (hm : (l, listOf vs.toArray k) ∈ news) (hi : IntsAre vs ns) (hz : i < ns.length) (hz2 : ns.length ≤ 1000) (hr : ∀ p ∈ rest, p ∈ news) (off : LCg.Off1 l rest)
    (h : ∀ h', Fr h₀ L h' m → News h₀ L h' ((l, listOf (vs.set i (.int x t)).toArray k) :: rest) → IntsAre (vs.set i (.int x t)) (ns.set i x) → Q () { s with heap := h' }) :
    wpAny (model prog w) A (setItem (.ref l) (nv i u) (.int x t)) Q E s := by
  have N' : News h₀ L s.heap ((l, listOf vs.toArray k) :: rest) := fun p hp => by
    rcases List.mem_cons.mp hp with rfl | hp
    · exact N _ hm
    · exact N _ (hr p hp)
  exact ksa_set F N' (.head (off_mem off)) hi (by omega) (by omega) (by omega) (fun h' F' N' hi' _ _ => h h' F' N' hi')
theorem l_append {Q : Value → Shared → Prop} {x : Value} (F : Fr h₀ L s.heap m) (N : News h₀ L s.heap news) (hm : (l, listOf vs.toArray k) ∈ news) (hz2 : vs.length ≤ 1000) (hr : ∀ p ∈ rest, p ∈ news) (off : LCg.Off1 l rest)
    (h : ∀ h' c, Fr h₀ L h' m → News h₀ L h' ((l, listOf (vs ++ [x]).toArray c) :: rest) → Q .none { s with heap := h' }) :
    wpAny (model prog w) A (call (.builtin "list.append") [.ref l, x]) Q E s := by
  have z := N _ hm
  refine append_at (hsz := by simpa using sz1000 hz2) z.1 fun h' hs ho' => h h' (k + 1) (F.change hs z.2.1 z.2.2) (upd_new N hm hs ?_ hr off)
  rw [ho']
  simp
theorem l_extend {Q : Value → Shared → Prop} (F : Fr h₀ L s.heap m) (N : News h₀ L s.heap news) (hm : (l, listOf vs.toArray k) ∈ news) (hb : (b, listOf ws.toArray k2) ∈ news) (hz2 : vs.length + ws.length ≤ 1000) (hne : ws ≠ []) (hr : ∀ p ∈ rest, p ∈ news) (off : LCg.Off1 l rest)
    (h : ∀ h' c, Fr h₀ L h' m → News h₀ L h' ((l, listOf (vs ++ ws).toArray c) :: rest) → Q .none { s with heap := h' }) :
    wpAny (model prog w) A (call (.builtin "list.extend") [.ref l, .ref b]) Q E s := by
  have z := N _ hm
  refine call_meets PySem.F.slot_list_extend ⟨_, z.1, rfl⟩ PySem.F.entry_list_extend (PySem.F.args_list_extend_2 _ _) (PySem.AutoSeq1.list_extend_list_list_0 l vs.toArray k b ws.toArray k2 (extend_door (by simpa using sz1000 hz2)) (by simp; exact sz1000 (by omega)) (by simp; rw [PySem.sizeLine_eq]; omega)) ⟨z.1, (N _ hb).1, h _ (k + 1) (F.change (Heap.SameBut.update ..) z.2.1 z.2.2) (upd_new N hm (Heap.SameBut.update ..) ?_ hr off)⟩
  have q := PySem.IsL.update z.1 (fun x => x ++ ws.toArray)
  have hw : ws.length ≠ 0 := fun e => hne (List.eq_nil_of_length_eq_zero e)
  rw [if_neg (by simpa using hne)] at q
  simpa using q
theorem l_slice {Q : Value → Shared → Prop} (F : Fr h₀ L s.heap m) (N : News h₀ L s.heap news) (hm : (l, listOf vs.toArray k) ∈ news) (hz : vs.length ≤ 1000) (pl : IsPart vl lo) (pu : IsPart vu hi) (e : (slicePick vs.toArray lo hi none).toList = zs)
    (h : ∀ D h', Fr h₀ L h' m → News h₀ L h' ((D, listOf zs.toArray 0) :: news) → (∀ p ∈ news, p.1 < D) → Q (.ref D) { s with heap := h' })
    (hs : subscripted slice false (.ref l) (.ref s.heap.objs.size) = operate [.ref s.heap.objs.size, .ref l] (getItem (.ref l) (.ref s.heap.objs.size))) (ht : ∀ r, letTemporaryGo value (.ref l) r = pure ()) :
    wpAny (model prog w) A (subscriptTail value slice (.ref l) (.ref s.heap.objs.size)) Q E { s with heap := s.heap.push { cls := .type "slice", data := .fields #[vl, vu, .none] } } :=
  kmk_slice_lit F N (l_is N hm) pl pu e h hs ht (by simpa using sz1000 hz)
theorem l_slice3 {Q : Value → Shared → Prop} (F : Fr h₀ L s.heap m) (N : News h₀ L s.heap news) (hm : (l, listOf vs.toArray k) ∈ news) (hz : vs.length ≤ 1000) (pl : IsPart vl lo) (pu : IsPart vu hi) (pk : IsPart vk st) (h0 : st ≠ some 0) (e : (slicePick vs.toArray lo hi st).toList = zs)
    (h : ∀ D h', Fr h₀ L h' m → News h₀ L h' ((D, listOf zs.toArray 0) :: news) → (∀ p ∈ news, p.1 < D) → Q (.ref D) { s with heap := h' })
    (hs : subscripted slice false (.ref l) (.ref s.heap.objs.size) = operate ops (getItem (.ref l) (.ref s.heap.objs.size))) (ht : ∀ r, letTemporaryGo value (.ref l) r = pure ()) :
    wpAny (model prog w) A (subscriptTail value slice (.ref l) (.ref s.heap.objs.size)) Q E { s with heap := s.heap.push { cls := .type "slice", data := .fields #[vl, vu, vk] } } :=
  kmk_slice3_lit F N (l_is N hm) pl pu pk h0 e h hs ht (by simpa using sz1000 hz)
end
theorem negmod4 (n : Nat) : (-(n : Int)).fmod 4 = (((4 - n % 4) % 4 : Nat) : Int) := by
  rw [Int.fmod_eq_emod_of_nonneg _ (by decide)]
  omega
section
variable {prog : Program} {w : World} {A : Around} {E : Value → Shared → Prop} {s : Shared} {Q : Value → Shared → Prop} {n : Nat} {t u : Tok}
theorem wn_negmod {M : Int} (hM : M = 4) (h : Q (nv ((4 - n % 4) % 4) s.toks) { s with toks := s.toks + 1 }) : wpAny (model prog w) A (binaryOp .Mod (.int (-(n : Int)) t) (.int M u)) Q E s := by
  subst hM
  exact mod_int' (by decide) (by rw [negmod4]; exact h)
end
theorem ne_below {news : Led} {a d : Nat} (h : ∀ p ∈ news, @LT.lt Nat _ p.1 a) (e : a ≤ d) : ∀ p ∈ news, p.1 ≠ d := fun p hp => Nat.ne_of_lt (Nat.lt_of_lt_of_le (h p hp) e)
theorem pick_upto (vs : List Value) (b : Nat) : (slicePick vs.toArray none (some (b : Int)) none).toList = vs.take b := by rw [slicePick_upto']
theorem pick_from (vs : List Value) (a : Nat) : (slicePick vs.toArray (some (a : Int)) none none).toList = vs.drop a := by rw [slicePick_from']
theorem pick_rev (vs : List Value) : (slicePick vs.toArray none none (some (-1))).toList = vs.reverse := by rw [krv_pick]
end
section
open PySem PySem.W PyProof.Rows PySem.Spec PySem.Calls
set_option maxRecDepth 100000
set_option maxHeartbeats 1000000
theorem rows_C6_1 : True := by
  w_top off
  k_with_none
  (k_with "ktn_open" => (refine wpAny_call ?_; k_dflt (refine' code_defC ?k1 ?k2 ?k3 ?k4 ?k5 ?kA ?kF ?kK ?k6 ?k7 ?k8 ?k9 ?kB ?kD ?_ ?c2 ?c3 ?c4; (case kA => exact rfl); (case kF => exact rfl); (case kK => assumption); (case k1 => k_asm); (case k2 => k_asm); (case k3 => k_asm); (case k4 => k_asm); (case k5 => k_asm); (case k6 => k_is); (case k7 => k_is); (case k8 => ktr_room); (case k9 => exact BindsTo.of_eq rfl); (case kB => exact rfl); (case kD => decide +kernel); (case c2 => exact rfl); (case c3 => exact rfl); (case c4 => exact rfl); k_whole; intro g' L' h' tk' cells' FG' F' N' Y' B' X' T' l1; (try k_lt l1); k_cells Y'; (try simp only [List.cons_append, List.nil_append] at N'); (try dsimp only); (try k_lift B'); (try k_fold))))
  (k_with "ktr_unf" => (unfold Con; refine fillK ?_; k_fill; intro hZZ; clear hZZ))
  (k_with "k_steps" => repeat' (first | (k_unfold; (try dsimp only)) | walk1 | (dsimp only; walk1) | (leave1; walk_say "STEP leave1"; try dsimp only) | fail "no step"))
  (k_with "eval Constant int" => (k_dflt (refine wn_const ?_)))
  (k_with "eval ListComp" => (k_here; k_dflt (refine comp_1 (by with_unfolding_all rfl) (by rfl) (by decide) ?_)))
  (k_with "call builtin:len" => (k_here; (with_reducible refine by_len (by omega) ?_); intro _ _))
  (k_with "binaryOp Add int int" => (k_here; (with_reducible refine wn_add ?_)))
  (k_with "subscriptTail" => (k_here; (with_reducible show wpAny _ _ (subscriptTail _ (PySem.Expr.Slice _ _ none _) (Value.bytes _ _) (Value.ref _)) _ _ _); (with_reducible rename Fr _ _ _ _ => F'); (with_reducible rename News _ _ _ _ => N'); (refine by_slice (s := ⟨_, _, _, _, _⟩) F' N' (by omega) ?_); intro _ _ _ _ _))
  trivial
theorem con_numberL (w : World) (os : List UInt8) (hb : os.length ≤ 4) (u : Tok) : Con w 51 1 [.bytes os.toArray u] none0 (fun r tl => tl = [] ∧ ∃ t, r = nv (num os) t) := con_number w os.toArray hb u
theorem rows_C6_2 : True := by
  (k_with "call ref" => (k_here; (with_reducible show wpAny _ _ (call (Value.ref 51) _) _ _ _); k_dflt (refine use_I (by k_asm) (by k_asm) (by k_asm) (by k_asm) (by k_asm) (by first | exact rfl | assumption) (by first | exact True.intro | k_mem | exact ⟨by k_mem, by k_mem⟩) (by ktr_room) (by ktr_units) (con_numberL _ _ (by simp only [List.length_take]; omega) _) ?_; intros; (try dsimp only); (try k_sweep); (try k_fold))))
  trivial
/-- this word -/
def WordIs (x : BitVec 32) (v : Value) : Prop := ∃ t, v = wv x t
/-- the value is a new list of these words, the only new thing -/
def OutWs (ws : List (BitVec 32)) (r : Value) (tl : Led) : Prop := ∃ D ys, r = .ref D ∧ tl = [(D, LCg.lst ys)] ∧ AllIs WordIs ws ys
section
variable {w : World} {f : Addr} {n : Nat} {vs : List Value} {Pre : Led → Prop} {prog p : Program} {loose : List Str} {mean : ExcName → Option Value} {mg mb : Str → Option Value} {dp un : Nat} {gd : Option (List Code)} {cn : Str} {cs : Scope} {a : Addr} {ccd : Value} {cl : List (Str × Addr)} {outer : List Env} {A₀ : Around} {base h₀ : Heap} {L : Addr} {m : Str → Option Value} {news : Led} {s : Shared} {Q E : Value → Shared → Prop}
theorem use_Ws {ws : List (BitVec 32)} (B : Below A₀ base outer h₀) (F : Fr h₀ L s.heap m) (X : (Mine.hd.heap_1 w.params).In h₀) (N : News h₀ L s.heap news) (T : Top p loose mean mg mb h₀) (hk : cs.kind = .function) (hp : Pre news) (hd : dp + n < recursionLimit) (hu : un + 8 * n < cLine)
    (C : Con w f n vs Pre (OutWs ws)) (k : ∀ D ys h' tk', Fr h₀ L h' m → News h₀ L h' ((D, LCg.lst ys) :: news) → AllIs WordIs ws ys → LCg.Off1 D news → ws.length = ys.length → LCg.Off1 D news → Q (.ref D) { s with heap := h', toks := tk' }) : wpAny (model prog w) (ktrTop dp un gd cn cs L a ccd cl outer) (call (.ref f) vs) Q E s :=
  use_con C B F X N T hk hp hd hu fun r tl h' tk' F' N' lt ho => by
    obtain ⟨D, ys, rfl, rfl, hW⟩ := ho
    exact k D ys h' tk' F' N' hW (lt _ List.mem_cons_self) (AllIs.length hW) (lt _ List.mem_cons_self)
end
theorem endL {news led : Led} {h₀ h' : Heap} {L : Addr} {m : Str → Option Value} {s : Shared} {Q : Value → Shared → Prop} {α : Type} {f : α → Value → Prop} {xs : List α}
    (hret : ∀ (r : Value) (tl : Led) (h' : Heap) (tk' : Nat), Fr h₀ L h' m → News h₀ L h' (tl ++ news) → (∀ q ∈ tl, LCg.Off1 q.1 news) → (∃ D ys, r = .ref D ∧ tl = [(D, LCg.lst ys)] ∧ AllIs f xs ys) → Q r { s with heap := h', toks := tk' })
    {D : Addr} {ys : List Value} {tk' : Nat} (F : Fr h₀ L h' m) (N : News h₀ L h' led) (hm : (D, LCg.lst ys) ∈ led) (hs : ∀ p ∈ news, p ∈ led) (hl : LCg.Off1 D news) (hx : AllIs f xs ys) : Q (.ref D) { s with heap := h', toks := tk' } :=
  hret _ [(D, LCg.lst ys)] h' tk' F (fun p hp => by
    rcases List.mem_cons.mp hp with rfl | hp
    · exact N _ hm
    · exact N p (hs p hp)) (lt_one hl) ⟨D, ys, rfl, rfl, hx⟩
theorem AllIs.map {α β : Type} {g : α → β} {f : β → Value → Prop} {as : List α} {vs : List Value} (h : AllIs (fun a v => f (g a) v) as vs) : AllIs f (as.map g) vs := by
  induction h with
  | nil => exact .nil
  | cons h _ ih => exact .cons h ih
theorem word_num (os : List UInt8) (i : Nat) (t : Tok) : WordIs (wordAt os i) (nv (num ((os.drop (4 * i)).take 4)) t) := ⟨t, by rw [wv, wordAt_toNat]⟩
theorem con_words (w : World) (os : List UInt8) (hb : os.length ≤ 64) (u : Tok) : Con w 57 2 [.bytes os.toArray u] none0 (OutWs (words os)) := by
  ktr_unf
  intro prog p loose mean mg mb dp un gd cn cs a ccd cl outer A₀ base h₀ L m news s Q E B F X N T hk hok hd hu hret
  ktn_open
  k_steps
  k_dflt (refine halt (blk_range (n := (os.length + 3) / 4) (by rfl) (by k_asm) (small4 _ (by omega)) (range4 _) (by rw [PySem.sizeLine_eq]; omega) (by decide) (by rfl) (by rfl) (by k_asm) (by k_asm) (fun i ys nw => nw = _ ∧ AllIs (fun i v => WordIs (wordAt os i) v) (List.range i) ys) ⟨rfl, .nil⟩ ?_ ?_))
  · rintro i t ys nw I oI C oC D m₂ h tk s₂ E' hi ⟨rfl, hys⟩ hC h1 F₁ N₁ off ne
    have e : (0 : Int) + (i : Int) * 4 = ((4 * i : Nat) : Int) := by omega
    rw [e] at h1
    k_steps
    rw [show 4 * i + 4 - 4 * i = 4 by omega]
    refine halt ⟨_, _, _, rfl, by k_asm, by k_asm, off, trivial, rfl, ?_⟩
    rw [List.range_succ]
    exact hys.snoc (word_num _ _ _)
  · rintro ys nw ⟨rfl, hys⟩
    refine back_none fun D h tk F₁ N₁ o1 => ?_
    k_steps
    all_goals (refine' endL hret ?F9 ?N9 ?m9 ?s9 ?l9 ?x9; (case F9 => k_asm); (case N9 => k_asm); (case m9 => k_mem); (case s9 => kcf_all); (case l9 => exact off_sub o1 (by kcf_all)); (case x9 => exact hys.map))
end
section
open PySem PySem.W PyProof.Rows PySem.Spec PySem.Calls
set_option maxRecDepth 100000
set_option maxHeartbeats 1000000

theorem rows_C7_1 : True := by
  w_top off
  k_with_none
  (k_with "ktn_open" => (refine wpAny_call ?_; k_dflt (refine' code_defC ?k1 ?k2 ?k3 ?k4 ?k5 ?kA ?kF ?kK ?k6 ?k7 ?k8 ?k9 ?kB ?kD ?_ ?c2 ?c3 ?c4; (case kA => exact rfl); (case kF => exact rfl); (case kK => assumption); (case k1 => k_asm); (case k2 => k_asm); (case k3 => k_asm); (case k4 => k_asm); (case k5 => k_asm); (case k6 => k_is); (case k7 => k_is); (case k8 => ktr_room); (case k9 => exact BindsTo.of_eq rfl); (case kB => exact rfl); (case kD => decide +kernel); (case c2 => exact rfl); (case c3 => exact rfl); (case c4 => exact rfl); k_whole; intro g' L' h' tk' cells' FG' F' N' Y' B' X' T' l1; (try k_lt l1); k_cells Y'; (try simp only [List.cons_append, List.nil_append] at N'); (try dsimp only); (try k_lift B'); (try k_fold))))
  (k_with "ktr_unf" => (unfold Con; refine fillK ?_; k_fill; intro hZZ; clear hZZ))
  (k_with "k_steps" => repeat' (first | (k_unfold; (try dsimp only)) | walk1 | (dsimp only; walk1) | (leave1; walk_say "STEP leave1"; try dsimp only) | fail "no step"))
  (k_with "eval Constant int" => (k_dflt (refine wn_const ?_)))
  (k_with "eval ListComp" => (k_here; k_dflt (refine comp_1 (by with_unfolding_all rfl) (by rfl) (by decide) ?_)))
  (k_with "call type:list" => ((k_here; (with_reducible show wpAny _ _ (call (Value.type "list") [Value.ref _]) _ _ _); k_dflt (refine (l_copy (by k_asm) (by k_asm) (by k_mem) (by (first | omega | (simp only [List.length_append, List.length_replicate, List.length_take, List.length_drop, List.length_cons, List.length_nil]; omega))) ?_))); (intros; rename_i l1; (try k_lt l1); (try k_sweep))))
  (k_with "binaryOp Add ref ref" => ((k_here; k_dflt (refine (l_add (by k_asm) (by k_asm) (by k_mem) (by k_mem) (by (first | omega | (simp only [List.length_append, List.length_replicate, List.length_take, List.length_drop, List.length_cons, List.length_nil]; omega))) ?_))); (intros; rename_i l1; (try k_lt l1); (try k_sweep))))
  (k_with "binaryOp Mult ref int" => ((k_here; k_dflt (refine (l_mul1 (by k_asm) (by k_asm) (by k_mem) (by omega) (by omega) ?_))); (intros; rename_i l1; (try k_lt l1); (try k_sweep))))
  (k_with "call builtin:len" => ((k_here; (with_reducible show wpAny _ _ (call (Value.builtin "len") [Value.ref _]) _ _ _); k_dflt (refine (l_len (by k_asm) (by k_mem) (by (first | omega | (simp only [List.length_append, List.length_replicate, List.length_take, List.length_drop, List.length_cons, List.length_nil]; omega))) ?_))); intros))
  (k_with "k_mem" => first | exact List.mem_cons_self | (refine List.mem_cons_of_mem _ ?_; k_mem) | with_reducible assumption)
  (k_with "binaryOp Mod int int" => (k_here; (with_reducible refine wn_negmod ?hM ?_); (case hM => first | rfl | decide)))
  (k_with "k_all" => first | (refine ne_below (by assumption) ?q9; (case q9 => ((try dsimp only); omega))) | exact off_mem (by assumption) | exact off_mem (off_lt (by assumption)))
  trivial
/-- this octet -/
def OctIs (c : UInt8) (v : Value) : Prop := ∃ t, v = nv c.toNat t
theorem AllIs.append {α : Type} {f : α → Value → Prop} {as bs : List α} {vs ws : List Value} (h : AllIs f as vs) (e : AllIs f bs ws) : AllIs f (as ++ bs) (vs ++ ws) := by
  induction h with
  | nil => exact e
  | cons h _ ih => exact .cons h ih
theorem AllIs.repl {α : Type} {f : α → Value → Prop} {a : α} {v : Value} (h : f a v) : ∀ n : Nat, AllIs f (List.replicate n a) (List.replicate n v)
  | 0 => .nil
  | n + 1 => .cons h (AllIs.repl h n)
section
variable {prog : Program} {w : World} {A : Around} {E : Value → Shared → Prop} {s : Shared} {h₀ : Heap} {L l : Addr} {m : Str → Option Value} {news : Led} {vs : List Value} {k : Nat} {value slice : PySem.Expr} {Q : Value → Shared → Prop} {i : Nat} {u t : Tok} {os : List UInt8}
theorem repl0 (p : Nat) : AllIs OctIs (List.replicate p 0) (List.replicate p (Value.int 0 t)) := AllIs.repl ⟨t, rfl⟩ p
theorem l_oct (N : News h₀ L s.heap news) (hm : (l, listOf vs.toArray k) ∈ news) (hv : AllIs OctIs os vs) (hz : i < os.length) (hz2 : os.length ≤ 1000) (h : ∀ t, Q (nv (oc os i) t) s)
    (hs : subscripted slice false (.ref l) (nv i u) = operate [.ref l, nv i u] (getItem (.ref l) (nv i u)) := by with_unfolding_all rfl) (hg : ∀ r, letTemporaryGo value (.ref l) r = pure () := by intro _; with_unfolding_all rfl) :
    wpAny (model prog w) A (subscriptTail value slice (.ref l) (nv i u)) Q E s := by
  obtain ⟨v, hv', t, rfl⟩ := hv.get (List.getElem?_eq_getElem hz)
  refine l_item N hm (by omega) hv' ?_ hs hg
  have := h t
  rw [oc, List.getElem?_eq_getElem hz] at this
  exact this
end
theorem rows_C7_2 : True := by
  (k_with "eval Constant int" => (k_dflt (refine wn_const ?_)))
  (k_with "binaryOp Pow int int" => (k_here; (with_reducible refine wn_pow2 ?hb ?_); (case hb => first | decide | omega)))
  (k_with "binaryOp Mult int int" => (k_here; (with_reducible refine wn_mul ?hb ?_); (case hb => first | exact Or.inl (by omega) | exact Or.inr (by omega))))
  (k_with "binaryOp Add int int" => (k_here; (with_reducible refine wn_add ?_)))
  (k_with "subscriptTail" => ((k_here; (with_reducible show wpAny _ _ (subscriptTail _ _ (Value.ref _) (Value.int _ _)) _ _ _); k_dflt (refine (l_oct (by k_asm) (by k_mem) (AllIs.append (by assumption) (repl0 _)) (by (first | omega | (simp only [List.length_append, List.length_replicate, List.length_take, List.length_drop, List.length_cons, List.length_nil]; omega))) (by (first | omega | (simp only [List.length_append, List.length_replicate, List.length_take, List.length_drop, List.length_cons, List.length_nil]; omega))) ?_))); intros))
  trivial
theorem word_ocv (os : List UInt8) (p i : Nat) (t : Tok) : WordIs (wordAt os i) (nv (oc (os ++ List.replicate p 0) (4 * i) + 256 * oc (os ++ List.replicate p 0) (4 * i + 1) + 65536 * oc (os ++ List.replicate p 0) (4 * i + 2) + 2 ^ 24 * oc (os ++ List.replicate p 0) (4 * i + 3)) t) :=
  ⟨t, by rw [wv, word_oc, oc_pad, oc_pad, oc_pad, oc_pad]⟩
theorem con_lwords (w : World) (os : List UInt8) (hb : os.length ≤ 64) (o : Addr) (vs : List Value) (k : Nat) (hv : AllIs OctIs os vs) : Con w 116 2 [.ref o] (fun news => (o, listOf vs.toArray k) ∈ news) (OutWs (words os)) := by
  have hvl := hv.length
  ktr_unf
  intro prog p loose mean mg mb dp un gd cn cs a ccd cl outer A₀ base h₀ L m news s Q E B F X N T hk hok hd hu hret
  replace hok : (o, listOf vs.toArray k) ∈ news := hok
  ktn_open
  k_steps
  k_dflt (refine halt (blk_range (n := (os.length + 3) / 4) (by rfl) (by k_asm) (small4 _ (by simp only [List.length_append, List.length_replicate]; omega)) ((range4 _).trans (by simp only [List.length_append, List.length_replicate]; omega)) (by rw [PySem.sizeLine_eq]; omega) (by decide) (by rfl) (by rfl) (by k_asm) (by k_asm) (fun i ys nw => nw = _ ∧ AllIs (fun i v => WordIs (wordAt os i) v) (List.range i) ys) ⟨rfl, .nil⟩ ?_ ?_))
  · rintro i t ys nw I oI C oC D m₂ h tk s₂ E' hi ⟨rfl, hys⟩ hC h1 F₁ N₁ off ne
    have e : (0 : Int) + (i : Int) * 4 = ((4 * i : Nat) : Int) := by omega
    rw [e] at h1
    k_steps
    dsimp only
    refine halt ⟨_, _, _, rfl, F₁, N₁, off, trivial, rfl, ?_⟩
    rw [List.range_succ]
    exact hys.snoc (word_ocv _ _ _ _)
  · rintro ys nw ⟨rfl, hys⟩
    refine back_none fun D h tk F₁ N₁ o1 => ?_
    k_steps
    all_goals (refine' endL hret ?F9 ?N9 ?m9 ?s9 ?l9 ?x9; (case F9 => k_asm); (case N9 => k_asm); (case m9 => k_mem); (case s9 => kcf_all); (case l9 => exact off_sub o1 (by kcf_all)); (case x9 => exact hys.map))
end
section
open PySem PySem.W PyProof.Rows PySem.Spec PySem.Calls
set_option maxRecDepth 100000
set_option maxHeartbeats 2000000
theorem off_one {D : Addr} {o : Obj} {news : Led} (h : ∀ q ∈ [(D, o)], LCg.Off1 q.1 news) : LCg.Off1 D news := h (D, o) List.mem_cons_self
/-- the word at a place, none beyond -/
def wd (ws : List (BitVec 32)) (i : Nat) : BitVec 32 := ws[i]?.getD 0
section
variable {prog : Program} {w : World} {A : Around} {E : Value → Shared → Prop} {s : Shared} {h₀ : Heap} {L l : Addr} {m : Str → Option Value} {news : Led} {vs : List Value} {k : Nat} {value slice : PySem.Expr} {Q : Value → Shared → Prop} {i : Nat} {u t : Tok} {ws : List (BitVec 32)} {a b : BitVec 32}
theorem wp_andN (h : Q (wv (a + b) s.toks) { s with toks := s.toks + 1 }) : wpAny (model prog w) A (binaryOp .BitAnd (nv (a.toNat + b.toNat) t) (.int 4294967295 u)) Q E s :=
  and_int (by rw [show (((a.toNat + b.toNat : Nat)) : Int) = (a.toNat : Int) + b.toNat from Int.natCast_add _ _, and_add]; exact h)
theorem wp_andM {n : Nat} (h : Q (wv (BitVec.ofNat 32 n) s.toks) { s with toks := s.toks + 1 }) : wpAny (model prog w) A (binaryOp .BitAnd (nv n t) (.int 4294967295 u)) Q E s :=
  and_int (by rw [mask_nat]; exact h)
theorem wp_modadd {M : Int} (hM : M = 4294967296) (h : Q (wv (a + b) s.toks) { s with toks := s.toks + 1 }) : wpAny (model prog w) A (binaryOp .Mod (.int ((a.toNat : Int) + b.toNat) t) (.int M u)) Q E s := by
  subst hM
  refine mod_int' (by decide) ?_
  have e : ((a.toNat : Int) + b.toNat).fmod 4294967296 = ((a + b).toNat : Int) := by
    rw [Int.fmod_eq_emod_of_nonneg _ (by decide), BitVec.toNat_add]
    omega
  rw [e]
  exact h
theorem l_word (N : News h₀ L s.heap news) (hm : (l, listOf vs.toArray k) ∈ news) (hv : AllIs WordIs ws vs) (hz : i < ws.length) (hz2 : ws.length ≤ 1000) (h : ∀ t, Q (wv (wd ws i) t) s)
    (hs : subscripted slice false (.ref l) (nv i u) = operate [.ref l, nv i u] (getItem (.ref l) (nv i u)) := by with_unfolding_all rfl) (hg : ∀ r, letTemporaryGo value (.ref l) r = pure () := by intro _; with_unfolding_all rfl) :
    wpAny (model prog w) A (subscriptTail value slice (.ref l) (nv i u)) Q E s := by
  obtain ⟨v, hv', t, rfl⟩ := hv.get (List.getElem?_eq_getElem hz)
  refine l_item N hm (by omega) hv' ?_ hs hg
  have := h t
  rw [wd, List.getElem?_eq_getElem hz] at this
  exact this
end
theorem news_swap {h₀ h : Heap} {L : Addr} {a b : Addr × Obj} {r : Led} (N : News h₀ L h (a :: b :: r)) : News h₀ L h (b :: a :: r) := fun p hp => by
  rcases List.mem_cons.mp hp with rfl | hp
  · exact N _ (List.mem_cons_of_mem _ List.mem_cons_self)
  · rcases List.mem_cons.mp hp with rfl | hp
    · exact N _ List.mem_cons_self
    · exact N _ (List.mem_cons_of_mem _ (List.mem_cons_of_mem _ hp))
theorem tnextS {h₀ h' : Heap} {L I : Addr} {m' : Str → Option Value} {oI : Obj} {J : (Str → Option Value) → Led → Prop} {s₁ : Shared} {tk : Nat} {D : Addr} {a b c d : BitVec 32} {ta tb tc td : Tok} {n : Nat} {led keep : Led}
    (N : News h₀ L h' ((D, tup4 a b c d ta tb tc td n) :: led)) (F : Fr h₀ L h' m') (hI : (I, oI) ∈ led) (hs : ∀ p ∈ keep, p ∈ led) (off : ∀ p ∈ keep, p.1 ≠ I) (hD : LCg.Off1 D led) (hJ : J m' ((D, tup4 a b c d ta tb tc td n) :: keep)) :
    Halt (∃ h'' tk' m'' nw'', ({ s₁ with heap := h', toks := tk } : Shared) = { s₁ with heap := h'', toks := tk' } ∧ Fr h₀ L h'' m'' ∧ News h₀ L h'' ((I, oI) :: nw'') ∧ (∀ p ∈ nw'', p.1 ≠ I) ∧ J m'' nw'') :=
  halt ⟨h', tk, m', _, rfl, F, fun p hp => by
    rcases List.mem_cons.mp hp with rfl | hp
    · exact N _ (List.mem_cons_of_mem _ hI)
    · rcases List.mem_cons.mp hp with rfl | hp
      · exact N _ List.mem_cons_self
      · exact N _ (List.mem_cons_of_mem _ (hs p hp)), fun p hp => by
    rcases List.mem_cons.mp hp with rfl | hp
    · exact Ne.symm (off_mem hD _ hI)
    · exact off p hp, hJ⟩
theorem endW4o {news led : Led} {h₀ h' : Heap} {L : Addr} {m : Str → Option Value} {s : Shared} {Q : Value → Shared → Prop} {x : W4}
    (hret : ∀ (r : Value) (tl : Led) (h' : Heap) (tk' : Nat), Fr h₀ L h' m → News h₀ L h' (tl ++ news) → (∀ q ∈ tl, LCg.Off1 q.1 news) → OutW4 x r tl → Q r { s with heap := h', toks := tk' })
    {D : Addr} {a b c d : BitVec 32} {ta tb tc td : Tok} {n : Nat} {tk' : Nat} (F : Fr h₀ L h' m) (N : News h₀ L h' led) (hm : (D, tup4 a b c d ta tb tc td n) ∈ led) (hs : ∀ p ∈ news, p ∈ led) (hl : LCg.Off1 D news) (hx : x = ⟨a, b, c, d⟩) : Q (.ref D) { s with heap := h', toks := tk' } := by
  subst hx
  refine hret _ [(D, tup4 a b c d ta tb tc td n)] h' tk' F (fun p hp => ?_) (lt_one hl) ⟨D, ta, tb, tc, td, n, rfl, rfl⟩
  rcases List.mem_cons.mp hp with rfl | hp
  · exact N _ hm
  · exact N p (hs p hp)
end
section
open PySem PySem.W PyProof.Rows PySem.Spec PySem.Calls
set_option maxRecDepth 100000
set_option maxHeartbeats 2000000
section
variable {prog : Program} {w : World} {A : Around} {E : Value → Shared → Prop} {s : Shared} {h₀ : Heap} {L l : Addr} {m : Str → Option Value} {news : Led} {vs : List Value} {k : Nat} {Q : Value → Shared → Prop}
theorem l_sum {α : Type} {f : α → Nat} {xs : List α} (hh : A.handled = none) (F : Fr h₀ L s.heap m) (N : News h₀ L s.heap news) (hm : (l, listOf vs.toArray k) ∈ news) (hi : AllIs (fun a v => NatIs (f a) v) xs vs)
    (h : ∀ h' tk t', Fr h₀ L h' m → News h₀ L h' news → Q (nv (xs.map f).sum t') { s with heap := h', toks := tk }) :
    wpAny (model prog w) A (call (.builtin "sum") [.ref l]) Q E s :=
  sumK hh F N (l_is N hm) (hi.ints fun _ _ h => h) (fun h' tk t' F' N' => by
    rw [sum_cast]; exact h h' tk t' F' N')
end
theorem off4_cons {I J C D T : Addr} {o : Obj} {nw : Led} (h1 : T ≠ I) (h2 : T ≠ J) (h3 : T ≠ C) (h4 : T ≠ D) (h : Off4 I J C D nw) : Off4 I J C D ((T, o) :: nw) := fun p hp => by
  rcases List.mem_cons.mp hp with rfl | hp
  · exact ⟨h1, h2, h3, h4⟩
  · exact h p hp
/-- the rows of a running sum -/
def RowIs (ws : List (BitVec 32)) (k : Nat) (r : Row) : Prop := (∃ t, r.x = nv (ws.length - k) t) ∧ ∃ t, r.y = wv (wd ws k) t
def RowsAre (ws : List (BitVec 32)) (n : Nat) (rs : List Row) : Prop := rs.length = n ∧ ∀ k r, rs[k]? = some r → RowIs ws k r
theorem RowsAre.snoc {ws : List (BitVec 32)} {n : Nat} {rs : List Row} {r : Row} (h : RowsAre ws n rs) (e : RowIs ws n r) : RowsAre ws (n + 1) (rs ++ [r]) := by
  refine ⟨by simp [h.1], fun k r' hk => ?_⟩
  rw [List.getElem?_append] at hk
  split at hk
  · exact h.2 k r' hk
  · rename_i hlt
    have hl := h.1
    have : k - rs.length = 0 := by
      cases hq : k - rs.length with
      | zero => rfl
      | succ j => rw [hq] at hk; simp at hk
    rw [this] at hk
    have hkn : k = n := by omega
    subst hkn
    cases hk
    exact e
abbrev JR (ws : List (BitVec 32)) (led : Led) (i : Nat) (ys : List Value) (nw : Led) : Prop :=
  (∀ p ∈ led, p ∈ nw) ∧ ∃ rs, RowsAre ws i rs ∧ ys = rs.map (fun r => Value.ref r.at') ∧ ∀ r ∈ rs, r.led ∈ nw
theorem jr_snoc {ws : List (BitVec 32)} {led nw : Led} {i n : Nat} {rs : List Row} {T : Addr} {x y : Value} (h : ∀ p ∈ led, p ∈ nw) (hR : RowsAre ws i rs) (hrs : ∀ r ∈ rs, r.led ∈ nw) (hx : ∃ t, x = nv (ws.length - i) t) (hy : ∃ t, y = wv (wd ws i) t) :
    JR ws led (i + 1) (rs.map (fun r => Value.ref r.at') ++ [.ref T]) ((T, pairT x y n) :: nw) :=
  ⟨fun p hp => List.mem_cons_of_mem _ (h p hp), rs ++ [⟨T, x, y, n⟩], hR.snoc ⟨hx, hy⟩, by simp, fun r hr => by
    rcases List.mem_append.mp hr with hr | hr
    · exact List.mem_cons_of_mem _ (hrs r hr)
    · rw [List.mem_singleton.mp hr]; exact List.mem_cons_self⟩
theorem endP_row {h₀ h' : Heap} {L : Addr} {m : Str → Option Value} {s₁ : Shared} {I J C D T : Addr} {oI oJ oC oD : Obj} {R : Value → Led → Prop} {x y : Value} {n tk : Nat} {nw : Led}
    (N : News h₀ L h' ((T, pairT x y n) :: (I, oI) :: (J, oJ) :: (C, oC) :: (D, oD) :: nw)) (F : Fr h₀ L h' m) (lt : @LT.lt Nat _ I T ∧ @LT.lt Nat _ J T ∧ @LT.lt Nat _ C T ∧ @LT.lt Nat _ D T ∧ AllLt T nw) (off : Off4 I J C D nw) (hR : R (.ref T) ((T, pairT x y n) :: nw)) :
    Halt (EndP h₀ L m s₁ I oI J oJ C oC D oD R (.ref T) { s₁ with heap := h', toks := tk }) :=
  halt ⟨h', tk, _, rfl, F, drop N (fun p hp => by simp only [List.mem_cons] at hp ⊢; rcases hp with h | h | h | h | h | h <;> simp [h]), off4_cons (Nat.ne_of_gt lt.1) (Nat.ne_of_gt lt.2.1) (Nat.ne_of_gt lt.2.2.1) (Nat.ne_of_gt lt.2.2.2.1) off, hR⟩
theorem nv_eq {a b : Nat} (h : a = b) (t : Tok) : ∃ t', nv a t = nv b t' := ⟨t, by rw [h]⟩
theorem natIs (n : Nat) (t : Tok) : NatIs n (nv n t) := ⟨t, rfl⟩
theorem allLt_sub {D : Nat} {news nw : Led} (h : ∀ p ∈ news, p ∈ nw) (l : AllLt D nw) : AllLt D news := allLt_of fun p hp => allLt_mem l p (h p hp)
end
section
open PySem PySem.W PyProof.Rows PySem.Spec PySem.Calls
set_option maxRecDepth 100000
set_option maxHeartbeats 1000000
theorem rows_C8_1 : True := by
  w_top off
  k_with_none
  (k_with "ktn_open" => (refine wpAny_call ?_; k_dflt ktr_enter))
  (k_with "ktr_unf" => (unfold Con; refine fillK ?_; k_fill; intro hZZ; clear hZZ))
  (k_with "k_steps" => repeat' (first | (k_unfold; (try dsimp only)) | walk1 | (dsimp only; walk1) | (leave1; walk_say "STEP leave1"; try dsimp only) | fail "no step"))
  (k_with "k_mem" => first | exact List.mem_cons_self | (refine List.mem_cons_of_mem _ ?_; k_mem) | with_reducible assumption)
  (k_with "k_all" => first | (refine ne_below (by assumption) ?q9; (case q9 => ((try dsimp only); omega))) | exact off_mem (by assumption) | exact off_mem (off_lt (by assumption)))
  (k_with "eval Constant int" => (k_dflt (refine wn_const ?_)))
  (k_with "binaryOp Mod int int" => (k_here; (with_reducible refine wn_mod ?hb ?_); (case hb => first | decide | exact Nat.ne_of_gt (Nat.two_pow_pos _))))
  (k_with "binaryOp Add int int" => (k_here; (with_reducible refine wn_add ?_)))
  (k_with "binaryOp BitAnd int int" => (k_here; (with_reducible first | refine wp_and ?_ | refine wp_andN ?_ | refine wp_andM ?_)))
  (k_with "call builtin:len" => ((k_here; (with_reducible show wpAny _ _ (call (Value.builtin "len") [Value.ref _]) _ _ _); k_dflt (refine (l_len (by k_asm) (by k_mem) (by (first | omega | (simp only [List.length_append, List.length_replicate, List.length_take, List.length_drop, List.length_cons, List.length_nil]; omega))) ?_))); intros))
  (k_with "exec For Name Call cons nil" => (k_here; (rename Fr _ _ _ _ => lF'); (with_unfolding_all refine' for_any lF' ?_; k_whole)))
  (k_with "lcg_off" => first | exact allLt_of (by assumption) | assumption | exact an1 (by assumption) | exact an2 (by assumption) | exact an3 (by assumption) | exact an4 (by assumption) | exact an5 (by assumption) | exact an6 (by assumption) | exact an7 (by assumption) | exact an8 (by assumption) | exact an9 (by assumption) | exact an10 (by assumption) | exact an11 (by assumption) | exact an12 (by assumption) | exact an13 (by assumption) | exact an14 (by assumption) | exact an15 (by assumption) | exact an16 (by assumption) | exact an17 (by assumption) | exact an18 (by assumption) | exact an19 (by assumption) | exact an20 (by assumption) | exact an21 (by assumption) | exact an22 (by assumption) | exact an23 (by assumption) | exact an24 (by assumption))
  (k_with "call ref" => ((k_here; (with_reducible show wpAny _ _ (call (Value.ref 57) _) _ _ _); k_dflt (refine use_Ws (by k_asm) (by k_asm) (by k_asm) (by k_asm) (by k_asm) (by first | exact rfl | assumption) (by first | exact True.intro | k_mem | exact ⟨by k_mem, by k_mem⟩) (by ktr_room) (by ktr_units) (con_words _ _ (by omega) _) ?_; intros; (try dsimp only); (try k_sweep); (try k_fold))); ((with_reducible rename LCg.Off1 _ _ => off'); (try dsimp only [LCg.Off1] at off'))))
  (k_with "subscriptTail" => ((k_here; (with_reducible show wpAny _ _ (subscriptTail _ _ (Value.ref _) (Value.int _ _)) _ _ _); k_dflt (refine (l_word (by k_asm) (by k_mem) (by first | assumption | exact AllIs.append (by assumption) (.cons (a := 0) ⟨_, rfl⟩ .nil)) (by (first | omega | (simp only [List.length_append, List.length_replicate, List.length_take, List.length_drop, List.length_cons, List.length_nil]; omega))) (by (first | omega | (simp only [List.length_append, List.length_replicate, List.length_take, List.length_drop, List.length_cons, List.length_nil]; omega))) ?_))); intros))
  trivial
def f2step (x : W4) (p q : BitVec 32) : W4 := ⟨x.a + p, x.b + q, x.c + (x.a + p), x.d + (x.b + q)⟩
def f2at (ws : List (BitVec 32)) : Nat → W4
  | 0 => ⟨0, 0, 0, 0⟩
  | i + 1 => f2step (f2at ws i) (wd ws (2 * i)) (wd ws (2 * i + 1))
def fl2 (ws : List (BitVec 32)) : W4 := f2at ws ((ws.length + 1) / 2)
theorem wd_pad (ws : List (BitVec 32)) (i : Nat) : wd (ws ++ [0]) i = wd ws i := by
  unfold wd
  rw [List.getElem?_append]
  split
  · rfl
  · rename_i h
    rw [List.getElem?_eq_none (l := ws) (by omega)]
    cases e : i - ws.length with
    | zero => rfl
    | succ j => rfl
theorem f2at_pad (ws : List (BitVec 32)) : ∀ i, f2at (ws ++ [0]) i = f2at ws i
  | 0 => rfl
  | i + 1 => by rw [f2at, f2at, f2at_pad ws i, wd_pad, wd_pad]
def J2 (x : W4) (D : Addr) (m : Str → Option Value) : Prop := (∃ t, m "even" = some (wv x.a t)) ∧ (∃ t, m "odd" = some (wv x.b t)) ∧ (∃ t, m "even_run" = some (wv x.c t)) ∧ (∃ t, m "odd_run" = some (wv x.d t)) ∧ m "words" = some (.ref D)
theorem con_fletcher2 (w : World) (os : List UInt8) (hb : os.length ≤ 64) (u : Tok) : Con w 64 3 [.bytes os.toArray u] none0 (OutW4 (fl2 (words os))) := by
  have hwl := words_length os
  ktr_unf
  intro prog p loose mean mg mb dp un gd cn cs a ccd cl outer A₀ base h₀ L m news s Q E B F X N T hk hok hd hu hret
  ktn_open
  k_steps
  · (with_reducible rename Fr _ _ _ _ => lF)
    (with_reducible rename News _ _ _ _ => lN)
    k_dflt (refine halt (for_range0 (n := ((words os).length + 1) / 2) (by rfl) (by k_asm) (small2 _ (by simp only [List.length_append, List.length_cons, List.length_nil]; omega)) ((range2 _).trans (by simp only [List.length_append, List.length_cons, List.length_nil]; omega)) lF lN (fun i m => J2 (f2at (words os ++ [0]) i) _ m) ⟨⟨_, rfl⟩, ⟨_, rfl⟩, ⟨_, rfl⟩, ⟨_, rfl⟩, rfl⟩ ?_ ?_))
    · intro i t m₁ h tk I oI hi hJ F₁ N₁ off
      obtain ⟨⟨t1, e1⟩, ⟨t2, e2⟩, ⟨t3, e3⟩, ⟨t4, e4⟩, e5⟩ := hJ
      have F₂ := fr_at5 F₁ e1 e2 e3 e4 e5
      have e : (0 : Int) + (i : Int) * 2 = ((2 * i : Nat) : Int) := by omega
      rw [e]
      clear F₁ lF lN
      k_steps
      exact tnext (by k_asm) (by k_asm) _ List.mem_cons_self (fun p hp => List.mem_cons_of_mem _ hp) off ⟨rfl, ⟨_, rfl⟩, ⟨_, rfl⟩, ⟨_, rfl⟩, ⟨_, rfl⟩, rfl⟩
    · intro m₁ h tk hJ F₁ N₁
      obtain ⟨⟨t1, e1⟩, ⟨t2, e2⟩, ⟨t3, e3⟩, ⟨t4, e4⟩, e5⟩ := hJ
      have F₂ := fr_at5 F₁ e1 e2 e3 e4 e5
      rw [f2at_pad] at F₂
      clear F₁ lF lN
      k_steps
      all_goals (refine' endW4 hret ?F9 ?N9 ?m9 ?s9 ?l9 ?x9; (case F9 => k_asm); (case N9 => k_asm); (case m9 => k_mem); (case s9 => kcf_all); (case l9 => lcg_off); (case x9 => rfl))
  · (with_reducible rename Fr _ _ _ _ => lF)
    (with_reducible rename News _ _ _ _ => lN)
    k_dflt (refine halt (for_range0 (n := ((words os).length + 1) / 2) (by rfl) (by k_asm) (small2 _ (by omega)) ((range2 _).trans (by omega)) lF lN (fun i m => J2 (f2at (words os) i) _ m) ⟨⟨_, rfl⟩, ⟨_, rfl⟩, ⟨_, rfl⟩, ⟨_, rfl⟩, rfl⟩ ?_ ?_))
    · intro i t m₁ h tk I oI hi hJ F₁ N₁ off
      obtain ⟨⟨t1, e1⟩, ⟨t2, e2⟩, ⟨t3, e3⟩, ⟨t4, e4⟩, e5⟩ := hJ
      have F₂ := fr_at5 F₁ e1 e2 e3 e4 e5
      have e : (0 : Int) + (i : Int) * 2 = ((2 * i : Nat) : Int) := by omega
      rw [e]
      clear F₁ lF lN
      k_steps
      exact tnext (by k_asm) (by k_asm) _ List.mem_cons_self (fun p hp => List.mem_cons_of_mem _ hp) off ⟨rfl, ⟨_, rfl⟩, ⟨_, rfl⟩, ⟨_, rfl⟩, ⟨_, rfl⟩, rfl⟩
    · intro m₁ h tk hJ F₁ N₁
      obtain ⟨⟨t1, e1⟩, ⟨t2, e2⟩, ⟨t3, e3⟩, ⟨t4, e4⟩, e5⟩ := hJ
      have F₂ := fr_at5 F₁ e1 e2 e3 e4 e5
      clear F₁ lF lN
      k_steps
      all_goals (refine' endW4 hret ?F9 ?N9 ?m9 ?s9 ?l9 ?x9; (case F9 => k_asm); (case N9 => k_asm); (case m9 => k_mem); (case s9 => kcf_all); (case l9 => lcg_off); (case x9 => rfl))
end
section
open PySem PySem.W PyProof.Rows PySem.Spec PySem.Calls
set_option maxRecDepth 100000
set_option maxHeartbeats 1000000
theorem rows_C9_1 : True := by
  w_top off
  k_with_none
  (k_with "ktn_open" => (refine wpAny_call ?_; k_dflt ktr_enter))
  (k_with "ktr_unf" => (unfold Con; refine fillK ?_; k_fill; intro hZZ; clear hZZ))
  (k_with "k_steps" => repeat' (first | (k_unfold; (try dsimp only)) | walk1 | (dsimp only; walk1) | (leave1; walk_say "STEP leave1"; try dsimp only) | fail "no step"))
  (k_with "k_mem" => first | exact List.mem_cons_self | (refine List.mem_cons_of_mem _ ?_; k_mem) | with_reducible assumption)
  (k_with "k_all" => first | (refine ne_below (by assumption) ?q9; (case q9 => ((try dsimp only); omega))) | exact off_mem (by assumption) | exact off_mem (off_lt (by assumption)))
  (k_with "binaryOp BitAnd int int" => (k_here; (with_reducible first | refine wp_and ?_ | refine wp_andN ?_ | refine wp_andM ?_)))
  (k_with "binaryOp BitXor int int" => (with_reducible refine wp_xor ?_))
  (k_with "call builtin:len" => (k_here; (with_reducible refine by_len (by omega) ?_); intro _ _))
  (k_with "exec For Name Call cons nil" => (k_here; (rename Fr _ _ _ _ => lF'); (with_unfolding_all refine' for_any lF' ?_; k_whole)))
  (k_with "lcg_off" => first | exact allLt_of (by assumption) | assumption | exact an1 (by assumption) | exact an2 (by assumption) | exact an3 (by assumption) | exact an4 (by assumption) | exact an5 (by assumption) | exact an6 (by assumption) | exact an7 (by assumption) | exact an8 (by assumption) | exact an9 (by assumption) | exact an10 (by assumption) | exact an11 (by assumption) | exact an12 (by assumption) | exact an13 (by assumption) | exact an14 (by assumption) | exact an15 (by assumption) | exact an16 (by assumption) | exact an17 (by assumption) | exact an18 (by assumption) | exact an19 (by assumption) | exact an20 (by assumption) | exact an21 (by assumption) | exact an22 (by assumption) | exact an23 (by assumption) | exact an24 (by assumption))
  (k_with "call ref" => ((k_here; (with_reducible show wpAny _ _ (call (Value.ref 57) _) _ _ _); k_dflt (refine use_Ws (by k_asm) (by k_asm) (by k_asm) (by k_asm) (by k_asm) (by first | exact rfl | assumption) (by first | exact True.intro | k_mem | exact ⟨by k_mem, by k_mem⟩) (by ktr_room) (by ktr_units) (con_words _ _ (by omega) _) ?_; intros; (try dsimp only); (try k_sweep); (try k_fold))); ((with_reducible rename LCg.Off1 _ _ => off'); (try dsimp only [LCg.Off1] at off'))))
  trivial
theorem news_keep1 {h₀ h : Heap} {L : Addr} {a : Addr × Obj} {r news : Led} (N : News h₀ L h (a :: r)) (hs : ∀ p ∈ news, p ∈ r) : News h₀ L h (a :: news) := fun p hp => by
  rcases List.mem_cons.mp hp with rfl | hp
  · exact N _ List.mem_cons_self
  · exact N _ (List.mem_cons_of_mem _ (hs p hp))
theorem con_stirredE (w : World) (a b c d : BitVec 32) (st : Addr) (ta tb tc td : Tok) (n : Nat) :
    Con w 83 2 [.ref st] (fun news => (st, tup4 a b c d ta tb tc td n) ∈ news) (OutW4 (stir ⟨a, b, c, d⟩)) := con_stirred w ⟨a, b, c, d⟩ st ta tb tc td n
theorem rows_C9_2 : True := by
  (k_with "call ref" => ((k_here; (with_reducible show wpAny _ _ (call (Value.ref 83) _) _ _ _); k_dflt (refine use_4 (by k_asm) (by k_asm) (by k_asm) (by k_asm) (by k_asm) (by first | exact rfl | assumption) (by first | exact True.intro | k_mem | exact ⟨by k_mem, by k_mem⟩) (by ktr_room) (by ktr_units) (con_stirredE _ _ _ _ _ _ _ _ _ _ _) ?_; intros; (try dsimp only); (try k_sweep); (try k_fold))); ((with_reducible rename LCg.Off1 _ _ => off'); (try dsimp only [LCg.Off1] at off'))))
  trivial
def mx0 : W4 := ⟨608135816, 2242054355, 320440878, 57701188⟩
def mixIn (x : W4) (q : BitVec 32) : W4 := stir ⟨x.a ^^^ q, x.b, x.c, x.d⟩
def mixAt (ws : List (BitVec 32)) : Nat → W4
  | 0 => mx0
  | i + 1 => mixIn (mixAt ws i) (wd ws i)
def stirs (x : W4) : Nat → W4
  | 0 => x
  | i + 1 => stir (stirs x i)
def mixLen (x : W4) (n : Nat) : W4 := ⟨x.a, x.b, x.c ^^^ BitVec.ofNat 32 n, x.d⟩
def mixv (os : List UInt8) : W4 := stirs (mixLen (mixAt (words os) (words os).length) os.length) 6
abbrev JM (os : List UInt8) (news : Led) (lx : Addr × Obj) (i : Nat) (m : Str → Option Value) (nw : Led) : Prop :=
  (∃ t, m "octets" = some (.bytes os.toArray t)) ∧ ∃ D ta tb tc td n, m "state" = some (.ref D) ∧ LCg.Off1 D news ∧ nw = (D, tup4 (mixAt (words os) i).a (mixAt (words os) i).b (mixAt (words os) i).c (mixAt (words os) i).d ta tb tc td n) :: lx :: news
abbrev JX (x : W4) (news : Led) (m : Str → Option Value) (nw : Led) : Prop :=
  ∃ D ta tb tc td n, m "state" = some (.ref D) ∧ LCg.Off1 D news ∧ nw = (D, tup4 x.a x.b x.c x.d ta tb tc td n) :: news
theorem con_mix (w : World) (os : List UInt8) (hb : os.length ≤ 64) (u : Tok) : Con w 90 4 [.bytes os.toArray u] none0 (OutW4 (mixv os)) := by
  have hwl := words_length os
  ktr_unf
  intro prog p loose mean mg mb dp un gd cn cs a ccd cl outer A₀ base h₀ L m news s Q E B F X N T hk hok hd hu hret
  ktn_open
  k_steps
  (with_reducible rename Fr _ _ _ _ => lF)
  (with_reducible rename News _ _ _ _ => lN)
  (with_reducible rename AllIs _ _ _ => lV)
  have lN' := news_swap lN
  clear lN
  refine halt (for_list (by rfl) lF lN' (List.mem_cons_of_mem _ List.mem_cons_self) (JM os news _) ⟨⟨_, rfl⟩, _, _, _, _, _, _, rfl, off_of (ne_below (by assumption) (Nat.le_refl _)), rfl⟩ ?_ ?_ ?_)
  · rintro i m nw ⟨_, D, ta, tb, tc, td, n, _, _, rfl⟩
    exact List.mem_cons_of_mem _ List.mem_cons_self
  · rintro i v m₁ nw h tk I oI hv ⟨⟨t1, e1⟩, D, ta, tb, tc, td, n, e2, oD, rfl⟩ F₁ N₁ off
    obtain ⟨wq, hw, t, rfl⟩ := lV.get' hv
    have F₂ := fr_at2 F₁ e1 e2
    clear F₁ lF lN'
    obtain rfl : wd (words os) i = wq := by rw [wd, hw]; rfl
    k_steps
    (with_reducible rename News _ _ _ _ => lN)
    exact tnextS lN (by k_asm) (by k_mem) (by kcf_all) (fun p hp => off p (List.mem_cons_of_mem _ hp)) (by assumption) ⟨⟨_, rfl⟩, _, _, _, _, _, _, rfl, off_sub (by assumption) (by kcf_all), rfl⟩
  · rintro m₁ nw h tk ⟨⟨t1, e1⟩, D, ta, tb, tc, td, n, e2, oD, rfl⟩ F₁ N₁
    have F₂ := fr_at2 F₁ e1 e2
    rw [← lV.length] at N₁
    clear F₁ lF lN'
    k_steps
    (with_reducible rename Fr _ _ _ _ => lF)
    (with_reducible rename News _ _ _ _ => lN)
    have lN' := news_keep1 (news := news) lN (by kcf_all)
    clear lN
    refine halt (for_range (n := 6) (by rfl) (by k_asm) (by decide) (by decide) lF lN' (fun i m nw => JX (stirs (mixLen (mixAt (words os) (words os).length) os.length) i) news m nw) ⟨_, _, _, _, _, _, rfl, off_lt (by lcg_off), rfl⟩ ?_ ?_)
    · rintro i t m₁ nw h tk I oI hi ⟨D, ta, tb, tc, td, n, e2, oD, rfl⟩ F₁ N₁ off
      have F₂ := fr_at F₁ e2
      clear F₁ lF lN'
      k_steps
      (with_reducible rename News _ _ _ _ => lN)
      exact tnextS lN (by k_asm) (by k_mem) (by kcf_all) (fun p hp => off p (List.mem_cons_of_mem _ hp)) (by assumption) ⟨_, _, _, _, _, _, rfl, off_sub (by assumption) (by kcf_all), rfl⟩
    · rintro m₁ nw h tk ⟨D, ta, tb, tc, td, n, e2, oD, rfl⟩ F₁ N₁
      have F₂ := fr_at F₁ e2
      clear F₁ lF lN'
      k_steps
      all_goals (refine' endW4o hret ?F9 ?N9 ?m9 ?s9 ?l9 ?x9; (case F9 => k_asm); (case N9 => k_asm); (case m9 => k_mem); (case s9 => kcf_all); (case l9 => assumption); (case x9 => rfl))
end
section
open PySem PySem.W PyProof.Rows PySem.Spec PySem.Calls
set_option maxRecDepth 100000
set_option maxHeartbeats 1000000
theorem rows_C10_1 : True := by
  w_top off
  k_with_none
  (k_with "ktn_open" => (refine wpAny_call ?_; k_dflt (refine' code_defC ?k1 ?k2 ?k3 ?k4 ?k5 ?kA ?kF ?kK ?k6 ?k7 ?k8 ?k9 ?kB ?kD ?_ ?c2 ?c3 ?c4; (case kA | kF => exact rfl); (case kK => assumption); (case k1 | k2 | k3 | k4 | k5 => k_asm); (case k6 | k7 => k_is); (case k8 => ktr_room); (case k9 => exact BindsTo.of_eq rfl); (case kB => exact rfl); (case kD => decide +kernel); (case c2 | c3 | c4 => exact rfl); k_whole; intro g' L' h' tk' cells' FG' F' N' Y' B' X' T' l1; (try k_lt l1); k_cells Y'; (try simp only [List.cons_append, List.nil_append] at N'); (try dsimp only); (try k_lift B'); (try k_fold))))
  (k_with "ktr_unf" => (unfold Con; refine fillK ?_; k_fill; intro hZZ; clear hZZ))
  (k_with "k_steps" => repeat' (first | (k_unfold; (try dsimp only)) | walk1 | (dsimp only; walk1) | (leave1; walk_say "STEP leave1"; try dsimp only) | fail "no step"))
  (k_with "k_mem" => first | exact List.mem_cons_self | (refine List.mem_cons_of_mem _ ?_; k_mem) | with_reducible assumption)
  (k_with "k_all" => first | (refine ne_below (by assumption) ?q9; (case q9 => ((try dsimp only); omega))) | exact off_mem (by assumption) | exact off_mem (off_lt (by assumption)))
  (k_with "eval Constant int" => (k_dflt (refine wn_const ?_)))
  (k_with "binaryOp BitAnd int int" => (k_here; (with_reducible first | refine wp_and ?_ | refine wp_andN ?_ | refine wp_andM ?_)))
  (k_with "binaryOp Mult int int" => (k_here; (with_reducible refine wn_mul ?hb ?_); (case hb => first | exact Or.inl (by omega) | exact Or.inr (by omega))))
  (k_with "binaryOp Add int int" => (k_here; (with_reducible refine wn_add ?_)))
  (k_with "binaryOp FloorDiv int int" => (k_here; (with_reducible refine wn_div ?hb ?hc ?_); (case hb => first | decide | exact Nat.ne_of_gt (Nat.two_pow_pos _)); (case hc => first | decide | exact Nat.pow_lt_pow_right (by decide) (by omega))))
  (k_with "binaryOp Sub int int" => (k_here; (with_reducible refine wn_sub ?hb ?_); (case hb => omega)))
  (k_with "call builtin:len" => ((k_here; (with_reducible show wpAny _ _ (call (Value.builtin "len") [Value.ref _]) _ _ _); k_dflt (refine (l_len (by k_asm) (by k_mem) (by (first | omega | (simp only [List.length_append, List.length_replicate, List.length_take, List.length_drop, List.length_cons, List.length_nil]; omega))) ?_))); intros))
  (k_with "eval ListComp" => (k_here; k_dflt (refine comp_E (by with_unfolding_all rfl) (by rfl) (by decide) ?_)))
  (k_with "exec Assign cons ListComp" => (k_here; k_dflt (refine comp_A (by with_unfolding_all rfl) (by with_unfolding_all rfl) (by rfl) (by decide) ?_)))
  (k_with "call type:enumerate" => (refine stopAt ?_))
  (k_with "call builtin:sum" => ((k_here; (with_reducible show wpAny _ _ (call (Value.builtin "sum") [Value.ref _]) _ _ _); k_dflt (refine (l_sum (by with_unfolding_all rfl) (by k_asm) (by k_asm) (by k_mem) (by assumption) ?_))); intros))
  (k_with "lcg_off" => first | exact allLt_of (by assumption) | assumption | exact an1 (by assumption) | exact an2 (by assumption) | exact an3 (by assumption) | exact an4 (by assumption) | exact an5 (by assumption) | exact an6 (by assumption) | exact an7 (by assumption) | exact an8 (by assumption) | exact an9 (by assumption) | exact an10 (by assumption) | exact an11 (by assumption) | exact an12 (by assumption) | exact an13 (by assumption) | exact an14 (by assumption) | exact an15 (by assumption) | exact an16 (by assumption) | exact an17 (by assumption) | exact an18 (by assumption) | exact an19 (by assumption) | exact an20 (by assumption) | exact an21 (by assumption) | exact an22 (by assumption) | exact an23 (by assumption) | exact an24 (by assumption))
  (k_with "call ref" => ((k_here; (with_reducible show wpAny _ _ (call (Value.ref 57) _) _ _ _); k_dflt (refine use_Ws (by k_asm) (by k_asm) (by k_asm) (by k_asm) (by k_asm) (by first | exact rfl | assumption) (by first | exact True.intro | k_mem | exact ⟨by k_mem, by k_mem⟩) (by ktr_room) (by ktr_units) (con_words _ _ (by omega) _) ?_; intros; (try dsimp only); (try k_sweep); (try k_fold))); ((with_reducible rename LCg.Off1 _ _ => off'); (try dsimp only [LCg.Off1] at off'))))
  trivial
def fl4 (ws : List (BitVec 32)) : W4 :=
  ⟨BitVec.ofNat 32 (ws.map fun x => x.toNat).sum,
   BitVec.ofNat 32 ((List.range ws.length).map fun k => (ws.length - k) * (wd ws k).toNat).sum,
   BitVec.ofNat 32 ((List.range ws.length).map fun k => (ws.length - k) * (ws.length - k + 1) / 2 * (wd ws k).toNat).sum,
   BitVec.ofNat 32 ((List.range ws.length).map fun k => (ws.length - k) * (ws.length - k + 1) * (ws.length - k + 2) / 6 * (wd ws k).toNat).sum⟩
theorem con_fletcher4 (w : World) (os : List UInt8) (hb : os.length ≤ 64) (u : Tok) : Con w 69 4 [.bytes os.toArray u] none0 (OutW4 (fl4 (words os))) := by
  have hwl := words_length os
  ktr_unf
  intro prog p loose mean mg mb dp un gd cn cs a ccd cl outer A₀ base h₀ L m news s Q E B F X N T hk hok hd hu hret
  ktn_open
  k_steps
  (with_reducible rename Fr _ _ _ _ => lF)
  (with_reducible rename News _ _ _ _ => lN)
  (with_reducible rename AllIs _ _ _ => lV)
  have hvl := lV.length
  refine goOn (wpAny_mono ?_ (fun _ _ h => halt h) (fun _ _ h => h))
  k_dflt (refine enum_list (by rfl) (by rw [PySem.sizeLine_eq]; omega) List.mem_cons_self (by decide) (by rfl) (by rfl) (by rfl) (by decide) lF lN (JR (words os) _) ⟨fun p hp => hp, [], ⟨rfl, fun k r h => by simp at h⟩, rfl, fun r hr => nomatch hr⟩ (fun i ys nw h => h.1 _ List.mem_cons_self) ?_ ?_)
  · rintro i v t₁ ys nw I oI I₂ oI₂ C oC D m₂ h tk s₂ E' hv ⟨hled, rs, hR, rfl, hrs⟩ hC h1 h2 F₁ N₁ off
    have m1 := hled _ List.mem_cons_self
    have m2 := hled _ (List.mem_cons_of_mem _ List.mem_cons_self)
    obtain ⟨wq, hw, t, rfl⟩ := lV.get' hv
    have hi : i < (words os).length := (List.getElem?_eq_some_iff.mp hw).1
    obtain rfl : wd (words os) i = wq := by rw [wd, hw]; rfl
    clear lF lN
    k_steps
    (with_reducible rename News _ _ _ _ => lN)
    exact endP_row lN (by k_asm) (by assumption) off (jr_snoc hled hR hrs (nv_eq (by rw [hvl]) _) ⟨_, rfl⟩)
  · rintro ys nw ⟨hled, rs, hR, rfl, hrs⟩
    k_dflt (refine back_assign (by rfl) (by rfl) (by rfl) ?_)
    intro D h tk F₁ N₁ o1
    have m1 := hled _ List.mem_cons_self
    have m2 := hled _ (List.mem_cons_of_mem _ List.mem_cons_self)
    rw [← hvl] at hR
    have hn : ∀ p ∈ news, p ∈ nw := fun p hp => hled p (List.mem_cons_of_mem _ (List.mem_cons_of_mem _ hp))
    clear lF lN
    k_steps
    (with_reducible rename Fr _ _ _ _ => lF)
    (with_reducible rename News _ _ _ _ => lN)
    k_dflt (refine' halt (rows_list (rs := rs) (by rfl) rfl (by rw [PySem.sizeLine_eq, hR.1]; omega) ?mq1 ?rq1 (by decide) (by rfl) (by rfl) (by rfl) (by decide) lF lN (fun i ys nw => nw = _ ∧ AllIs (fun k v => NatIs (((words os).length - k) * (wd (words os) k).toNat) v) (List.range i) ys) ⟨rfl, .nil⟩ ?jq1 ?_ ?_))
    case mq1 => k_mem
    case rq1 => (intro r hr; have := hrs r hr; k_mem)
    case jq1 => (rintro i ys nw ⟨rfl, _⟩; refine ⟨?_, fun r hr => ?_⟩; k_mem; (have := hrs r hr; k_mem))
    · rintro i r ys nw I oI C oC D m₂ h tk s₂ E' hri ⟨rfl, hys⟩ hC h1 h2 F₁ N₁ off ne
      obtain ⟨⟨tx, ex⟩, ty, ey⟩ := hR.2 i r hri
      rw [ex] at h1
      rw [ey] at h2
      have hlt := (wd (words os) i).isLt
      clear lF lN
      k_steps
      dsimp only
      refine halt ⟨_, _, _, rfl, F₁, N₁, off, trivial, rfl, ?_⟩
      rw [List.range_succ]
      exact hys.snoc (natIs _ _)
    rintro ys nw ⟨rfl, hys⟩
    rw [hR.1] at hys
    refine back_none fun D h tk F₁ N₁ o1 => ?_
    clear lF lN
    k_steps
    (with_reducible rename Fr _ _ _ _ => lF)
    (with_reducible rename News _ _ _ _ => lN)
    k_dflt (refine' halt (rows_list (rs := rs) (by rfl) rfl (by rw [PySem.sizeLine_eq, hR.1]; omega) ?mq2 ?rq2 (by decide) (by rfl) (by rfl) (by rfl) (by decide) lF lN (fun i ys nw => nw = _ ∧ AllIs (fun k v => NatIs (((words os).length - k) * (((words os).length - k) + 1) / 2 * (wd (words os) k).toNat) v) (List.range i) ys) ⟨rfl, .nil⟩ ?jq2 ?_ ?_))
    case mq2 => k_mem
    case rq2 => (intro r hr; have := hrs r hr; k_mem)
    case jq2 => (rintro i ys nw ⟨rfl, _⟩; refine ⟨?_, fun r hr => ?_⟩; k_mem; (have := hrs r hr; k_mem))
    · rintro i r ys nw I oI C oC D m₂ h tk s₂ E' hri ⟨rfl, hys⟩ hC h1 h2 F₁ N₁ off ne
      obtain ⟨⟨tx, ex⟩, ty, ey⟩ := hR.2 i r hri
      rw [ex] at h1
      rw [ey] at h2
      have hlt := (wd (words os) i).isLt
      clear lF lN
      k_steps
      dsimp only
      refine halt ⟨_, _, _, rfl, F₁, N₁, off, trivial, rfl, ?_⟩
      rw [List.range_succ]
      exact hys.snoc (natIs _ _)
    rintro ys nw ⟨rfl, hys⟩
    rw [hR.1] at hys
    refine back_none fun D h tk F₁ N₁ o1 => ?_
    clear lF lN
    k_steps
    (with_reducible rename Fr _ _ _ _ => lF)
    (with_reducible rename News _ _ _ _ => lN)
    k_dflt (refine' halt (rows_list (rs := rs) (by rfl) rfl (by rw [PySem.sizeLine_eq, hR.1]; omega) ?mq3 ?rq3 (by decide) (by rfl) (by rfl) (by rfl) (by decide) lF lN (fun i ys nw => nw = _ ∧ AllIs (fun k v => NatIs (((words os).length - k) * (((words os).length - k) + 1) * (((words os).length - k) + 2) / 6 * (wd (words os) k).toNat) v) (List.range i) ys) ⟨rfl, .nil⟩ ?jq3 ?_ ?_))
    case mq3 => k_mem
    case rq3 => (intro r hr; have := hrs r hr; k_mem)
    case jq3 => (rintro i ys nw ⟨rfl, _⟩; refine ⟨?_, fun r hr => ?_⟩; k_mem; (have := hrs r hr; k_mem))
    · rintro i r ys nw I oI C oC D m₂ h tk s₂ E' hri ⟨rfl, hys⟩ hC h1 h2 F₁ N₁ off ne
      obtain ⟨⟨tx, ex⟩, ty, ey⟩ := hR.2 i r hri
      rw [ex] at h1
      rw [ey] at h2
      have hlt := (wd (words os) i).isLt
      clear lF lN
      k_steps
      dsimp only
      refine halt ⟨_, _, _, rfl, F₁, N₁, off, trivial, rfl, ?_⟩
      rw [List.range_succ]
      exact hys.snoc (natIs _ _)
    rintro ys nw ⟨rfl, hys⟩
    rw [hR.1] at hys
    refine back_none fun D h tk F₁ N₁ o1 => ?_
    clear lF lN
    k_steps
    all_goals (refine' endW4 hret ?F9 ?N9 ?m9 ?s9 ?l9 ?x9; (case F9 => k_asm); (case N9 => k_asm); (case m9 => k_mem); (case s9 => (intro p hp; have := hn p hp; k_mem)); (case l9 => exact allLt_sub hn (by lcg_off)); (case x9 => rfl))
end
section
open PySem PySem.W PyProof.Rows PySem.Spec PySem.Calls
set_option maxRecDepth 100000
set_option maxHeartbeats 1000000
theorem rows_C11_1 : True := by
  w_top off
  k_with_none
  (k_with "ktn_open" => (refine wpAny_call ?_; k_dflt ktr_enter))
  (k_with "ktr_unf" => (unfold Con; refine fillK ?_; k_fill; intro hZZ; clear hZZ))
  (k_with "k_steps" => repeat' (first | (k_unfold; (try dsimp only)) | walk1 | (dsimp only; walk1) | (leave1; walk_say "STEP leave1"; try dsimp only) | fail "no step"))
  (k_with "k_mem" => first | exact List.mem_cons_self | (refine List.mem_cons_of_mem _ ?_; k_mem) | with_reducible assumption)
  (k_with "k_all" => first | (refine ne_below (by assumption) ?q9; (case q9 => ((try dsimp only); omega))) | exact off_mem (by assumption) | exact off_mem (off_lt (by assumption)))
  (k_with "lcg_off" => first | exact allLt_of (by assumption) | assumption | exact an1 (by assumption) | exact an2 (by assumption) | exact an3 (by assumption) | exact an4 (by assumption) | exact an5 (by assumption) | exact an6 (by assumption) | exact an7 (by assumption) | exact an8 (by assumption) | exact an9 (by assumption) | exact an10 (by assumption) | exact an11 (by assumption) | exact an12 (by assumption) | exact an13 (by assumption) | exact an14 (by assumption) | exact an15 (by assumption) | exact an16 (by assumption) | exact an17 (by assumption) | exact an18 (by assumption) | exact an19 (by assumption) | exact an20 (by assumption) | exact an21 (by assumption) | exact an22 (by assumption) | exact an23 (by assumption) | exact an24 (by assumption))
  (k_with "call ref" => ((first | (k_here; (with_reducible show wpAny _ _ (call (Value.ref 64) _) _ _ _); k_dflt (refine use_4 (by k_asm) (by k_asm) (by k_asm) (by k_asm) (by k_asm) (by first | exact rfl | assumption) (by first | exact True.intro | k_mem | exact ⟨by k_mem, by k_mem⟩) (by ktr_room) (by ktr_units) (con_fletcher2 _ _ (by omega) _) ?_; intros; (try dsimp only); (try k_sweep); (try k_fold))) | (k_here; (with_reducible show wpAny _ _ (call (Value.ref 69) _) _ _ _); k_dflt (refine use_4 (by k_asm) (by k_asm) (by k_asm) (by k_asm) (by k_asm) (by first | exact rfl | assumption) (by first | exact True.intro | k_mem | exact ⟨by k_mem, by k_mem⟩) (by ktr_room) (by ktr_units) (con_fletcher4 _ _ (by omega) _) ?_; intros; (try dsimp only); (try k_sweep); (try k_fold))) | (k_here; (with_reducible show wpAny _ _ (call (Value.ref 90) _) _ _ _); k_dflt (refine use_4 (by k_asm) (by k_asm) (by k_asm) (by k_asm) (by k_asm) (by first | exact rfl | assumption) (by first | exact True.intro | k_mem | exact ⟨by k_mem, by k_mem⟩) (by ktr_room) (by ktr_units) (con_mix _ _ (by omega) _) ?_; intros; (try dsimp only); (try k_sweep); (try k_fold)))); ((with_reducible rename LCg.Off1 _ _ => off'); (try dsimp only [LCg.Off1] at off'))))
  trivial
theorem con_sum0 (w : World) (os : List UInt8) (u t : Tok) : Con w 97 5 [.int 0 t, .bytes os.toArray u] none0 (fun r tl => r = .ref 52 ∧ tl = []) := by
  ktr_unf
  intro prog p loose mean mg mb dp un gd cn cs a ccd cl outer A₀ base h₀ L m news s Q E B F X N T hk hok hd hu hret
  ktn_open
  k_steps
  all_goals (refine' hret _ [] _ _ ?F9 ?N9 lt_nil ⟨rfl, rfl⟩; (case F9 => k_asm); (case N9 => k_asm))
theorem con_sum1 (w : World) (os : List UInt8) (hb : os.length ≤ 64) (u t : Tok) : Con w 97 5 [.int 1 t, .bytes os.toArray u] none0 (OutW4 (fl2 (words os))) := by
  ktr_unf
  intro prog p loose mean mg mb dp un gd cn cs a ccd cl outer A₀ base h₀ L m news s Q E B F X N T hk hok hd hu hret
  ktn_open
  k_steps
  all_goals (refine' endW4o hret ?F9 ?N9 ?m9 ?s9 ?l9 ?x9; (case F9 => k_asm); (case N9 => k_asm); (case m9 => k_mem); (case s9 => kcf_all); (case l9 => assumption); (case x9 => rfl))
theorem con_sum2 (w : World) (os : List UInt8) (hb : os.length ≤ 64) (u t : Tok) : Con w 97 5 [.int 2 t, .bytes os.toArray u] none0 (OutW4 (fl4 (words os))) := by
  ktr_unf
  intro prog p loose mean mg mb dp un gd cn cs a ccd cl outer A₀ base h₀ L m news s Q E B F X N T hk hok hd hu hret
  ktn_open
  k_steps
  all_goals (refine' endW4o hret ?F9 ?N9 ?m9 ?s9 ?l9 ?x9; (case F9 => k_asm); (case N9 => k_asm); (case m9 => k_mem); (case s9 => kcf_all); (case l9 => assumption); (case x9 => rfl))
theorem con_sum3 (w : World) (os : List UInt8) (hb : os.length ≤ 64) (u t : Tok) : Con w 97 5 [.int 3 t, .bytes os.toArray u] none0 (OutW4 (mixv os)) := by
  ktr_unf
  intro prog p loose mean mg mb dp un gd cn cs a ccd cl outer A₀ base h₀ L m news s Q E B F X N T hk hok hd hu hret
  ktn_open
  k_steps
  all_goals (refine' endW4o hret ?F9 ?N9 ?m9 ?s9 ?l9 ?x9; (case F9 => k_asm); (case N9 => k_asm); (case m9 => k_mem); (case s9 => kcf_all); (case l9 => assumption); (case x9 => rfl))
end
section
open PySem PySem.W PyProof.Rows PySem.Spec PySem.Calls
set_option maxRecDepth 100000
set_option maxHeartbeats 4000000
noncomputable def KF (P : Params) : Frag := (0, PySem.W.boot_o_0 P) :: Mine.hd.heap_1 P
theorem kf_in {P : Params} {h : Heap} (X : (Mine.hd.heap_1 P).In h) (B : h.get? 0 = some (PySem.W.boot_o_0 P)) : (KF P).In h := by
  intro a o e
  unfold KF at e
  rw [List.lookup_cons] at e
  split at e
  · rename_i q
    rw [beq_iff_eq.mp q, B]; exact e
  · exact X a o e
/-- object 0 with its texts written out; the way there is left behind, the kernel reckons it once more -/
noncomputable def b0 (P : Params) : Obj := by
  refine' (?f : (o : Obj) → PySem.W.boot_o_0 P = o → Obj) _ ?h
  case f => exact fun o _ => o
  case h =>
    unfold PySem.W.boot_o_0
    simp only [Str.ofString_eq_byList, Str.ofStringByList, String.reduceToList, List.map_cons, List.map_nil, Char.reduceToNat]
    rfl
theorem b0_eq (P : Params) : PySem.W.boot_o_0 P = b0 P := by kernel_rfl
/-- other objects so too -/
noncomputable def b2 (P : Params) : Obj := by
  refine' (?f : (o : Obj) → (Mine.hd.heap_1 P).lookup 2 = some o → Obj) _ ?h
  case f => exact fun o _ => o
  case h =>
    show some _ = some _
    simp only [Str.ofString_eq_byList, Str.ofStringByList, String.reduceToList, List.map_cons, List.map_nil, Char.reduceToNat]
    rfl
theorem b2_eq (P : Params) : (Mine.hd.heap_1 P).lookup 2 = some (b2 P) := by kernel_rfl
noncomputable def b3 (P : Params) : Obj := by
  refine' (?f : (o : Obj) → (Mine.hd.heap_1 P).lookup 3 = some o → Obj) _ ?h
  case f => exact fun o _ => o
  case h =>
    show some _ = some _
    simp only [Str.ofString_eq_byList, Str.ofStringByList, String.reduceToList, List.map_cons, List.map_nil, Char.reduceToNat]
    rfl
theorem b3_eq (P : Params) : (Mine.hd.heap_1 P).lookup 3 = some (b3 P) := by kernel_rfl
noncomputable def b27 (P : Params) : Obj := by
  refine' (?f : (o : Obj) → (Mine.hd.heap_1 P).lookup 27 = some o → Obj) _ ?h
  case f => exact fun o _ => o
  case h =>
    show some _ = some _
    simp only [Str.ofString_eq_byList, Str.ofStringByList, String.reduceToList, List.map_cons, List.map_nil, Char.reduceToNat]
    rfl
theorem b27_eq (P : Params) : (Mine.hd.heap_1 P).lookup 27 = some (b27 P) := by kernel_rfl
noncomputable def b28 (P : Params) : Obj := by
  refine' (?f : (o : Obj) → (Mine.hd.heap_1 P).lookup 28 = some o → Obj) _ ?h
  case f => exact fun o _ => o
  case h =>
    show some _ = some _
    simp only [Str.ofString_eq_byList, Str.ofStringByList, String.reduceToList, List.map_cons, List.map_nil, Char.reduceToNat]
    rfl
theorem b28_eq (P : Params) : (Mine.hd.heap_1 P).lookup 28 = some (b28 P) := by kernel_rfl
noncomputable def b30 (P : Params) : Obj := by
  refine' (?f : (o : Obj) → (Mine.hd.heap_1 P).lookup 30 = some o → Obj) _ ?h
  case f => exact fun o _ => o
  case h =>
    show some _ = some _
    simp only [Str.ofString_eq_byList, Str.ofStringByList, String.reduceToList, List.map_cons, List.map_nil, Char.reduceToNat]
    rfl
theorem b30_eq (P : Params) : (Mine.hd.heap_1 P).lookup 30 = some (b30 P) := by kernel_rfl
noncomputable def b31 (P : Params) : Obj := by
  refine' (?f : (o : Obj) → (Mine.hd.heap_1 P).lookup 31 = some o → Obj) _ ?h
  case f => exact fun o _ => o
  case h =>
    show some _ = some _
    simp only [Str.ofString_eq_byList, Str.ofStringByList, String.reduceToList, List.map_cons, List.map_nil, Char.reduceToNat]
    rfl
theorem b31_eq (P : Params) : (Mine.hd.heap_1 P).lookup 31 = some (b31 P) := by kernel_rfl
noncomputable def b43 (P : Params) : Obj := by
  refine' (?f : (o : Obj) → (Mine.hd.heap_1 P).lookup 43 = some o → Obj) _ ?h
  case f => exact fun o _ => o
  case h =>
    show some _ = some _
    simp only [Str.ofString_eq_byList, Str.ofStringByList, String.reduceToList, List.map_cons, List.map_nil, Char.reduceToNat]
    rfl
theorem b43_eq (P : Params) : (Mine.hd.heap_1 P).lookup 43 = some (b43 P) := by kernel_rfl
noncomputable def b44 (P : Params) : Obj := by
  refine' (?f : (o : Obj) → (Mine.hd.heap_1 P).lookup 44 = some o → Obj) _ ?h
  case f => exact fun o _ => o
  case h =>
    show some _ = some _
    simp only [Str.ofString_eq_byList, Str.ofStringByList, String.reduceToList, List.map_cons, List.map_nil, Char.reduceToNat]
    rfl
theorem b44_eq (P : Params) : (Mine.hd.heap_1 P).lookup 44 = some (b44 P) := by kernel_rfl
theorem in_cons {h : Heap} {c : Addr} {p : Obj} {K : Frag} (B : h.get? c = some p) (X : K.In h) : Frag.In ((c, p) :: K) h := by
  intro a o e
  rw [List.lookup_cons] at e
  split at e
  · rename_i q
    rw [beq_iff_eq.mp q, B]; exact e
  · exact X a o e
noncomputable def KB (P : Params) : Frag := (0, b0 P) :: (2, b2 P) :: (3, b3 P) :: (27, b27 P) :: (28, b28 P) :: (30, b30 P) :: (31, b31 P) :: (43, b43 P) :: (44, b44 P) :: Mine.hd.heap_1 P
theorem kb_in {P : Params} {h : Heap} (X : (Mine.hd.heap_1 P).In h) (B : h.get? 0 = some (PySem.W.boot_o_0 P)) : (KB P).In h :=
  in_cons (by rw [B, b0_eq]) (in_cons (X 2 _ (b2_eq P)) (in_cons (X 3 _ (b3_eq P)) (in_cons (X 27 _ (b27_eq P)) (in_cons (X 28 _ (b28_eq P)) (in_cons (X 30 _ (b30_eq P)) (in_cons (X 31 _ (b31_eq P)) (in_cons (X 43 _ (b43_eq P)) (in_cons (X 44 _ (b44_eq P)) (X)))))))))
/-- a made exception of the own class 44, its dict beside it -/
structure Made44 (h h' : Heap) (e : Addr) (args : List Value) : Prop where
  keeps : ∀ b o, h.get? b = some o → h'.get? b = some o
  new : h.get? e = none
  there : ∃ t dd, h'.get? e = some { cls := .ref 44, dict := some dd, data := .fields #[.ref t, .none, .none, .none, .bool false, .none] } ∧ h.get? t = none ∧
    h'.get? t = some { cls := .type "tuple", data := .seq args.toArray }
theorem close44 {hp h : Heap} {a t a1 e dd : Addr} {od o1 : Obj} {v : Value} {rest : List (Addr × Obj)} {Q : Value → Shared → Prop} {g : Array GenState} {d : Drawn} {so : OsState} {tk : Nat}
    (D : X.Mem hp h [] ((a, od) :: (t, { cls := .type "tuple", data := .seq #[v] }) :: (a1, o1) :: (e, { cls := .ref 44, dict := some dd, data := .fields #[.ref t, .none, .none, .none, .bool false, .none] }) :: rest))
    (hq : ∀ h' e tk', Made44 hp h' e [v] → Q (.ref e) ⟨h', g, d, tk', so⟩) : Q (.ref e) ⟨h, g, d, tk, so⟩ :=
  hq h e tk ⟨fun b o x => D.keep b o x (by rw [Bool.or_eq_true]; exact .inr rfl), (D.nw (e, _) (.tail _ (.tail _ (.tail _ (.head _))))).2, t, dd, (D.nw (e, _) (.tail _ (.tail _ (.tail _ (.head _))))).1, (D.nw (t, _) (.tail _ (.head _))).2, (D.nw (t, _) (.tail _ (.head _))).1⟩
theorem rows_X1_1 : True := by
  w_top off
  k_with_none
  (k_with "x_close" => ((with_reducible rename X.Mem _ _ _ _ => zD); exact close44 zD (by assumption)))
  trivial
theorem make44 (prog : Program) (w : World) (e0 e1 e2 : Env) (hp : Heap) (g : Array GenState) (d : Drawn) (tk : Nat) (so : OsState) (tt : Tok) (Q E : Value → Shared → Prop) (KX : (Mine.KB w.params).In hp)
    (hq : ∀ h' e tk', Made44 hp h' e [.str (PySem.Str.ofString "no such sum") tt] → Q (.ref e) ⟨h', g, d, tk', so⟩) :
   wpAny (model prog w) (((callerA.deeper e0).deeper e1).deeper e2) (call (.ref 44) [.str (PySem.Str.ofString "no such sum") tt]) Q E ⟨hp, g, d, tk, so⟩ := by
  x_run
end
section
open PySem PySem.W PyProof.Rows PySem.Spec PySem.Calls
set_option maxRecDepth 100000
set_option maxHeartbeats 4000000
theorem class44 {P : Params} {h : Heap} (X : (Mine.hd.heap_1 P).In h) : ∃ nm q N bs hdct sn sub ab col dd k0 k1 k2 k3 k5 newId, h.get? 44 = some (excClassObj nm q 44 N bs [.ref 31, .type "Exception", .type "BaseException", .type "object"] hdct sn sub ab col dd k0 k1 k2 k3 k5 newId) :=
  ⟨_, _, _, _, _, _, _, _, _, _, _, _, _, _, _, _, X 44 _ rfl⟩
section
variable {M : Model} {A : Around} {E : Value → Shared → Prop} {env : Env} {s : Shared}
theorem raise44 {P : Params} {x : Sem Value} {Q : Flow → Shared → Prop} (hh : A.handled = none)
    (h : wpAny M A x (fun v s₁ => ∃ e t dd, v = .ref e ∧ (Mine.hd.heap_1 P).In s₁.heap ∧
      s₁.heap.get? e = some { cls := .ref 44, dict := some dd, data := .fields #[.ref t, .none, .none, .none, .bool false, .none] } ∧ E (.ref e) s₁) E s) :
    wpAny M A (raiseStmt env (some x) none) Q E s := by
  unfold raiseStmt
  refine wpAny_bind (wpAny_mono h (fun v s₁ h₁ => ?_) fun _ _ x => x)
  obtain ⟨e, t, dd, rfl, X, he, hE⟩ := h₁
  obtain ⟨nm, q, N, bs, hdct, sn, sub, ab, col, dd', k0, k1, k2, k3, k5, newId, hC⟩ := class44 X
  have hcB : (Value.ref 44 :: [.ref 31, .type "Exception", .type "BaseException", .type "object"]).contains (.type "BaseException") = true := by decide
  obtain ⟨hp, g, d, tk, os⟩ := s₁
  repeat (first | with_reducible refine wpAny_loadPart_at he ?_ | with_reducible refine wpAny_loadPart_at hC ?_ | (with_reducible refine wpAny_isSubtype_exc hC ?_; rw [hcB]) | wp_step)
  exact wpAny_raiseNew_none hh hE
end
section
variable {M : Model} {A : Around} {E : Value → Shared → Prop} {s' : Shared} {base g g₂ h : Heap} {outer : List Env} {L a e t : Addr} {m : Str → Option Value} {name : Str} {scope : Scope} {cd : Value} {Q : Unit → Shared → Prop} {news : List (Addr × Obj)}
theorem leaves_made44 {base h : Heap} {env : Env} {outer : List Env} {L e : Addr} {args : List Value} {Q : Unit → Shared → Prop}
    (hfr : A.frames = some (env :: outer)) (hf : env.frame = some L) (hkb : base.StaysIn h) (hl : h.FunFrames base (env :: outer)) (hx : Made44 h s'.heap e args)
    (hQ : ∀ h' t, Heap.FlyingW base outer e (.ref 44) (.ref t) h' → h'.TupAt t args → base.get? t = none → s'.heap.UpToSlots h' → Q () { s' with heap := h' }) : wpAny M A (leaving env (.ref e)) Q E s' := by
  obtain ⟨t, dd, he, htn, ht⟩ := hx.there
  have fresh : ∀ b, h.get? b = none → base.get? b = none := fun b hb => by
    cases hq : base.get? b with
    | none => rfl
    | some o' =>
      have z := hkb b o' hq
      rw [hb] at z
      cases z
  refine wpAny_leaving_firstW (a0 := .ref t) hfr (hl.of_keeps fun b o hb _ => ⟨o, hx.keeps b o hb, rfl⟩) hf he (fun b o hb => hx.keeps b o (hkb b o hb)) (fresh e hx.new) rfl rfl rfl fun h' hL => ?_
  obtain ⟨k1, ⟨_, _, k2⟩, k3, k4⟩ := hL
  exact hQ h' t ⟨k1, fresh e hx.new, k2, k3⟩ (Heap.TupAt.of_slots ⟨_, _, ht, rfl, rfl⟩ k4) (fresh t htn) k4
theorem leave_raise44 {vs : List Value} (K : Below A base outer g) (hx : Made44 h s'.heap e vs) (F : Fr g L h m) (N : News g L h news)
    (hQ : ∀ h' t, RaisedK base outer e (.ref 44) t vs news h' → g.UpToSlots h' → Q () { s' with heap := h' }) (hk : scope.kind = .function := by rfl) :
    wpAny M (A.deeper (envOf name scope L a cd)) (leaving (envOf name scope L a cd) (.ref e)) Q E s' := by
  have K' := K.push (name := name) (a := a) (cd := cd) F hk
  have hin : ∀ env ∈ (envOf name scope L a cd :: outer), ∀ b, env.frame = some b → b ∈ (envOf name scope L a cd :: outer).filterMap (·.frame) := fun env he b hb => List.mem_filterMap.mpr ⟨env, he, hb⟩
  have st : base.StaysIn (hideAll h ((envOf name scope L a cd :: outer).filterMap (·.frame))) := fun b o q => hideAll_get _ (K'.stays b o q) fun hm => by
    rw [(K'.frames.mem hm).1] at q
    cases q
  have hl : ∀ q ∈ news, (hideAll h ((envOf name scope L a cd :: outer).filterMap (·.frame))).get? q.1 = some q.2 ∧ base.get? q.1 = none := fun q hq => by
    refine ⟨hideAll_get _ (N q hq).1 fun hm => ?_, fresh_of_stays K.stays (N q hq).2.2⟩
    obtain ⟨env, he, hf⟩ := List.mem_filterMap.mp hm
    rcases List.mem_cons.mp he with rfl | he
    · exact (N q hq).2.1 (Option.some.inj hf).symm
    · obtain ⟨o, ho, _⟩ := (K.frames.mem (List.mem_filterMap.mpr ⟨env, he, hf⟩)).2
      rw [(N q hq).2.2] at ho
      cases ho
  exact leaves_made44 K'.stack rfl (fun b o q => of_hideAll _ q) (funFrames_hide K'.frames hin) hx fun h' t x1 x2 x3 x4 =>
    hQ h' t ⟨⟨_, st, hl, x1, x3⟩, x2⟩ (((Heap.UpToSlots.of_keeps F.keep).trans (Heap.UpToSlots.of_keeps hx.keeps)).trans x4)
end
section
variable {prog : Program} {w : World} {A : Around} {E : Value → Shared → Prop} {env : Env} {s : Shared}
theorem Raise44 {P : Params} {x : PySem.Expr} {pos : Pos} {Q : Flow → Shared → Prop} {h₀ : Heap} (_X : (Mine.hd.heap_1 P).In h₀) (hh : A.handled = none)
    (h : wpAny (model prog w) A (eval x env) (fun v s₁ => Halt (∃ e args h₁, v = .ref e ∧ (Mine.hd.heap_1 P).In h₁ ∧ Made44 h₁ s₁.heap e args ∧ E (.ref e) s₁)) E s) :
    wpAny (model prog w) A (exec (.Raise (some x) none pos) env) Q E s := by
  rw [arm_exec_Raise]
  refine wpAny_bind (wpAny_standAt ?_)
  refine raise44 (P := P) hh ?_
  refine wpAny_bind (wpAny_mono h (fun v s₁ h₁ => wpAny_bind (wpAny_standAt (wpAny_pure ?_))) fun _ _ y => y)
  obtain ⟨e, args, hp, rfl, X, M, hE⟩ := h₁
  obtain ⟨t, dd, he, _, _⟩ := M.there
  exact ⟨e, t, dd, rfl, fun a o q => M.keeps _ _ (X a o q), he, hE⟩
theorem in_fr {P : Params} {h₀ h : Heap} {L : Addr} {m : Str → Option Value} (X : (Mine.hd.heap_1 P).In h₀) (F : Fr h₀ L h m) : (Mine.hd.heap_1 P).In h := fun a o e => F.keep a o (X a o e)
end
end
section
open PySem PySem.W PyProof.Rows PySem.Spec PySem.Calls
set_option maxRecDepth 100000
set_option maxHeartbeats 4000000
section
variable {M : Model} {A : Around} {E : Value → Shared → Prop} {s' : Shared} {base g g₂ h : Heap} {outer : List Env} {L a e t : Addr} {m : Str → Option Value} {name : Str} {scope : Scope} {cd : Value} {Q : Unit → Shared → Prop} {news : List (Addr × Obj)}
theorem leave_raise44S {vs : List Value} (K : Below A base outer g) (hx : Made44 h s'.heap e vs) (F : Fr g L h m) (N : News g L h news)
    (hQ : ∀ h' t, RaisedS base g outer e (.ref 44) t vs news h' → RaisedK base outer e (.ref 44) t vs news h' → g.UpToSlots h' → Q () { s' with heap := h' }) (hk : scope.kind = .function := by rfl) :
    wpAny M (A.deeper (envOf name scope L a cd)) (leaving (envOf name scope L a cd) (.ref e)) Q E s' := by
  have K' := K.push (name := name) (a := a) (cd := cd) F hk
  have hin : ∀ env ∈ (envOf name scope L a cd :: outer), ∀ b, env.frame = some b → b ∈ (envOf name scope L a cd :: outer).filterMap (·.frame) := fun env he b hb => List.mem_filterMap.mpr ⟨env, he, hb⟩
  have st : base.StaysIn (hideAll h ((envOf name scope L a cd :: outer).filterMap (·.frame))) := fun b o q => hideAll_get _ (K'.stays b o q) fun hm => by
    rw [(K'.frames.mem hm).1] at q
    cases q
  have sg : ∀ b o, g.get? b = some o → b ∉ outer.filterMap (·.frame) → (hideAll h ((envOf name scope L a cd :: outer).filterMap (·.frame))).get? b = some o := fun b o q nm => hideAll_get _ (F.keep b o q) fun hm => by
    rcases kts_mem hm with z | z
    · rw [z, kts_self F] at q
      cases q
    · exact nm z
  have hl : ∀ q ∈ news, (hideAll h ((envOf name scope L a cd :: outer).filterMap (·.frame))).get? q.1 = some q.2 ∧ g.get? q.1 = none ∧ base.get? q.1 = none := fun q hq => by
    refine ⟨hideAll_get _ (N q hq).1 fun hm => ?_, (N q hq).2.2, fresh_of_stays K.stays (N q hq).2.2⟩
    obtain ⟨env, he, hf⟩ := List.mem_filterMap.mp hm
    rcases List.mem_cons.mp he with rfl | he
    · exact (N q hq).2.1 (Option.some.inj hf).symm
    · obtain ⟨o, ho, _⟩ := (K.frames.mem (List.mem_filterMap.mpr ⟨env, he, hf⟩)).2
      rw [(N q hq).2.2] at ho
      cases ho
  exact leaves_made44 K'.stack rfl (fun b o q => of_hideAll _ q) (funFrames_hide K'.frames hin) hx fun h' t x1 x2 x3 x4 =>
    have R : RaisedS base g outer e (.ref 44) t vs news h' := ⟨⟨_, st, sg, hl, x1, x3⟩, x2⟩
    hQ h' t R R.toK (((Heap.UpToSlots.of_keeps F.keep).trans (Heap.UpToSlots.of_keeps hx.keeps)).trans x4)
end
section
variable {prog : Program} {w : World} {A₀ A : Around} {s : Shared} {base h₀ g₀ : Heap} {outer : List Env} {L a : Addr} {m : Str → Option Value} {env : Env} {news : List (Addr × Obj)} {K : Frag} {p : Program} {loose : List Str} {mean : ExcName → Option Value} {mg mb : Str → Option Value}
    {R : Result → Shared → Prop} {name qual : Str} {params : Arguments} {body : List Stmt} {scope : Scope} {dV kV doc pm cdv ct oc : Value} {an od : Option Addr} {osl : Array (Option Value)} {f : Addr} {args : Args} {binds : List (Str × Value)}
theorem enterX (B : Below A₀ base outer h₀) (F : Fr h₀ L s.heap m) (N : News h₀ L s.heap news) (hA : A.frames = some (env :: outer)) (hf : env.frame = some L) (hck : env.scope.kind = .function) :
    ∃ oL es ep, (hideAll s.heap (news.map (·.1))).get? L = some oL ∧ oL.data = .dict es ep ∧ (∀ h', h'.get? L = some oL → Heap.Ns h' L m) ∧ (∀ (sl : Array (Option Value)) h', h'.get? L = some { oL with slots := sl } → Heap.Ns h' L m) ∧
      h₀.StaysIn (hideAll s.heap (news.map (·.1))) ∧ Below A base (env :: outer) (hideAll s.heap (news.map (·.1))) := by
  have nm : ∀ b o, h₀.get? b = some o → b ∉ news.map (·.1) := fun b o e q => by
    obtain ⟨p, hp, rfl⟩ := List.mem_map.mp q
    rw [(N p hp).2.2] at e
    cases e
  have st : h₀.StaysIn (hideAll s.heap (news.map (·.1))) := fun b o e => hideAll_get _ (F.keep b o e) (nm b o e)
  obtain ⟨oL, es, ep, hL, hLd, hLk, hLf⟩ := F.ns
  have nL : L ∉ news.map (·.1) := fun q => by
    obtain ⟨p, hp, e⟩ := List.mem_map.mp q
    exact (N p hp).2.1 e
  have hLg := hideAll_get (news.map (·.1)) hL nL
  have B₁ := pushX (env := env) B F hf hck
  exact ⟨oL, es, ep, hLg, hLd, fun h' e => ⟨oL, es, ep, e, hLd, hLk, hLf⟩, fun sl h' e => ⟨_, es, ep, e, hLd, hLk, hLf⟩, st, ⟨hA, fun b o e => st b o (B.stays b o e), funFrames_hideAll B₁.frames fun env' he b hb hf' => by
    rcases List.mem_cons.mp he with rfl | he
    · rw [hf] at hf'
      exact nL ((Option.some.inj hf' : L = b) ▸ hb)
    · obtain ⟨L₁, o₁, hf₁, ho₁⟩ := funFrames_in B.frames env' he
      rw [hf₁] at hf'
      exact nm L₁ o₁ ho₁ ((Option.some.inj hf' : L₁ = b) ▸ hb)⟩⟩
theorem code_defX (B : Below A₀ base [] h₀) (F : Fr h₀ L s.heap m) (X₀ : K.In h₀) (N : News h₀ L s.heap news) (T : Top p loose mean mg mb h₀) (hA : A.frames = some [env]) (hf : env.frame = some L)
    (ho : K.lookup f = some ⟨oc, od, .func (fnOf name qual params body scope dV kV doc pm an cdv ct), osl⟩) (hcd : codeIn K cdv qual = true) (hroom : A.depth < recursionLimit)
    (hbind : BindsTo s (fnOf name qual params body scope dV kV doc pm an cdv ct) args binds) (hloc : ∀ y ∈ binds, scope.names.lookup y.1 = some .local)
    (h : ∀ g L' h₁, Fr h₀ L g m → Fr g L' h₁ (fun y => binds.reverse.lookup y) → News g L' h₁ news → Below A base [env] g → K.In g → Top p loose mean mg mb g → KtsDicts ([env].filterMap (·.frame)) g →
      wpAny (model prog w) (A.deeper (envOf qual scope L' f cdv)) (execs body (envOf qual scope L' f cdv))
        (fun fl s' => LeaveS0 ([env].filterMap (·.frame)) h₀ L m g R (match fl with | .ret v => v | _ => .none) s')
        (fun e s' => wpAny (model prog w) (A.deeper (envOf qual scope L' f cdv)) (leaving (envOf qual scope L' f cdv) e) (fun _ s'' => R (.error e) s'') (fun e' s'' => R (.error e') s'') s')
        { s with heap := h₁, toks := s.toks + binds.length })
    (hck : env.scope.kind = .function) (hco : scope.isCoroutine = false) (hgen : scope.isGenerator = false) (hk : scope.kind = .function)
    (hcell : ∀ x ∈ scope.names, x.2 ≠ .cell) : codeAny (model prog w) A (.call (.ref f) args) R s := by
  have X := X₀.keeps F.keep
  refine codeAny_call_def (fd := fnOf name qual params body scope dV kV doc pm an cdv ct) (body := body) (binds := binds) hroom (X _ _ ho) rfl (T.nolimit.keeps F.keep) (codeRec_of X hcd) rfl hbind hcell hloc (fun h₁ hns hk₁ => ?_) hco hgen hk
  obtain ⟨oL, es, ep, hLg, hLd, hN, hNs, st, B₂⟩ := enterX B F N hA hf hck
  have hfm : [env].filterMap (·.frame) = [L] := by simp [hf]
  refine wpAny_mono (h _ s.heap.objs.size h₁ ⟨hN _ hLg, st, F.above⟩ ⟨hns, fun b o e => hk₁ b o (of_hideAll _ e), Nat.le_of_eq (hideAll_size _ _)⟩
    (fun p hp => ⟨hk₁ _ _ (N p hp).1, Nat.ne_of_lt (Heap.lt_size (N p hp).1), hideAll_none _ (List.mem_map_of_mem hp)⟩) B₂ (X₀.keeps st) (T.keeps st) (fun b hb => by
      rw [hfm] at hb
      rw [List.mem_singleton.mp hb]
      exact ⟨oL, es, ep, hLg, hLd⟩)) (fun fl s' hl => ?_) fun _ _ y => y
  obtain ⟨g', L', m', news', T', F', N', k⟩ := hl
  rw [hfm] at T'
  have nL₀ : h₀.get? L = none := kts_self F
  obtain ⟨sl, hs⟩ := T'.up hLg
  refine k ⟨hNs sl _ (F'.keep _ _ hs), fun b o e => F'.keep b o (T'.other b o (st b o e) (fun q => by
    rw [List.mem_singleton.mp q, nL₀] at e
    cases e)), F.above⟩ fun p hp => ⟨(N' p hp).1, fun q => ?_, ?_⟩
  · have z := (N' p hp).2.2
    rw [q, hs] at z
    cases z
  · cases q : h₀.get? p.1 with
    | none => rfl
    | some o =>
      obtain ⟨sl', hs'⟩ := T'.up (st _ _ q)
      have z := (N' p hp).2.2
      rw [hs'] at z
      cases z
end
end
section
open PySem PySem.W PyProof.Rows PySem.Spec PySem.Calls
set_option maxRecDepth 100000
set_option maxHeartbeats 1000000
theorem rows_X3_1 : True := by
  w_top off
  k_with_none
  (k_with "k_steps" => repeat' (first | (k_unfold; (try dsimp only)) | walk1 | (dsimp only; walk1) | (leave1; walk_say "STEP leave1"; try dsimp only) | fail "no step"))
  (k_with "k_mem" => first | exact List.mem_cons_self | (refine List.mem_cons_of_mem _ ?_; k_mem) | with_reducible assumption)
  (k_with "k_all" => first | (refine ne_below (by assumption) ?q9; (case q9 => ((try dsimp only); omega))) | exact off_mem (by assumption) | exact off_mem (off_lt (by assumption)))
  (k_with "lcg_off" => first | exact allLt_of (by assumption) | assumption | exact an1 (by assumption) | exact an2 (by assumption) | exact an3 (by assumption) | exact an4 (by assumption) | exact an5 (by assumption) | exact an6 (by assumption) | exact an7 (by assumption) | exact an8 (by assumption) | exact an9 (by assumption) | exact an10 (by assumption) | exact an11 (by assumption) | exact an12 (by assumption) | exact an13 (by assumption) | exact an14 (by assumption) | exact an15 (by assumption) | exact an16 (by assumption) | exact an17 (by assumption) | exact an18 (by assumption) | exact an19 (by assumption) | exact an20 (by assumption) | exact an21 (by assumption) | exact an22 (by assumption) | exact an23 (by assumption) | exact an24 (by assumption))
  trivial
/-- a contract of the law's own calls alone -/
def ConL (w : World) (f : Addr) (vs : List Value) (Out : Value → Prop) : Prop :=
  ∀ (prog : Program) (p : Program) (loose : List Str) (mean : ExcName → Option Value) (mg mb : Str → Option Value)
    (cn : Str) (cs : Scope) (a : Addr) (ccd : Value) (cl : List (Str × Addr)) (A₀ : Around) (base h₀ : Heap) (L : Addr) (m : Str → Option Value) (news : Led) (s : Shared)
    (Q E : Value → Shared → Prop),
    Below A₀ base [] h₀ → (Mine.hd.heap_1 w.params).In base → Top p loose mean mg mb base → Fr h₀ L s.heap m → (Mine.hd.heap_1 w.params).In h₀ → h₀.get? 0 = some (PySem.W.boot_o_0 w.params) → News h₀ L s.heap news → Top p loose mean mg mb h₀ → cs.kind = .function →
    (∀ (r : Value) (h' : Heap) (tk' : Nat), Fr h₀ L h' m → News h₀ L h' news → Out r → Q r { s with heap := h', toks := tk' }) →
    wpAny (model prog w) (callerA.deeper (envX cn cs L a ccd cl)) (call (.ref f) vs) Q E s
theorem rows_X3_2 : True := by
  (k_with "ktr_unf" => (unfold ConL; refine fillK ?_; k_fill; intro hZZ; clear hZZ))
  (k_with "ktr_rel" => (refine wpAny_call ?_; k_dflt (refine' code_defX ?k1 ?k2 ?k3 ?k4 ?k5 ?kA ?kF ?k6 ?k7 ?k8 ?k9 ?kB ?_ ?cK ?c2 ?c3 ?c4 ?c5; (case kA | kF => exact rfl); (case k2 | k1 | k3 | k4 | k5 => k_asm); (case k6 | k7 => k_is); (case k8 => ktr_room); (case k9 => exact BindsTo.of_eq rfl); (case kB => exact locs rfl); (case cK => assumption); (case c2 | c3 | c4 => exact rfl); (case c5 => decide); k_whole; intro g' L' h' FG' F' N' B' X' T' D'; (try dsimp only); (try k_lift B'); (try k_fold))))
  (k_with "ktn_open" => (refine wpAny_call ?_; k_dflt (refine' code_def ?k1 ?k2 ?k3 ?k4 ?k5 ?kA ?kF ?kK ?k6 ?k7 ?k8 ?k9 ?kB ?_ ?c2 ?c3 ?c4 ?c5; (case kA | kF => exact rfl); (case kK => first | assumption | exact rfl); (case k1 | k2 | k3 | k4 | k5 => k_asm); (case k6 | k7 => k_is); (case k8 => ktr_room); (case k9 => exact BindsTo.of_eq rfl); (case c5 => decide); (case kB => exact locs rfl); (case c2 | c3 | c4 => exact rfl); k_whole; intro g' L' h' FG' F' N' B' X' T'; (try dsimp only); (try k_fold))))
  (k_with "exec Raise some none" => (k_here; k_dflt (refine Raise44 (by assumption) (by rfl) ?_)))
  (k_with "leaving ref" => (k_here; (refine' leave_raise44S ?k1 ?k0 ?k2 ?k3 ?_; (case k0 => assumption); (case k2 => assumption); (case k1 => assumption); (case k3 => k_asm); k_whole; intro h' t' S' R' U'; (try dsimp only at S' R' U' ⊢))))
  trivial
theorem at0 {h₀ h : Heap} {L : Addr} {m : Str → Option Value} {o : Obj} (F : Fr h₀ L h m) (e : h₀.get? 0 = some o) : h.get? 0 = some o := F.keep _ _ e
theorem con_refused4 (w : World) (os : List UInt8) (u t : Tok) : ConL w 161 [.int 4 t, .bytes os.toArray u] (fun r => r = .bool true) := by
  ktr_unf
  intro prog p loose mean mg mb cn cs a ccd cl A₀ base h₀ L m news s Q E B XB TB F X X0 N T hk hret
  ktr_rel
  k_steps
  ktn_open
  k_steps
  refine make44 _ _ _ _ _ _ _ _ _ _ _ _ _ (kb_in (in_fr (by k_asm) (by k_asm)) (at0 (by assumption) (at0 (by assumption) (at0 (by assumption) X0)))) ?_
  intro h9 e9 tk9 M9
  refine halt ⟨_, _, _, rfl, ?x9, M9, ?_⟩
  case x9 => exact in_fr (by k_asm) (by k_asm)
  k_steps
  all_goals exact hret _ _ _ (by k_asm) (by k_asm) rfl
theorem con_refusedm (w : World) (os : List UInt8) (u t : Tok) : ConL w 161 [.int (-1) t, .bytes os.toArray u] (fun r => r = .bool true) := by
  ktr_unf
  intro prog p loose mean mg mb cn cs a ccd cl A₀ base h₀ L m news s Q E B XB TB F X X0 N T hk hret
  ktr_rel
  k_steps
  ktn_open
  k_steps
  refine make44 _ _ _ _ _ _ _ _ _ _ _ _ _ (kb_in (in_fr (by k_asm) (by k_asm)) (at0 (by assumption) (at0 (by assumption) (at0 (by assumption) X0)))) ?_
  intro h9 e9 tk9 M9
  refine halt ⟨_, _, _, rfl, ?x9, M9, ?_⟩
  case x9 => exact in_fr (by k_asm) (by k_asm)
  k_steps
  all_goals exact hret _ _ _ (by k_asm) (by k_asm) rfl
end
section
open PySem PySem.W PyProof.Rows PySem.Spec PySem.Calls
set_option maxRecDepth 100000
set_option maxHeartbeats 2000000
theorem oct_mod (x : Int) : ∃ c : UInt8, ∀ t, OctIs c (.int (x.fmod 256) t) := by
  have h0 : x.fmod 256 = x % 256 := Int.fmod_eq_emod_of_nonneg _ (by decide)
  refine ⟨UInt8.ofNat (x % 256).toNat, fun t => ⟨t, ?_⟩⟩
  have h1 : (UInt8.ofNat (x % 256).toNat).toNat = (x % 256).toNat := by
    rw [UInt8.toNat_ofNat']
    omega
  show Value.int _ t = Value.int ((UInt8.ofNat (x % 256).toNat).toNat : Int) t
  rw [h1, h0]
  congr 1
  omega
theorem pick_int (vs : List Value) (x : Int) (h : 0 ≤ x) : (slicePick vs.toArray none (some x) none).toList = vs.take x.toNat := by
  rw [← pick_upto, Int.toNat_of_nonneg h]
section
variable {prog : Program} {w : World} {A : Around} {E : Value → Shared → Prop} {s : Shared} {h₀ : Heap} {L l b D : Addr} {m : Str → Option Value} {news news' rest : Led} {vs ws : List Value} {k k2 n : Nat} {value slice : PySem.Expr}
theorem l_extendU {Q : Value → Shared → Prop} (F : Fr h₀ L s.heap m) (N : News h₀ L s.heap news) (U : Upd D (listOf vs.toArray n) (listOf (vs ++ ws).toArray (n + 1)) news news') (hb : (b, listOf ws.toArray k2) ∈ news) (hne : ws ≠ []) (hz : vs.length + ws.length ≤ 1000)
    (h : ∀ h', Fr h₀ L h' m → News h₀ L h' news' → Q .none { s with heap := h' }) : wpAny (model prog w) A (call (.builtin "list.extend") [.ref D, .ref b]) Q E s :=
  kl_extend F N hb rfl (by simpa using hne) U (extend_door (by simpa using sz1000 hz)) (by simp; exact sz1000 (by omega)) (by simp; rw [PySem.sizeLine_eq]; omega) h
/-- a slice from the start -/
theorem l_upto {Q : Value → Shared → Prop} {x : Int} {t : Tok} (F : Fr h₀ L s.heap m) (N : News h₀ L s.heap news) (hm : (l, listOf vs.toArray k) ∈ news) (hz : vs.length ≤ 1000) (hx : 0 ≤ x)
    (h : ∀ D h', Fr h₀ L h' m → News h₀ L h' ((D, listOf (vs.take x.toNat).toArray 0) :: news) → (∀ p ∈ news, p.1 < D) → Q (.ref D) { s with heap := h' })
    (hs : subscripted slice false (.ref l) (.ref s.heap.objs.size) = operate [.ref s.heap.objs.size, .ref l] (getItem (.ref l) (.ref s.heap.objs.size))) (ht : ∀ r, letTemporaryGo value (.ref l) r = pure ()) :
    wpAny (model prog w) A (subscriptTail value slice (.ref l) (.ref s.heap.objs.size)) Q E { s with heap := s.heap.push { cls := .type "slice", data := .fields #[.none, .int x t, .none] } } :=
  l_slice F N hm hz .none (.int _ _) (pick_int _ _ hx) h hs ht
end
section
variable {prog : Program} {w : World} {A : Around} {E : Value → Shared → Prop} {s : Shared} {h₀ : Heap} {L l : Addr} {m : Str → Option Value} {news : Led} {vs : List Value} {k : Nat} {value slice : PySem.Expr}
theorem l_upto60 {Q : Value → Shared → Prop} {t : Tok} (F : Fr h₀ L s.heap m) (N : News h₀ L s.heap news) (hm : (l, listOf vs.toArray k) ∈ news) (hz : vs.length ≤ 1000)
    (h : ∀ D h', Fr h₀ L h' m → News h₀ L h' ((D, listOf (vs.take 60).toArray 0) :: news) → (∀ p ∈ news, p.1 < D) → Q (.ref D) { s with heap := h' })
    (hs : subscripted slice false (.ref l) (.ref s.heap.objs.size) = operate [.ref s.heap.objs.size, .ref l] (getItem (.ref l) (.ref s.heap.objs.size))) (ht : ∀ r, letTemporaryGo value (.ref l) r = pure ()) :
    wpAny (model prog w) A (subscriptTail value slice (.ref l) (.ref s.heap.objs.size)) Q E { s with heap := s.heap.push { cls := .type "slice", data := .fields #[.none, .int 60 t, .none] } } :=
  l_upto F N hm hz (by decide) h hs ht
end
theorem AllIs.reverse {α : Type} {f : α → Value → Prop} {as : List α} {vs : List Value} (h : AllIs f as vs) : AllIs f as.reverse vs.reverse := by
  induction h with
  | nil => exact .nil
  | cons h _ ih =>
    rw [List.reverse_cons, List.reverse_cons]
    exact ih.snoc h
section
variable {prog : Program} {w : World} {A : Around} {E : Value → Shared → Prop} {s : Shared} {h₀ : Heap} {L l : Addr} {m : Str → Option Value} {news : Led} {vs : List Value} {k : Nat} {value slice : PySem.Expr} {ops : List Value}
theorem l_rev {H : Heap} {G : Array GenState} {Dr : Drawn} {K : Nat} {O : OsState} {Q : Value → Shared → Prop} {t : Tok} (F : Fr h₀ L H m) (N : News h₀ L H news) (hm : (l, listOf vs.toArray k) ∈ news) (hz : vs.length ≤ 1000)
    (h : ∀ D h', Fr h₀ L h' m → News h₀ L h' ((D, listOf vs.reverse.toArray 0) :: news) → (∀ p ∈ news, p.1 < D) → Q (.ref D) ⟨h', G, Dr, K, O⟩)
    (hs : subscripted slice false (.ref l) (.ref H.objs.size) = operate ops (getItem (.ref l) (.ref H.objs.size))) (ht : ∀ r, letTemporaryGo value (.ref l) r = pure ()) :
    wpAny (model prog w) A (subscriptTail value slice (.ref l) (.ref H.objs.size)) Q E ⟨H.push { cls := .type "slice", data := .fields #[.none, .none, .int (-1) t] }, G, Dr, K, O⟩ :=
  l_slice3 (s := ⟨H, G, Dr, K, O⟩) F N hm hz .none .none (.int _ _) (by decide) (pick_rev vs) h hs ht
end
section
variable {prog : Program} {w : World} {A : Around} {E : Value → Shared → Prop} {s : Shared} {h₀ : Heap} {L l : Addr} {m : Str → Option Value} {news : Led} {value slice : PySem.Expr}
theorem t_from1 {H : Heap} {G : Array GenState} {Dr : Drawn} {K : Nat} {O : OsState} {Q : Value → Shared → Prop} {a b c d : Value} {n : Nat} {t : Tok} (F : Fr h₀ L H m) (N : News h₀ L H news) (hm : (l, ({ cls := .type "tuple", data := .seq #[a, b, c, d] n } : Obj)) ∈ news)
    (h : ∀ D h', Fr h₀ L h' m → News h₀ L h' ((D, ({ cls := .type "tuple", data := .seq #[b, c, d] 0 } : Obj)) :: news) → (∀ p ∈ news, p.1 < D) → Q (.ref D) ⟨h', G, Dr, K, O⟩)
    (hs : subscripted slice false (.ref l) (.ref H.objs.size) = operate [.ref H.objs.size, .ref l] (getItem (.ref l) (.ref H.objs.size))) (ht : ∀ r, letTemporaryGo value (.ref l) r = pure ()) :
    wpAny (model prog w) A (subscriptTail value slice (.ref l) (.ref H.objs.size)) Q E ⟨H.push { cls := .type "slice", data := .fields #[.int 1 t, .none, .none] }, G, Dr, K, O⟩ :=
  slice_tuple_from (s := ⟨H, G, Dr, K, O⟩) (a := 1) F N ⟨_, (N _ hm).1, rfl, n, rfl⟩ (Nat.le_refl _) (by simp) (fun h' F' N' => h _ h' F' N' fun p hp => Nat.lt_succ_of_lt (Heap.lt_size (N p hp).1)) hs ht (by simp; exact sz1000 (by omega))
end
section
variable {prog : Program} {w : World} {A : Around} {E : Value → Shared → Prop} {s : Shared} {h₀ : Heap} {L D : Addr} {m : Str → Option Value} {news news' : Led} {zs : List Value} {n i : Nat} {x0 x1 x2 x3 x : Int} {t0 t1 t2 t3 t u : Tok}
theorem l_set4 {Q : Unit → Shared → Prop} (F : Fr h₀ L s.heap m) (N : News h₀ L s.heap news) (U : Upd D (listOf #[.int x0 t0, .int x1 t1, .int x2 t2, .int x3 t3] n) (listOf zs.toArray n) news news') (e : [Value.int x0 t0, .int x1 t1, .int x2 t2, .int x3 t3].set i (.int x t) = zs) (hi : i < 4)
    (h : ∀ h', Fr h₀ L h' m → News h₀ L h' news' → Q () { s with heap := h' }) :
    wpAny (model prog w) A (setItem (.ref D) (nv i u) (.int x t)) Q E s := by
  subst e
  exact ksa_set (vs := [.int x0 t0, .int x1 t1, .int x2 t2, .int x3 t3]) (ns := [x0, x1, x2, x3]) F N U (.cons _ _ (.cons _ _ (.cons _ _ (.cons _ _ .nil)))) (by omega) (by simp; omega) (by omega) (fun h' F' N' _ _ _ => h h' F' N')
end
theorem AllIs.take {α : Type} {f : α → Value → Prop} {as : List α} {vs : List Value} (h : AllIs f as vs) : ∀ n : Nat, AllIs f (as.take n) (vs.take n) := by
  induction h with
  | nil => intro n; simp; exact .nil
  | cons h _ ih =>
    intro n
    cases n with
    | zero => exact .nil
    | succ n => exact .cons h (ih n)
theorem tnextF {h₀ h' : Heap} {L I : Addr} {m' : Str → Option Value} {oI : Obj} {J : (Str → Option Value) → Led → Prop} {s₁ : Shared} {tk : Nat} {e1 e2 x : Addr × Obj} {led : Led}
    (N : News h₀ L h' (e1 :: e2 :: (I, oI) :: x :: led)) (F : Fr h₀ L h' m') (hx : x.1 ≠ I) (off : ∀ p ∈ led, p.1 ≠ I) (hJ : J m' (x :: led)) :
    Halt (∃ h'' tk' m'' nw'', ({ s₁ with heap := h', toks := tk } : Shared) = { s₁ with heap := h'', toks := tk' } ∧ Fr h₀ L h'' m'' ∧ News h₀ L h'' ((I, oI) :: nw'') ∧ (∀ p ∈ nw'', p.1 ≠ I) ∧ J m'' nw'') :=
  halt ⟨h', tk, m', x :: led, rfl, F, fun p hp => N p (List.mem_cons_of_mem _ (List.mem_cons_of_mem _ hp)), fun p hp => by
    rcases List.mem_cons.mp hp with rfl | hp
    · exact hx
    · exact off p hp, hJ⟩
theorem ints_get {vs : List Value} {ns : List Int} (h : IntsAre vs ns) : ∀ {i : Nat} {v : Value}, vs[i]? = some v → ∃ d t, v = .int d t := by
  induction h with
  | nil => intro i v e; simp at e
  | cons n t _ ih =>
    intro i v e
    cases i with
    | zero => simp at e; exact ⟨n, t, e.symm⟩
    | succ i => exact ih (by simpa using e)
theorem octs_all {ws : List Value} {l : List Int} (h : IntsAre ws l) : (∀ x ∈ l, ∃ y : Int, x = y.fmod 256) → ∃ os, AllIs OctIs os ws := by
  induction h with
  | nil => exact fun _ => ⟨[], .nil⟩
  | cons n t _ ih =>
    intro hl
    obtain ⟨os, ho⟩ := ih fun x hx => hl x (List.mem_cons_of_mem _ hx)
    obtain ⟨y, hy⟩ := hl n List.mem_cons_self
    obtain ⟨c, hc⟩ := oct_mod y
    rw [hy]
    exact ⟨c :: os, .cons (hc t) ho⟩
theorem octs_of {ws : List Value} {x y z d : Int} (h : IntsAre ws (List.take (1 + d.fmod 3).toNat [x.fmod 256, y.fmod 256, z.fmod 256])) : ∃ os, AllIs OctIs os ws ∧ 1 ≤ os.length ∧ os.length ≤ 3 := by
  obtain ⟨os, ho⟩ := octs_all h fun v hv => by
    have hv' := List.mem_of_mem_take hv
    simp only [List.mem_cons, List.not_mem_nil, or_false] at hv'
    rcases hv' with e | e | e
    · exact ⟨_, e⟩
    · exact ⟨_, e⟩
    · exact ⟨_, e⟩
  have h1 := ho.length
  have h2 := h.length
  rw [List.length_take] at h2
  have h3 : d.fmod 3 = d % 3 := Int.fmod_eq_emod_of_nonneg _ (by decide)
  rw [h3] at h2
  simp only [List.length_cons, List.length_nil] at h2
  exact ⟨os, ho, by omega, by omega⟩
theorem tnextU {h₀ h' : Heap} {L I : Addr} {m' : Str → Option Value} {oI : Obj} {J : (Str → Option Value) → Led → Prop} {s₁ : Shared} {tk : Nat} {D : Addr} {o : Obj} {led : Led}
    (N : News h₀ L h' ((I, oI) :: (D, o) :: led)) (F : Fr h₀ L h' m') (hD : @Ne Nat D I) (off : ∀ p ∈ led, p.1 ≠ I) (hJ : J m' ((D, o) :: led)) :
    Halt (∃ h'' tk' m'' nw'', ({ s₁ with heap := h', toks := tk } : Shared) = { s₁ with heap := h'', toks := tk' } ∧ Fr h₀ L h'' m'' ∧ News h₀ L h'' ((I, oI) :: nw'') ∧ (∀ p ∈ nw'', p.1 ≠ I) ∧ J m'' nw'') :=
  halt ⟨h', tk, m', _, rfl, F, N, fun p hp => by
    rcases List.mem_cons.mp hp with rfl | hp
    · exact hD
    · exact off p hp, hJ⟩
end
section
open PySem PySem.W PyProof.Rows PySem.Spec PySem.Calls
set_option maxRecDepth 100000
set_option maxHeartbeats 1000000
theorem rows_C12_1 : True := by
  w_top off
  k_with_none
  (k_with "ktn_open" => (refine wpAny_call ?_; k_dflt (refine' code_def ?k1 ?k2 ?k3 ?k4 ?k5 ?kA ?kF ?kK ?k6 ?k7 ?k8 ?k9 ?kB ?_ ?c2 ?c3 ?c4 ?c5; (case kA | kF => exact rfl); (case kK => first | assumption | exact rfl); (case k1 | k2 | k3 | k4 | k5 => k_asm); (case k6 | k7 => k_is); (case k8 => ktr_room); (case k9 => exact BindsTo.of_eq rfl); (case c5 => decide); (case kB => exact locs rfl); (case c2 | c3 | c4 => exact rfl); k_whole; intro g' L' h' FG' F' N' B' X' T'; (try dsimp only); (try k_fold))))
  (k_with "ktr_unf" => (unfold Con; refine fillK ?_; k_fill; intro hZZ; clear hZZ))
  (k_with "k_steps" => repeat' (first | (k_unfold; (try dsimp only)) | walk1 | (dsimp only; walk1) | (leave1; walk_say "STEP leave1"; try dsimp only) | fail "no step"))
  (k_with "k_mem" => first | exact List.mem_cons_self | (refine List.mem_cons_of_mem _ ?_; k_mem) | with_reducible assumption)
  (k_with "k_all" => first | (refine ne_below (by assumption) ?q9; (case q9 => ((try dsimp only); omega))) | exact off_mem (by assumption) | exact off_mem (off_lt (by assumption)))
  (k_with "lcg_off" => first | exact allLt_of (by assumption) | assumption | exact an1 (by assumption) | exact an2 (by assumption) | exact an3 (by assumption) | exact an4 (by assumption) | exact an5 (by assumption) | exact an6 (by assumption) | exact an7 (by assumption) | exact an8 (by assumption) | exact an9 (by assumption) | exact an10 (by assumption) | exact an11 (by assumption) | exact an12 (by assumption) | exact an13 (by assumption) | exact an14 (by assumption) | exact an15 (by assumption) | exact an16 (by assumption) | exact an17 (by assumption) | exact an18 (by assumption) | exact an19 (by assumption) | exact an20 (by assumption) | exact an21 (by assumption) | exact an22 (by assumption) | exact an23 (by assumption) | exact an24 (by assumption))
  (k_with "exec For Name Subscript cons nil" => (k_here; (rename Fr _ _ _ _ => lF'); (with_unfolding_all refine' for_any lF' ?_; k_whole)))
  (k_with "subscriptTail Name Slice ref ref" => (k_here; (with_reducible show wpAny _ _ (subscriptTail _ (.Slice _ _ none _) (Value.ref _) (Value.ref _)) _ _ _); k_dflt (refine l_upto60 (by k_asm) (by k_asm) (by k_mem) (by (first | omega | (simp only [List.length_append, List.length_replicate, List.length_take, List.length_drop, List.length_cons, List.length_nil]; omega))) ?_ (by with_unfolding_all rfl) (by kmk_pure)); (intros; rename_i l1; (try k_lt l1); (try k_sweep))))
  trivial
/-- the value is a new list of some octets, sixty at most, the only new thing -/
def OutOs (r : Value) (tl : Led) : Prop := ∃ os D ys n, os.length ≤ 60 ∧ r = .ref D ∧ tl = [(D, listOf ys.toArray n)] ∧ AllIs OctIs os ys
theorem endO {news led : Led} {h₀ h' : Heap} {L : Addr} {m : Str → Option Value} {s : Shared} {Q : Value → Shared → Prop} {os : List UInt8}
    (hret : ∀ (r : Value) (tl : Led) (h' : Heap) (tk' : Nat), Fr h₀ L h' m → News h₀ L h' (tl ++ news) → (∀ q ∈ tl, LCg.Off1 q.1 news) → OutOs r tl → Q r { s with heap := h', toks := tk' })
    {D : Addr} {ys : List Value} {n tk' : Nat} (F : Fr h₀ L h' m) (N : News h₀ L h' led) (hm : (D, listOf ys.toArray n) ∈ led) (hs : ∀ p ∈ news, p ∈ led) (hl : LCg.Off1 D news) (hx : AllIs OctIs os ys) (h60 : os.length ≤ 60) : Q (.ref D) { s with heap := h', toks := tk' } :=
  hret _ [(D, listOf ys.toArray n)] h' tk' F (fun p hp => by
    rcases List.mem_cons.mp hp with rfl | hp
    · exact N _ hm
    · exact N p (hs p hp)) (lt_one hl) ⟨os, D, ys, n, h60, rfl, rfl, hx⟩
abbrev JO (news : Led) (lx : Addr × Obj) (i : Nat) (m : Str → Option Value) (nw : Led) : Prop :=
  ∃ Fd os fs c, m "found" = some (.ref Fd) ∧ os.length ≤ 3 * i ∧ AllIs OctIs os fs ∧ LCg.Off1 Fd (lx :: news) ∧ nw = (Fd, listOf (List.toArray fs) c) :: lx :: news
theorem con_octets (w : World) (sc : Addr) (vs : List Value) (k : Nat) (ns : List Int) (hv : IntsAre vs ns) (hl : ns.length ≤ 63) : Con w 111 3 [.ref sc] (fun news => (sc, listOf vs.toArray k) ∈ news) OutOs := by
  have hvl := hv.length
  ktr_unf
  intro prog p loose mean mg mb dp un gd cn cs a ccd cl outer A₀ base h₀ L m news s Q E B F X N T hk hok hd hu hret
  replace hok : (sc, listOf vs.toArray k) ∈ news := hok
  ktn_open
  k_steps
  (with_reducible rename Fr _ _ _ _ => lF)
  (with_reducible rename News _ _ _ _ => lN)
  (with_reducible rename IntsAre _ _ => lV)
  have lN' := news_swap lN
  have hlv := lV.length
  simp only [List.length_take] at hlv
  clear lN
  refine halt (for_list (by rfl) lF lN' (List.mem_cons_of_mem _ List.mem_cons_self) (JO news _) ⟨_, [], [], _, rfl, Nat.zero_le _, .nil, ⟨by (refine neN ?_; omega), off_of (ne_below (by assumption) (Nat.le_refl _))⟩, rfl⟩ ?_ ?_ ?_)
  · rintro i m nw ⟨Fd, os, fs, c, _, _, _, _, rfl⟩
    exact List.mem_cons_of_mem _ List.mem_cons_self
  · rintro i v m₁ nw h tk I oI hv ⟨Fd, os, fs, c, e1, hos, hfs, oF, rfl⟩ F₁ N₁ off
    obtain ⟨d, t, rfl⟩ := ints_get lV hv
    have hi := (List.getElem?_eq_some_iff.mp hv).1
    have offF : @Ne Nat Fd I := off _ List.mem_cons_self
    have F₂ := fr_at F₁ e1
    have hfl := hfs.length
    have oF1 := oF.1
    have oF2 := oF.2
    dsimp only at oF1
    clear F₁ lF lN'
    k_steps
    (with_reducible rename IntsAre _ _ => lW)
    obtain ⟨o2, ho2, hl2, hl3⟩ := octs_of lW
    have hwl := ho2.length
    k_dflt (refine' l_extendU ?F8 ?N8 ?U8 ?M8 ?e8 ?z8 ?_)
    (case F8 => k_asm)
    (case N8 => k_asm)
    (case U8 => k_upd)
    (case M8 => k_mem)
    (case e8 => (intro e; have e' := congrArg List.length e; simp only [List.length_nil] at e'; omega))
    (case z8 => omega)
    intro h' F' N'
    k_steps
    exact tnextF N' (by k_asm) offF (fun p hp => off p (List.mem_cons_of_mem _ hp)) ⟨_, os ++ o2, _, _, rfl, by rw [List.length_append]; omega, AllIs.append hfs ho2, oF, rfl⟩
  · rintro m₁ nw h tk ⟨Fd, os, fs, c, e1, hos, hfs, oF, rfl⟩ F₁ N₁
    have F₂ := fr_at F₁ e1
    have hfl := hfs.length
    clear F₁ lF lN'
    k_steps
    all_goals (refine' endO (os := os.take 60) hret ?F9 ?N9 ?m9 ?s9 ?l9 ?x9 ?y9; (case F9 => k_asm); (case N9 => k_asm); (case m9 => k_mem); (case s9 => kcf_all); (case l9 => exact off_lt (by lcg_off)); (case x9 => exact hfs.take 60); (case y9 => (rw [List.length_take]; omega)))
end
section
open PySem PySem.W PyProof.Rows PySem.Spec PySem.Calls
set_option maxRecDepth 100000
set_option maxHeartbeats 1000000
theorem rows_C13_1 : True := by
  w_top off
  k_with_none
  (k_with "ktn_open" => (refine wpAny_call ?_; k_dflt (refine' code_def ?k1 ?k2 ?k3 ?k4 ?k5 ?kA ?kF ?kK ?k6 ?k7 ?k8 ?k9 ?kB ?_ ?c2 ?c3 ?c4 ?c5; (case kA | kF => exact rfl); (case kK => first | assumption | exact rfl); (case k1 | k2 | k3 | k4 | k5 => k_asm); (case k6 | k7 => k_is); (case k8 => ktr_room); (case k9 => exact BindsTo.of_eq rfl); (case c5 => decide); (case kB => exact locs rfl); (case c2 | c3 | c4 => exact rfl); k_whole; intro g' L' h' FG' F' N' B' X' T'; (try dsimp only); (try k_fold))))
  (k_with "ktr_unf" => (unfold Con; refine fillK ?_; k_fill; intro hZZ; clear hZZ))
  (k_with "k_steps" => repeat' (first | (k_unfold; (try dsimp only)) | walk1 | (dsimp only; walk1) | (leave1; walk_say "STEP leave1"; try dsimp only) | fail "no step"))
  (k_with "k_mem" => first | exact List.mem_cons_self | (refine List.mem_cons_of_mem _ ?_; k_mem) | with_reducible assumption)
  (k_with "k_all" => first | (refine ne_below (by assumption) ?q9; (case q9 => ((try dsimp only); omega))) | exact off_mem (by assumption) | exact off_mem (off_lt (by assumption)))
  (k_with "call builtin:len" => ((k_here; (with_reducible show wpAny _ _ (call (Value.builtin "len") [Value.ref _]) _ _ _); k_dflt (refine (l_len (by k_asm) (by k_mem) (by (first | omega | (simp only [List.length_append, List.length_replicate, List.length_take, List.length_drop, List.length_cons, List.length_nil]; omega))) ?_))); intros))
  (k_with "lcg_off" => first | exact allLt_of (by assumption) | assumption | exact an1 (by assumption) | exact an2 (by assumption) | exact an3 (by assumption) | exact an4 (by assumption) | exact an5 (by assumption) | exact an6 (by assumption) | exact an7 (by assumption) | exact an8 (by assumption) | exact an9 (by assumption) | exact an10 (by assumption) | exact an11 (by assumption) | exact an12 (by assumption) | exact an13 (by assumption) | exact an14 (by assumption) | exact an15 (by assumption) | exact an16 (by assumption) | exact an17 (by assumption) | exact an18 (by assumption) | exact an19 (by assumption) | exact an20 (by assumption) | exact an21 (by assumption) | exact an22 (by assumption) | exact an23 (by assumption) | exact an24 (by assumption))
  (k_with "subscriptTail Name Slice ref ref" => (k_here; (with_reducible show wpAny _ _ (subscriptTail _ (.Slice none none (some _) _) (Value.ref _) (Value.ref _)) _ _ _); k_dflt (refine l_rev (by k_asm) (by k_asm) (by k_mem) (by (first | omega | (simp only [List.length_append, List.length_replicate, List.length_take, List.length_drop, List.length_cons, List.length_nil]; omega))) ?_ (by with_unfolding_all rfl) (by kmk_pure)); (intros; rename_i l1; (try k_lt l1); (try k_sweep))))
  (k_with "subscriptTail Name Slice ref ref" => ((k_here; (with_reducible show wpAny _ _ (subscriptTail _ (PySem.Expr.Slice (some _) none none _) (Value.ref _) (Value.ref _)) _ _ _); k_dflt (refine (t_from1 (by k_asm) (by k_asm) (by k_mem) ?_ (by with_unfolding_all rfl) (by kmk_pure)))); (intros; rename_i l1; (try k_lt l1); (try k_sweep))))
  (k_with "call ref" => ((k_here; (with_reducible show wpAny _ _ (call (Value.ref 116) _) _ _ _); k_dflt (refine use_Ws (by k_asm) (by k_asm) (by k_asm) (by k_asm) (by k_asm) (by first | exact rfl | assumption) (by first | exact True.intro | k_mem | exact ⟨by k_mem, by k_mem⟩) (by ktr_room) (by ktr_units) (con_lwords _ _ (by omega) _ _ _ (by assumption)) ?_; intros; (try dsimp only); (try k_sweep); (try k_fold))); ((with_reducible rename LCg.Off1 _ _ => off'); (try dsimp only [LCg.Off1] at off'))))
  (k_with "exec For Name Subscript cons nil" => (k_here; (rename Fr _ _ _ _ => lF'); (with_unfolding_all refine' for_any lF' ?_; k_whole)))
  (k_with "exec For Name Call cons nil" => (k_here; (rename Fr _ _ _ _ => lF'); (with_unfolding_all refine' for_any lF' ?_; k_whole)))
  trivial
theorem con_unstirredE (w : World) (a b c d : BitVec 32) (st : Addr) (ta tb tc td : Tok) (n : Nat) :
    Con w 147 2 [.ref st] (fun news => (st, tup4 a b c d ta tb tc td n) ∈ news) (OutW4 (unstir ⟨a, b, c, d⟩)) := con_unstirred w ⟨a, b, c, d⟩ st ta tb tc td n
theorem con_bothN (w : World) (x : BitVec 32) (n : Nat) (t u : Tok) (hn : n < 2 ^ 32) :
    Con w 140 1 [wv x t, nv n u] none0 (fun r tl => tl = [] ∧ ∃ t, r = wv (x ^^^ BitVec.ofNat 32 n) t) := by
  have h := con_bothB w x (BitVec.ofNat 32 n) t u
  have e : wv (BitVec.ofNat 32 n) u = nv n u := by
    show Value.int _ u = Value.int _ u
    rw [BitVec.toNat_ofNat, Nat.mod_eq_of_lt hn]
  rw [e] at h
  exact h
theorem rows_C13_2 : True := by
  (k_with "call ref" => ((k_here; (with_reducible show wpAny _ _ (call (Value.ref 147) _) _ _ _); k_dflt (refine use_4 (by k_asm) (by k_asm) (by k_asm) (by k_asm) (by k_asm) (by first | exact rfl | assumption) (by first | exact True.intro | k_mem | exact ⟨by k_mem, by k_mem⟩) (by ktr_room) (by ktr_units) (con_unstirredE _ _ _ _ _ _ _ _ _ _ _) ?_; intros; (try dsimp only); (try k_sweep); (try k_fold))); ((with_reducible rename LCg.Off1 _ _ => off'); (try dsimp only [LCg.Off1] at off'))))
  (k_with "call ref" => (first | (k_here; (with_reducible show wpAny _ _ (call (Value.ref 140) _) _ _ _); k_dflt (refine use_I (by k_asm) (by k_asm) (by k_asm) (by k_asm) (by k_asm) (by first | exact rfl | assumption) (by first | exact True.intro | k_mem | exact ⟨by k_mem, by k_mem⟩) (by ktr_room) (by ktr_units) (con_bothB _ _ _ _ _) ?_; intros; (try dsimp only); (try k_sweep); (try k_fold))) | (k_here; (with_reducible show wpAny _ _ (call (Value.ref 140) _) _ _ _); k_dflt (refine use_I (by k_asm) (by k_asm) (by k_asm) (by k_asm) (by k_asm) (by first | exact rfl | assumption) (by first | exact True.intro | k_mem | exact ⟨by k_mem, by k_mem⟩) (by ktr_room) (by ktr_units) (con_bothN _ _ _ _ _ (by omega)) ?_; intros; (try dsimp only); (try k_sweep); (try k_fold)))))
  trivial
def unstirs (x : W4) : Nat → W4
  | 0 => x
  | i + 1 => unstir (unstirs x i)
def undIn (x : W4) (q : BitVec 32) : W4 := ⟨(unstir x).a ^^^ q, (unstir x).b, (unstir x).c, (unstir x).d⟩
def undAt (x : W4) (rv : List (BitVec 32)) : Nat → W4
  | 0 => x
  | i + 1 => undIn (undAt x rv i) (wd rv i)
def undv (x : W4) (os : List UInt8) : W4 := undAt (mixLen (unstirs x 6) os.length) (words os).reverse (words os).length
abbrev JU (os : List UInt8) (x : W4) (news : Led) (o : Addr) (m : Str → Option Value) (nw : Led) : Prop :=
  m "octets" = some (.ref o) ∧ ∃ D ta tb tc td n, m "state" = some (.ref D) ∧ nw = (D, tup4 x.a x.b x.c x.d ta tb tc td n) :: news
abbrev JV (x : W4) (rv : List (BitVec 32)) (news : Led) (lx : Addr × Obj) (i : Nat) (m : Str → Option Value) (nw : Led) : Prop :=
  ∃ D ta tb tc td n, m "state" = some (.ref D) ∧ LCg.Off1 D news ∧ nw = (D, tup4 (undAt x rv i).a (undAt x rv i).b (undAt x rv i).c (undAt x rv i).d ta tb tc td n) :: lx :: news
theorem news_pick {h₀ h : Heap} {L : Addr} {a b c : Addr × Obj} {r news : Led} (N : News h₀ L h (a :: b :: c :: r)) (hs : ∀ p ∈ news, p ∈ r) : News h₀ L h (c :: a :: news) := fun p hp => by
  rcases List.mem_cons.mp hp with rfl | hp
  · exact N _ (List.mem_cons_of_mem _ (List.mem_cons_of_mem _ List.mem_cons_self))
  · rcases List.mem_cons.mp hp with rfl | hp
    · exact N _ List.mem_cons_self
    · exact N _ (List.mem_cons_of_mem _ (List.mem_cons_of_mem _ (List.mem_cons_of_mem _ (hs p hp))))
theorem con_undone (w : World) (x : W4) (os : List UInt8) (hb : os.length ≤ 64) (st o : Addr) (ta tb tc td : Tok) (n : Nat) (vs : List Value) (k : Nat) (hv : AllIs OctIs os vs) :
    Con w 154 4 [.ref st, .ref o] (fun news => (st, tup4 x.a x.b x.c x.d ta tb tc td n) ∈ news ∧ (o, listOf vs.toArray k) ∈ news) (OutW4 (undv x os)) := by
  have hwl := words_length os
  have hvl := hv.length
  ktr_unf
  intro prog p loose mean mg mb dp un gd cn cs a ccd cl outer A₀ base h₀ L m news s Q E B F X N T hk hok hd hu hret
  obtain ⟨hok1, hok2⟩ := hok
  ktn_open
  k_steps
  (with_reducible rename Fr _ _ _ _ => lF)
  (with_reducible rename News _ _ _ _ => lN)
  refine halt (for_range (n := 6) (by rfl) (by k_asm) (by decide) (by decide) lF (show News _ _ _ ((st, tup4 x.a x.b x.c x.d ta tb tc td n) :: news) from fun p hp => by
    rcases List.mem_cons.mp hp with rfl | hp
    · exact lN _ hok1
    · exact lN _ hp) (fun i m nw => JU os (unstirs x i) news o m nw) ⟨rfl, _, _, _, _, _, _, rfl, rfl⟩ ?_ ?_)
  · rintro i t m₁ nw h tk I oI hi ⟨e1, D, ta, tb, tc, td, n, e2, rfl⟩ F₁ N₁ off
    have F₂ := fr_at2 F₁ e1 e2
    clear F₁ lF lN
    k_steps
    (with_reducible rename News _ _ _ _ => lN)
    exact tnextS lN (by k_asm) (by k_mem) (by kcf_all) (fun p hp => off p (List.mem_cons_of_mem _ hp)) (by assumption) ⟨rfl, _, _, _, _, _, _, rfl, rfl⟩
  · rintro m₁ nw h tk ⟨e1, D, ta, tb, tc, td, n, e2, rfl⟩ F₁ N₁
    have F₂ := fr_at2 F₁ e1 e2
    clear F₁ lF lN
    k_steps
    (with_reducible rename Fr _ _ _ _ => lF)
    (with_reducible rename News _ _ _ _ => lN)
    (with_reducible rename AllIs _ _ _ => lV)
    have lV' := lV.reverse
    have hvr := lV'.length
    rw [← hvl] at lN
    have lN' := news_pick (news := news) lN (by kcf_all)
    clear lN
    refine halt (for_list (by rfl) lF lN' (List.mem_cons_of_mem _ List.mem_cons_self) (JV (mixLen (unstirs x 6) os.length) (words os).reverse news _) ⟨_, _, _, _, _, _, rfl, off_lt (by lcg_off), rfl⟩ ?_ ?_ ?_)
    · rintro i m nw ⟨D, ta, tb, tc, td, n, _, _, rfl⟩
      exact List.mem_cons_of_mem _ List.mem_cons_self
    · rintro i v m₁ nw h tk I oI hv ⟨D, ta, tb, tc, td, n, e2, oD, rfl⟩ F₁ N₁ off
      obtain ⟨wq, hw, t, rfl⟩ := lV'.get' hv
      have F₂ := fr_at F₁ e2
      clear F₁ lF lN'
      obtain rfl : wd (words os).reverse i = wq := by rw [wd, hw]; rfl
      k_steps
      (with_reducible rename News _ _ _ _ => lN)
      exact tnextS lN (by k_asm) (by k_mem) (by kcf_all) (fun p hp => off p (List.mem_cons_of_mem _ hp)) (off_lt (by assumption)) ⟨_, _, _, _, _, _, rfl, off_lt (by lcg_off), rfl⟩
    · rintro m₁ nw h tk ⟨D, ta, tb, tc, td, n, e2, oD, rfl⟩ F₁ N₁
      have F₂ := fr_at F₁ e2
      rw [← hvr, List.length_reverse] at N₁
      clear F₁ lF lN'
      k_steps
      all_goals (refine' endW4o hret ?F9 ?N9 ?m9 ?s9 ?l9 ?x9; (case F9 => k_asm); (case N9 => k_asm); (case m9 => k_mem); (case s9 => kcf_all); (case l9 => assumption); (case x9 => rfl))
end
section
open PySem PySem.W PyProof.Rows PySem.Spec PySem.Calls
set_option maxRecDepth 100000
set_option maxHeartbeats 1000000
theorem rows_C14_1 : True := by
  w_top off
  k_with_none
  (k_with "ktn_open" => (refine wpAny_call ?_; k_dflt (refine' code_def ?k1 ?k2 ?k3 ?k4 ?k5 ?kA ?kF ?kK ?k6 ?k7 ?k8 ?k9 ?kB ?_ ?c2 ?c3 ?c4 ?c5; (case kA | kF => exact rfl); (case kK => first | assumption | exact rfl); (case k1 | k2 | k3 | k4 | k5 => k_asm); (case k6 | k7 => k_is); (case k8 => ktr_room); (case k9 => exact BindsTo.of_eq rfl); (case c5 => decide); (case kB => exact locs rfl); (case c2 | c3 | c4 => exact rfl); k_whole; intro g' L' h' FG' F' N' B' X' T'; (try dsimp only); (try k_fold))))
  (k_with "ktr_unf" => (unfold Con; refine fillK ?_; k_fill; intro hZZ; clear hZZ))
  (k_with "k_steps" => repeat' (first | (k_unfold; (try dsimp only)) | walk1 | (dsimp only; walk1) | (leave1; walk_say "STEP leave1"; try dsimp only) | fail "no step"))
  (k_with "k_mem" => first | exact List.mem_cons_self | (refine List.mem_cons_of_mem _ ?_; k_mem) | with_reducible assumption)
  (k_with "k_all" => first | (refine ne_below (by assumption) ?q9; (case q9 => ((try dsimp only); omega))) | exact off_mem (by assumption) | exact off_mem (off_lt (by assumption)))
  (k_with "lcg_off" => first | exact allLt_of (by assumption) | assumption | exact an1 (by assumption) | exact an2 (by assumption) | exact an3 (by assumption) | exact an4 (by assumption) | exact an5 (by assumption) | exact an6 (by assumption) | exact an7 (by assumption) | exact an8 (by assumption) | exact an9 (by assumption) | exact an10 (by assumption) | exact an11 (by assumption) | exact an12 (by assumption) | exact an13 (by assumption) | exact an14 (by assumption) | exact an15 (by assumption) | exact an16 (by assumption) | exact an17 (by assumption) | exact an18 (by assumption) | exact an19 (by assumption) | exact an20 (by assumption) | exact an21 (by assumption) | exact an22 (by assumption) | exact an23 (by assumption) | exact an24 (by assumption))
  (k_with "call ref" => ((k_here; (with_reducible show wpAny _ _ (call (Value.ref 116) _) _ _ _); k_dflt (refine use_Ws (by k_asm) (by k_asm) (by k_asm) (by k_asm) (by k_asm) (by first | exact rfl | assumption) (by first | exact True.intro | k_mem | exact ⟨by k_mem, by k_mem⟩) (by ktr_room) (by ktr_units) (con_lwords _ _ (by omega) _ _ _ (by assumption)) ?_; intros; (try dsimp only); (try k_sweep); (try k_fold))); ((with_reducible rename LCg.Off1 _ _ => off'); (try dsimp only [LCg.Off1] at off'))))
  (k_with "exec For Name Call cons nil" => (k_here; (rename Fr _ _ _ _ => lF'); (with_unfolding_all refine' for_any lF' ?_; k_whole)))
  (k_with "binaryOp Mod int int" => (k_here; (with_reducible refine wp_modadd ?hM ?_); (case hM => first | rfl | decide)))
  trivial
def f4step (x : W4) (q : BitVec 32) : W4 :=
  let a := x.a + q
  let b := x.b + a
  let c := x.c + b
  ⟨a, b, c, x.d + c⟩
def f4at (ws : List (BitVec 32)) : Nat → W4
  | 0 => ⟨0, 0, 0, 0⟩
  | i + 1 => f4step (f4at ws i) (wd ws i)
abbrev lst4 (x : W4) (ta tb tc td : Tok) (n : Nat) : Obj := listOf #[wv x.a ta, wv x.b tb, wv x.c tc, wv x.d td] n
abbrev JF (ws : List (BitVec 32)) (news : Led) (lx : Addr × Obj) (i : Nat) (m : Str → Option Value) (nw : Led) : Prop :=
  ∃ D ta tb tc td n, m "found" = some (.ref D) ∧ LCg.Off1 D (lx :: news) ∧ nw = (D, lst4 (f4at ws i) ta tb tc td n) :: lx :: news
def f4part (x : W4) (q : BitVec 32) : Nat → W4
  | 0 => x
  | 1 => ⟨x.a + q, x.b, x.c, x.d⟩
  | 2 => ⟨x.a + q, x.b + (x.a + q), x.c, x.d⟩
  | 3 => ⟨x.a + q, x.b + (x.a + q), x.c + (x.b + (x.a + q)), x.d⟩
  | _ => f4step x q
def f4word (x : W4) (q : BitVec 32) : Nat → BitVec 32
  | 0 => q
  | 1 => x.a + q
  | 2 => x.b + (x.a + q)
  | 3 => x.c + (x.b + (x.a + q))
  | _ => x.d + (x.c + (x.b + (x.a + q)))
abbrev JP (x : W4) (q : BitVec 32) (news : Led) (li lx : Addr × Obj) (j : Nat) (m : Str → Option Value) (nw : Led) : Prop :=
  ∃ D ta tb tc td n, m "found" = some (.ref D) ∧ (∃ t, m "word" = some (wv (f4word x q j) t)) ∧ LCg.Off1 D (li :: lx :: news) ∧ nw = (D, lst4 (f4part x q j) ta tb tc td n) :: li :: lx :: news
theorem rows_C14_2 : True := by
  (k_with "subscriptTail" => (k_here; (with_reducible show wpAny _ _ (subscriptTail _ _ (Value.ref _) (Value.int _ _)) _ _ _); k_dflt (refine' l_item ?N ?M ?Z ?X ?_; (case N => k_asm); (case M => k_mem); (case X => exact rfl); (case Z => decide))))
  (k_with "subscriptTail Name Name ref int" => (k_here; (with_reducible show wpAny _ _ (subscriptTail _ _ (Value.ref _) (Value.int _ _)) _ _ _); k_dflt (refine' l_item ?N ?M ?Z ?X ?_; (case N => k_asm); (case M => k_mem); (case X => exact rfl); (case Z => decide))))
  (k_with "setItem ref int int" => ((k_here; k_dflt (refine (l_set4 (by k_asm) (by k_asm) (by k_upd) (by exact rfl) (by decide) ?_))); intros; (try k_sweep)))
  trivial
theorem con_lfour (w : World) (os : List UInt8) (hb : os.length ≤ 64) (o : Addr) (vs : List Value) (k : Nat) (hv : AllIs OctIs os vs) :
    Con w 123 3 [.ref o] (fun news => (o, listOf vs.toArray k) ∈ news) (OutW4 (f4at (words os) (words os).length)) := by
  have hwl := words_length os
  have hvl := hv.length
  ktr_unf
  intro prog p loose mean mg mb dp un gd cn cs a ccd cl outer A₀ base h₀ L m news s Q E B F X N T hk hok hd hu hret
  replace hok : (o, listOf vs.toArray k) ∈ news := hok
  ktn_open
  k_steps
  (with_reducible rename Fr _ _ _ _ => lF)
  (with_reducible rename News _ _ _ _ => lN)
  (with_reducible rename AllIs _ _ _ => lV)
  have lN' := news_swap lN
  clear lN
  refine halt (for_list (by rfl) lF lN' (List.mem_cons_of_mem _ List.mem_cons_self) (JF (words os) news _) ⟨_, _, _, _, _, _, rfl, ⟨by (refine neN ?_; omega), off_of (ne_below (by assumption) (Nat.le_refl _))⟩, rfl⟩ ?_ ?_ ?_)
  · rintro i m nw ⟨D, ta, tb, tc, td, n, _, _, rfl⟩
    exact List.mem_cons_of_mem _ List.mem_cons_self
  · rintro i v m₁ nw h tk I oI hv ⟨D, ta, tb, tc, td, n, e2, oD, rfl⟩ F₁ N₁ off
    obtain ⟨wq, hw, t, rfl⟩ := lV.get' hv
    have F₂ := fr_at F₁ e2
    have offD : @Ne Nat D I := off _ List.mem_cons_self
    have oD1 := oD.1
    have oD2 := oD.2
    dsimp only at oD1
    clear F₁ lF lN'
    obtain rfl : wd (words os) i = wq := by rw [wd, hw]; rfl
    k_steps
    (with_reducible rename Fr _ _ _ _ => lF)
    (with_reducible rename News _ _ _ _ => lN)
    have lN' := news_swap lN
    clear lN
    refine halt (for_range (n := 4) (by rfl) (by k_asm) (by decide) (by decide) lF lN' (JP (f4at (words os) i) (wd (words os) i) news _ _) ⟨_, _, _, _, _, _, rfl, ⟨_, rfl⟩, ⟨by (refine neN ?_; omega), oD⟩, rfl⟩ ?_ ?_)
    · rintro j u m₂ nw h tk I₂ oI₂ hj ⟨D, ta, tb, tc, td, n, e2, ⟨tq, e3⟩, oD, rfl⟩ F₁ N₁ off2
      have F₂ := fr_at2 F₁ e2 e3
      have offD : @Ne Nat D I₂ := off2 _ List.mem_cons_self
      have oD1 := oD.1
      have oD3 := oD.2.1
      have oD4 := oD.2.2
      dsimp only at oD1 oD3
      have e : (0 : Int) + (j : Int) * 1 = ((j : Nat) : Int) := by omega
      rw [e]
      clear F₁ lF lN'
      rcases j with _ | _ | _ | _ | j
      · k_steps
        (with_reducible rename News _ _ _ _ => lN)
        exact tnextU lN (by k_asm) offD (fun p hp => off2 p (List.mem_cons_of_mem _ hp)) ⟨_, _, _, _, _, _, rfl, ⟨_, rfl⟩, oD, rfl⟩
      · k_steps
        (with_reducible rename News _ _ _ _ => lN)
        exact tnextU lN (by k_asm) offD (fun p hp => off2 p (List.mem_cons_of_mem _ hp)) ⟨_, _, _, _, _, _, rfl, ⟨_, rfl⟩, oD, rfl⟩
      · k_steps
        (with_reducible rename News _ _ _ _ => lN)
        exact tnextU lN (by k_asm) offD (fun p hp => off2 p (List.mem_cons_of_mem _ hp)) ⟨_, _, _, _, _, _, rfl, ⟨_, rfl⟩, oD, rfl⟩
      · k_steps
        (with_reducible rename News _ _ _ _ => lN)
        exact tnextU lN (by k_asm) offD (fun p hp => off2 p (List.mem_cons_of_mem _ hp)) ⟨_, _, _, _, _, _, rfl, ⟨_, rfl⟩, oD, rfl⟩
      · omega
    · rintro m₂ nw h tk ⟨D, ta, tb, tc, td, n, e2, ⟨tq, e3⟩, oD, rfl⟩ F₁ N₁
      have offO : @Ne Nat D I := Ne.symm oD.1
      have F₂ := fr_at F₁ e2
      clear F₁ lF lN'
      k_steps
      (with_reducible rename News _ _ _ _ => lN)
      exact tnextU (news_swap lN) (by k_asm) offO (fun p hp => off p (List.mem_cons_of_mem _ hp)) ⟨_, _, _, _, _, _, rfl, oD.2, rfl⟩
  · rintro m₁ nw h tk ⟨D, ta, tb, tc, td, n, e2, oD, rfl⟩ F₁ N₁
    have F₂ := fr_at F₁ e2
    rw [← lV.length] at N₁
    clear F₁ lF lN'
    k_steps
    all_goals (refine' endW4o hret ?F9 ?N9 ?m9 ?s9 ?l9 ?x9; (case F9 => k_asm); (case N9 => k_asm); (case m9 => k_mem); (case s9 => kcf_all); (case l9 => exact off_lt (by lcg_off)); (case x9 => rfl))
end
section
open PySem PySem.W PyProof.Rows PySem.Spec PySem.Calls PyProof.Rows.LCg
set_option maxRecDepth 100000
set_option maxHeartbeats 2000000
section
variable {prog : Program} {w : World} {A : Around} {E : Value → Shared → Prop} {s : Shared} {h₀ : Heap} {L : Addr} {m : Str → Option Value} {env : Env}
theorem cell_core {elt iter : PySem.Expr} {x : Str} {px : Pos} {scope : Scope} {cl : List (Str × Addr)} {pos : Pos} {s₂ : Shared} {I : Addr} {fp : List Addr} {n : Nat} {P Md : Nat → Value → Heap → Prop} {St : Nat → Heap → Prop} {keep : Led} {V : Nat → Value → Prop} {news : Led} {RR : Value → Addr → Result → Shared → Prop}
    (W : KTurns prog w A (.Name x px) I fp [I] n P Md St) (hP : ∀ i v h, P i v h → V i v)
    (hh : A.handled = none) (hsz : n ≤ sizeLine) (hI : I ∈ fp) (hfpl : ∀ c ∈ fp, c < s₂.heap.objs.size) (hfp : ∀ c ∈ fp, h₀.get? c = none → c = I ∨ ∃ o, (c, o) ∈ keep)
    (hobj : ∀ i h, St i h → ∃ o, h.get? I = some o) (hst : St 0 s₂.heap) (hself : ∀ h, St 0 h → ∀ (Q : Value → Shared → Prop) (E : Value → Shared → Prop) (s : Shared), s.heap = h → Q (.ref I) s → wpAny (model prog w) A (pyIter (.ref I)) Q E s)
    (hnew : ∀ (s : Shared) (Q : Env → Shared → Prop), Q { scope := scope, locals := s.heap.objs.size, globals := env.globals, cells := (x, s.heap.objs.size + 1) :: cl, qual := env.qual, func := none, code := env.code, frame := env.frame, builtins := env.builtins }
        { s with heap := (s.heap.push { cls := .type "dict", data := .dict #[] }).push { cls := .type "cell", data := .cell none } } → wpAny (model prog w) A (newFunctionEnv scope env.globals cl [] env.qual none .none (some env)) Q E s)
    (hkind : scope.kind = .function) (hx : ∀ C Cc, (compEnvC scope ((x, Cc) :: cl) C env).kindOf x = some .cell)
    (F : Fr h₀ L s₂.heap m) (N : News h₀ L s₂.heap news) (hI₀ : h₀.get? I = none) (hLfp : L ∉ fp) (off : ∀ p ∈ news, p.1 ≠ I)
    (J : Nat → List Value → Led → Prop) (h0 : J 0 [] news) (hJ : ∀ i ys nw, J i ys nw → ∀ p ∈ keep, p ∈ nw)
    (turn : ∀ i v ys nw oI C oC Cc oc D h tk (E' : Value → Shared → Prop), i < n → V i v → J i ys nw → oc.data = .cell (some v) → Fr h₀ L h m → News h₀ L h ((I, oI) :: (C, oC) :: (Cc, oc) :: (D, lst ys) :: nw) → Off4 I C Cc D nw →
      wpAny (model prog w) A (eval elt (compEnvC scope ((x, Cc) :: cl) C env)) (fun y s' => Halt (EndP h₀ L m { s₂ with heap := h, toks := tk } I oI C oC Cc oc D (lst ys) (fun y nw' => J (i + 1) (ys ++ [y]) nw') y s')) E' { s₂ with heap := h, toks := tk })
    (hRR : ∀ D C h tk m' ys nw, Fr h₀ L h m → News h₀ L h ((D, lst ys) :: nw) → Off1 D nw → h.Ns C m' → h₀.get? C = none → h₀.get? D = none → C ≠ L → D ≠ L → C ≠ D → (∀ p ∈ nw, p.1 ≠ C) → J n ys nw → RR (.ref D) C (.ok .next) { s₂ with heap := h, toks := tk }) :
    wpAny (model prog w) A (newList []) (fun acc s₃ => wpAny (model prog w) A (newFunctionEnv scope env.globals cl [] env.qual none .none (some env)) (fun cenv s₄ =>
      codeAny (model prog w) A (.compStart (.ListComp elt [⟨.Name x px, iter, [], 0⟩] scope pos) 0 (.ref I) acc { cenv with scope := relabel scope env }) (RR acc cenv.locals) s₄) E s₃) E s₂ := by
  refine wpAny_newObj_type (hnew _ _ ?_)
  dsimp only
  generalize hH2 : s₂.heap.push { cls := .type "list", dict := none, data := .seq ([] : List Value).toArray } = H2
  generalize hh1 : (H2.push { cls := .type "dict", dict := none, data := .dict #[] }).push { cls := .type "cell", dict := none, data := .cell none } = h₁
  have hC : H2.objs.size = s₂.heap.objs.size + 1 := by rw [← hH2, Heap.size_push]
  have hDC : s₂.heap.objs.size ≠ H2.objs.size := by rw [hC]; exact Nat.ne_of_lt (Nat.lt_succ_self _)
  have hCc : H2.objs.size ≠ H2.objs.size + 1 := Nat.ne_of_lt (Nat.lt_succ_self _)
  have hDCc : s₂.heap.objs.size ≠ H2.objs.size + 1 := by rw [hC]; exact Nat.ne_of_lt (Nat.lt_succ_of_lt (Nat.lt_succ_self _))
  have below : ∀ b, b < s₂.heap.objs.size → b ≠ H2.objs.size ∧ b ≠ H2.objs.size + 1 ∧ b ≠ s₂.heap.objs.size := fun b hb => ⟨by rw [hC]; exact Nat.ne_of_lt (Nat.lt_succ_of_lt hb), by rw [hC]; exact Nat.ne_of_lt (Nat.lt_succ_of_lt (Nat.lt_succ_of_lt hb)), Nat.ne_of_lt hb⟩
  have up1 : ∀ b o, H2.get? b = some o → h₁.get? b = some o := fun b o e => hh1 ▸ Heap.get?_push_of_some _ (Heap.get?_push_of_some _ e)
  have old : ∀ b o, s₂.heap.get? b = some o → h₁.get? b = some o := fun b o e => up1 b o (hH2 ▸ Heap.get?_push_of_some _ e)
  have hacc : h₁.get? s₂.heap.objs.size = some (lst []) := up1 _ _ (hH2 ▸ Heap.get?_push_size _ rfl)
  have hns₁ : h₁.Ns H2.objs.size (fun _ => none) := hh1 ▸ (Heap.Ns.new H2 (.type "dict")).keeps fun b o e => Heap.get?_push_of_some _ e
  have hcc₁ : h₁.IsCell (H2.objs.size + 1) none := by
    have z := Heap.get?_push_size (H2.push { cls := .type "dict", dict := none, data := .dict #[] }) (o := { cls := .type "cell", dict := none, data := .cell none }) rfl
    rw [Heap.size_push] at z
    exact hh1 ▸ ⟨_, z, rfl⟩
  have hst₁ : St 0 h₁ := W.frame _ _ _ hst fun b _ o e => old b o e
  have fresh : ∀ a, s₂.heap.objs.size ≤ a → s₂.heap.get? a = none := fun a ha => by
    cases e : s₂.heap.get? a with
    | none => rfl
    | some o' => exact absurd (Heap.lt_size e) (Nat.not_lt.mpr ha)
  have fresh₀ : ∀ a, s₂.heap.objs.size ≤ a → h₀.get? a = none := fun a ha => by
    cases e : h₀.get? a with
    | none => rfl
    | some o' => have := F.keep a o' e; rw [fresh a ha] at this; cases this
  have hD₀ : h₀.get? s₂.heap.objs.size = none := fresh₀ _ (Nat.le_refl _)
  have hC₀ : h₀.get? H2.objs.size = none := fresh₀ _ (by rw [hC]; exact Nat.le_succ _)
  have hCc₀ : h₀.get? (H2.objs.size + 1) = none := fresh₀ _ (by rw [hC]; exact Nat.le_succ_of_le (Nat.le_succ _))
  have hLlt : L < s₂.heap.objs.size := F.ns.lt
  have hDL : s₂.heap.objs.size ≠ L := Ne.symm (below L hLlt).2.2
  have hCcL : H2.objs.size + 1 ≠ L := Ne.symm (below L hLlt).2.1
  have hCL : H2.objs.size ≠ L := Ne.symm (below L hLlt).1
  have fpC : ∀ c ∈ fp, c ≠ H2.objs.size := fun c hc => (below c (hfpl c hc)).1
  have fpD : ∀ c ∈ fp, c ≠ s₂.heap.objs.size := fun c hc => (below c (hfpl c hc)).2.2
  have fpCc : ∀ c ∈ fp, c ≠ H2.objs.size + 1 := fun c hc => (below c (hfpl c hc)).2.1
  have off₀ : Off4 I H2.objs.size (H2.objs.size + 1) s₂.heap.objs.size news := fun p hp => ⟨off p hp, (below _ (Heap.lt_size (N p hp).1)).1, (below _ (Heap.lt_size (N p hp).1)).2.1, (below _ (Heap.lt_size (N p hp).1)).2.2⟩
  have hIL : L ≠ I := fun e => hLfp (e ▸ hI)
  have notin : ∀ c : Addr, c ≠ I → c ∉ [I] := fun c h1 hm => h1 (List.mem_singleton.mp hm)
  have based : ∀ c o, h₀.get? c = some o → c ∉ [I] ∧ c ≠ H2.objs.size + 1 ∧ c ≠ s₂.heap.objs.size := fun c o e =>
    ⟨notin c (fun q => by rw [q, hI₀] at e; cases e), (fun q => by rw [q, hCc₀] at e; cases e), (fun q => by rw [q, hD₀] at e; cases e)⟩
  have loop : ∀ s₃ : Shared, s₃ = { s₂ with heap := h₁ } →
      codeAny (model prog w) A (.compLoop (.ListComp elt [⟨.Name x px, iter, [], 0⟩] scope pos) 0 (.ref I) (.ref s₂.heap.objs.size) (compEnvC scope ((x, H2.objs.size + 1) :: cl) H2.objs.size env))
        (RR (.ref s₂.heap.objs.size) H2.objs.size) s₃ := by
    rintro s₃ rfl
    refine kcp_loop
      (fun k s' => ∃ h' tk i ys cv nw, s' = { s₂ with heap := h', toks := tk } ∧ i ≤ n ∧ k = n + 1 - i ∧ ys.length = i ∧ St i h' ∧ Fr h₀ L h' m ∧ h'.Ns H2.objs.size (fun _ => none) ∧ h'.IsCell (H2.objs.size + 1) cv ∧
        News h₀ L h' ((s₂.heap.objs.size, lst ys) :: nw) ∧ Off4 I H2.objs.size (H2.objs.size + 1) s₂.heap.objs.size nw ∧ J i ys nw) ?_ (n + 1)
      ⟨h₁, _, 0, [], _, news, rfl, Nat.zero_le _, rfl, rfl, hst₁, F.keeps old, hns₁, hcc₁, fun p hp => ?_, off₀, h0⟩
    · rintro k s' ⟨h', tk, i, ys, cv, nw, rfl, hi, rfl, hyl, hst', F', hn', hcv, N', off', hJ'⟩
      by_cases hlt : i < n
      · refine W.item i _ _ _ hlt hst' fun v h₂ tk₂ hMd hk₂ => ?_
        refine W.go i v _ _ _ hMd fun h₃ hPv hst₃ hk₃ => ?_
        have hV := hP i v _ hPv
        have up₃ : ∀ c o, c ∉ [I] → h'.get? c = some o → h₃.get? c = some o := fun c o hc e => hk₃ c o hc (hk₂ c o hc e)
        have hCw : H2.objs.size ∉ [I] := notin _ (Ne.symm (fpC I hI))
        have hDw : s₂.heap.objs.size ∉ [I] := notin _ (Ne.symm (fpD I hI))
        have hLw : L ∉ [I] := notin _ hIL
        have hCcw : H2.objs.size + 1 ∉ [I] := notin _ (Ne.symm (fpCc I hI))
        obtain ⟨ocv, hocv, hdcv⟩ := hcv
        refine wpAny_assign_Name (wpAny_storeName_cell (env := compEnvC scope ((x, H2.objs.size + 1) :: cl) H2.objs.size env) (c := H2.objs.size + 1) (by simp [compEnvC, relabel, hkind]) (hx _ _) (by simp [compEnvC]) ⟨ocv, up₃ _ _ hCcw hocv, hdcv⟩ fun h₄ hc₄ hs₄ => ?_)
        have up : ∀ c o, c ∉ [I] → c ≠ H2.objs.size + 1 → h'.get? c = some o → h₄.get? c = some o := fun c o h1 h2 e => hs₄.extBut c o h2 (up₃ c o h1 e)
        have hst₄ : St (i + 1) h₄ := W.frame _ _ _ hst₃ fun c hc o e => hs₄.extBut c o (fpCc c hc) e
        obtain ⟨oI, heI⟩ := hobj _ _ hst₄
        obtain ⟨oC, heC', hoC⟩ := ns_obj hn'
        have heC := up _ _ hCw hCc heC'
        obtain ⟨oc, hec, hdc⟩ := hc₄
        have F₄ : Fr h₀ L h₄ m := ⟨F'.ns.at' fun o e => up _ o hLw (Ne.symm hCcL) e, fun c o e => up c o (based c o e).1 (based c o e).2.1 (F'.keep c o e), F'.above⟩
        have N₄ : News h₀ L h₄ ((I, oI) :: (H2.objs.size, oC) :: (H2.objs.size + 1, oc) :: (s₂.heap.objs.size, lst ys) :: nw) := fun q hq => by
          rcases List.mem_cons.mp hq with rfl | hq
          · exact ⟨heI, Ne.symm hIL, hI₀⟩
          · rcases List.mem_cons.mp hq with rfl | hq
            · exact ⟨heC, hCL, hC₀⟩
            · rcases List.mem_cons.mp hq with rfl | hq
              · exact ⟨hec, hCcL, hCc₀⟩
              · have z := N' q hq
                refine ⟨up _ _ ?_ ?_ z.1, z.2⟩
                · rcases List.mem_cons.mp hq with rfl | hq
                  · exact hDw
                  · exact notin _ (off' q hq).1
                · rcases List.mem_cons.mp hq with rfl | hq
                  · exact hDCc
                  · exact (off' q hq).2.2.1
        refine wpAny_mono (turn i v ys nw oI H2.objs.size oC (H2.objs.size + 1) oc s₂.heap.objs.size h₄ _ _ hlt hV hJ' hdc F₄ N₄ off') (fun z s₅ h₅ => ?_) fun _ _ e => e
        obtain ⟨h₅, tk₅, nw₅, rfl, F₅, N₅, off₅, hJ₅⟩ := h₅
        have zI := (N₅ (I, oI) List.mem_cons_self).1
        have zC := (N₅ (H2.objs.size, oC) (List.mem_cons_of_mem _ List.mem_cons_self)).1
        have zc := (N₅ (H2.objs.size + 1, oc) (List.mem_cons_of_mem _ (List.mem_cons_of_mem _ List.mem_cons_self))).1
        have zD := (N₅ (s₂.heap.objs.size, lst ys) (List.mem_cons_of_mem _ (List.mem_cons_of_mem _ (List.mem_cons_of_mem _ List.mem_cons_self)))).1
        have N₅' : News h₀ L h₅ nw₅ := fun q hq => N₅ q (List.mem_cons_of_mem _ (List.mem_cons_of_mem _ (List.mem_cons_of_mem _ (List.mem_cons_of_mem _ hq))))
        have hst₅ : St (i + 1) h₅ := W.frame _ _ _ hst₄ fun c hc o e => by
          cases hb : h₀.get? c with
          | some o' =>
            have h1 := F₄.keep c o' hb
            rw [e] at h1
            rw [Option.some.inj h1]
            exact F₅.keep c o' hb
          | none =>
            rcases hfp c hc hb with rfl | ⟨o', ho'⟩
            · rw [heI] at e; rw [← Option.some.inj e]; exact zI
            · have h1 := (N₄ _ (List.mem_cons_of_mem _ (List.mem_cons_of_mem _ (List.mem_cons_of_mem _ (List.mem_cons_of_mem _ (hJ _ _ _ hJ' _ ho')))))).1
              have h2 := (N₅' _ (hJ _ _ _ hJ₅ _ ho')).1
              have h3 : o' = o := Option.some.inj (h1.symm.trans e)
              rw [← h3]; exact h2
        refine append_at (hsz := by show ys.toArray.size ≤ sizeLine; rw [List.size_toArray, hyl]; exact Nat.le_trans hi hsz) zD fun h₆ hs₆ hD₆ => ?_
        refine ⟨n + 1 - (i + 1), by omega, h₆, tk₅, i + 1, ys ++ [z], some v, nw₅, rfl, hlt, rfl, by rw [List.length_append, List.length_singleton, hyl], W.frame _ _ _ hst₅ fun c hc o e => hs₆.extBut c o (fpD c hc) e, F₅.change hs₆ hDL hD₀,
          (hoC.ns zC).sameBut hs₆ (Ne.symm hDC), ⟨oc, hs₆.extBut _ _ (Ne.symm hDCc) zc, hdc⟩, fun q hq => ?_, off₅, hJ₅⟩
        rcases List.mem_cons.mp hq with rfl | hq
        · exact ⟨hD₆.trans (congrArg some (lst_snoc ys z)), hDL, hD₀⟩
        · exact ⟨hs₆.extBut _ _ (off₅ q hq).2.2.2 (N₅' q hq).1, (N₅' q hq).2⟩
      · have hin : i = n := Nat.le_antisymm hi (Nat.not_lt.mp hlt)
        subst hin
        refine W.done _ _ _ hst' fun h₂ tk₂ hk₂ => ?_
        have hLw : L ∉ [I] := notin _ hIL
        have hCw : H2.objs.size ∉ [I] := notin _ (Ne.symm (fpC I hI))
        have hDw : s₂.heap.objs.size ∉ [I] := notin _ (Ne.symm (fpD I hI))
        exact hRR _ _ h₂ tk₂ (fun _ => none) ys nw ⟨F'.ns.at' fun o e => hk₂ _ o hLw e, fun c o e => hk₂ c o (based c o e).1 (F'.keep c o e), F'.above⟩ (fun p hp => by
          have z := N' p hp
          refine ⟨hk₂ _ _ ?_ z.1, z.2⟩
          rcases List.mem_cons.mp hp with rfl | hp
          · exact hDw
          · exact notin _ (off' p hp).1) (by
          have : ∀ l : Led, (∀ p ∈ l, p.1 ≠ s₂.heap.objs.size) → Off1 s₂.heap.objs.size l := by
            intro l
            induction l with
            | nil => intro _; trivial
            | cons q r ih => intro hq; exact ⟨hq q List.mem_cons_self, ih fun p hp => hq p (List.mem_cons_of_mem _ hp)⟩
          exact this nw fun p hp => (off' p hp).2.2.2) (hn'.at' fun o e => hk₂ _ o hCw e) hC₀ hD₀ hCL hDL (Ne.symm hDC) (fun p hp => (off' p hp).2.1) hJ'
    · rcases List.mem_cons.mp hp with rfl | hp
      · exact ⟨hacc, hDL, hD₀⟩
      · exact ⟨old _ _ (N p hp).1, (N p hp).2⟩
  exact codeAny_compStart_list (loop _ rfl) (hself _ hst₁ _ _ _ rfl (loop _ rfl))
/-- one name that an inner block closes over, over a tuple of the ledger -/
theorem cell_block {elt iter : PySem.Expr} {x : Str} {px : Pos} {scope : Scope} {cl : List (Str × Addr)} {pos : Pos} {CP : Value → Addr → Result → Shared → Prop} {l : Addr} {vs : List Value} {k : Nat} {news : Led}
    (hh : A.handled = none) (hm : (l, ({ cls := .type "tuple", data := .seq vs.toArray k } : Obj)) ∈ news) (hsz : vs.length ≤ sizeLine)
    (hnew : ∀ (s : Shared) (Q : Env → Shared → Prop), Q { scope := scope, locals := s.heap.objs.size, globals := env.globals, cells := (x, s.heap.objs.size + 1) :: cl, qual := env.qual, func := none, code := env.code, frame := env.frame, builtins := env.builtins }
        { s with heap := (s.heap.push { cls := .type "dict", data := .dict #[] }).push { cls := .type "cell", data := .cell none } } → wpAny (model prog w) A (newFunctionEnv scope env.globals cl [] env.qual none .none (some env)) Q E s)
    (hkind : scope.kind = .function) (hx : ∀ C Cc, (compEnvC scope ((x, Cc) :: cl) C env).kindOf x = some .cell)
    (F : Fr h₀ L s.heap m) (N : News h₀ L s.heap news)
    (J : Nat → List Value → Led → Prop) (h0 : J 0 [] news)
    (turn : ∀ i v ys nw I oI C oC Cc oc D h tk (s₂ : Shared) (E' : Value → Shared → Prop), vs[i]? = some v → J i ys nw → oc.data = .cell (some v) → Fr h₀ L h m → News h₀ L h ((I, oI) :: (C, oC) :: (Cc, oc) :: (D, lst ys) :: nw) → Off4 I C Cc D nw →
      wpAny (model prog w) A (eval elt (compEnvC scope ((x, Cc) :: cl) C env)) (fun y s' => Halt (EndP h₀ L m { s₂ with heap := h, toks := tk } I oI C oC Cc oc D (lst ys) (fun y nw' => J (i + 1) (ys ++ [y]) nw') y s')) E' { s₂ with heap := h, toks := tk })
    (hJm : ∀ i ys nw, J i ys nw → (l, ({ cls := .type "tuple", data := .seq vs.toArray k } : Obj)) ∈ nw)
    (fin : ∀ ys nw, J vs.length ys nw → Back h₀ L m s CP ys nw) :
    Block1 prog w A env elt iter x px scope cl pos CP E (.ref l) s := by
  have hax := N _ hm
  have hl : s.heap.IsTuple l vs.toArray := ⟨_, hax.1, rfl, k, rfl⟩
  have hlt : l < s.heap.objs.size := Heap.lt_size hax.1
  have hne : l ≠ s.heap.objs.size := Nat.ne_of_lt hlt
  unfold Block1 CompBlock
  refine wpAny_pyIter_tuple hl ?_
  have W0 := Walks.tuple (prog := prog) (w := w) hh s.heap.objs.size l hne vs.toArray
  have e : vs.toArray.size = vs.length := List.size_toArray
  rw [e] at W0
  have W := KTurns.ofWalks (target := .Name x px) W0 fun i v s Q E st q => letGo_tupleiter st.1 q
  refine cell_core (s₂ := { s with heap := _ }) (V := fun i v => vs[i]? = some v) (keep := [(l, ({ cls := .type "tuple", data := .seq vs.toArray k } : Obj))]) W ?_ hh hsz (by simp) ?_ ?_ (fun i h st => by obtain ⟨o, e, _⟩ := st.1; exact ⟨o, e⟩) ⟨⟨_, Heap.get?_push_size _ rfl, rfl, rfl⟩, hl.at fun o e => Heap.get?_push_of_some _ e⟩ ?_ hnew hkind hx (F.push _) (fun p hp => ⟨Heap.get?_push_of_some _ (N p hp).1, (N p hp).2⟩) (next_is_new F) ?_ (fun p hp => Nat.ne_of_lt (Heap.lt_size (N p hp).1)) J h0 (fun i ys nw h p hp => by rw [List.mem_singleton.mp hp]; exact hJm i ys nw h) ?_ ?_
  · exact fun i v h q => by simpa using q
  · intro c hc
    show c < (s.heap.push _).objs.size
    rw [Heap.size_push]
    rcases List.mem_cons.mp hc with rfl | hc
    · exact Nat.lt_succ_self _
    · rw [List.mem_singleton.mp hc]; exact Nat.lt_succ_of_lt hlt
  · intro c hc _
    rcases List.mem_cons.mp hc with rfl | hc
    · exact .inl rfl
    · exact .inr ⟨_, by rw [List.mem_singleton.mp hc]; exact List.mem_cons_self⟩
  · rintro h st Q' E' s' rfl hq
    exact W0.self 0 _ _ _ st hq
  · intro hm'
    rcases List.mem_cons.mp hm' with e | hc
    · exact absurd F.ns.lt (e ▸ Nat.lt_irrefl _)
    · exact hax.2.1 (List.mem_singleton.mp hc).symm
  · intro i v ys nw oI C oC Cc oc D h tk E' hi hv hJ' hd F₁ N₁ off
    exact turn i v ys nw _ oI C oC Cc oc D h tk _ E' hv hJ' hd F₁ N₁ off
  · intro D C h tk m' ys nw F' N' o1 hn hC₀ hD₀ hCL hDL hCD offC hJ'
    exact fin ys nw hJ' D C h tk m' F' N' o1 hn hC₀ hD₀ hCL hDL hCD offC
end
section
variable {M : Model} {A : Around} {E : Value → Shared → Prop}
theorem new_cell {scope : Scope} {env : Env} {cl : List (Str × Addr)} {x a0 a1 a2 a3 : Str} (hn : scope.names = [(a0, .local), (x, .cell), (a1, .globalImplicit), (a2, .globalImplicit), (a3, .free)]) (s : Shared) (Q : Env → Shared → Prop)
    (h : Q { scope := scope, locals := s.heap.objs.size, globals := env.globals, cells := (x, s.heap.objs.size + 1) :: cl, qual := env.qual, func := none, code := env.code, frame := env.frame, builtins := env.builtins }
        { s with heap := (s.heap.push { cls := .type "dict", data := .dict #[] }).push { cls := .type "cell", data := .cell none } }) :
    wpAny M A (newFunctionEnv scope env.globals cl [] env.qual none .none (some env)) Q E s := by
  simp only [newFunctionEnv, Option.isSome_some, if_true, hn]
  have e : ∀ (a b : NameKind), (a == b) = decide (a = b) := fun a b => by cases a <;> cases b <;> rfl
  simp only [List.forIn_cons, List.forIn_nil, e, reduceCtorEq, decide_false, Bool.false_eq_true, if_false, decide_true, if_true]
  repeat (first | refine wpAny_bind ?_ | refine wpAny_pure ?_ | refine wpAny_alloc ?_ | (dsimp only; first | refine wpAny_bind ?_ | refine wpAny_pure ?_ | refine wpAny_alloc ?_))
  dsimp only
  rw [Heap.size_push]
  exact h
end
end
section
open PySem PySem.W PyProof.Rows PySem.Spec PySem.Calls
set_option maxRecDepth 100000
set_option maxHeartbeats 2000000
theorem bounds2 (a m : Nat) (ha : a ≤ 1) : sliceBounds (some (a : Int)) none (some 2) (2 * m) = (((min a (2 * m) : Nat) : Int), ((2 * m : Nat) : Int), 2) := by
  unfold sliceBounds
  simp only [Option.getD_some, show (2 : Int) > 0 by decide, if_true]
  rw [if_neg (by omega)]
  simp only [Prod.mk.injEq, and_true]
  omega
theorem range2' (a m : Nat) (ha : a ≤ 1) : sliceRange ((min a (2 * m) : Nat) : Int) ((2 * m : Nat) : Int) 2 = (List.range m).map fun k => a + 2 * k := by
  unfold sliceRange
  simp only [show (2 : Int) > 0 by decide, if_true]
  by_cases hm : m = 0
  · subst hm
    rw [if_neg (by omega)]
    rfl
  · have e : min a (2 * m) = a := by omega
    rw [e, if_pos (by omega)]
    have e2 : ((((2 * m : Nat) : Int) - (a : Int) + 2 - 1) / 2).toNat = m := by omega
    rw [e2]
    refine List.map_congr_left fun k _ => ?_
    omega
theorem pick2 (vs : List Value) (a m : Nat) (ha : a ≤ 1) (hn : vs.length = 2 * m) : (slicePick vs.toArray (some (a : Int)) none (some 2)).toList = (List.range m).filterMap fun k => vs[a + 2 * k]? := by
  unfold slicePick
  have hs : vs.toArray.size = 2 * m := by simpa using hn
  rw [hs, bounds2 a m ha]
  show ((sliceRange _ _ _).filterMap _) = _
  rw [range2' a m ha, List.filterMap_map]
  congr 1
  funext k
  simp
theorem evs {ws : List (BitVec 32)} {vs : List Value} (h : AllIs WordIs ws vs) (a : Nat) (ha : a ≤ 1) : ∀ m : Nat, 2 * m ≤ ws.length → AllIs (fun k v => WordIs (wd ws (a + 2 * k)) v) (List.range m) ((List.range m).filterMap fun k => vs[a + 2 * k]?)
  | 0, _ => .nil
  | m + 1, hm => by
    have ih := evs h a ha m (by omega)
    have hlt : a + 2 * m < ws.length := by omega
    obtain ⟨v, hv, t, rfl⟩ := h.get (List.getElem?_eq_getElem hlt)
    rw [List.range_succ, List.filterMap_append]
    have e : [m].filterMap (fun k => vs[a + 2 * k]?) = [wv (ws[a + 2 * m]) t] := by simp [hv]
    rw [e]
    refine ih.snoc ⟨t, ?_⟩
    rw [wd, List.getElem?_eq_getElem hlt]
    rfl
section
variable {prog : Program} {w : World} {A : Around} {E : Value → Shared → Prop} {s : Shared} {h₀ : Heap} {L l : Addr} {m : Str → Option Value} {news : Led} {vs : List Value} {k : Nat} {value slice : PySem.Expr} {ops : List Value} {ws : List (BitVec 32)}
theorem l_pick2 {Q : Value → Shared → Prop} {a : Nat} {t u : Tok} (F : Fr h₀ L s.heap m) (N : News h₀ L s.heap news) (hm : (l, listOf vs.toArray k) ∈ news) (hv : AllIs WordIs ws vs) (ha : a ≤ 1) (hev : ws.length % 2 = 0) (hz : ws.length ≤ 1000)
    (h : ∀ D ys h', Fr h₀ L h' m → News h₀ L h' ((D, listOf (List.toArray ys) 0) :: news) → (∀ p ∈ news, p.1 < D) → AllIs (fun k v => WordIs (wd ws (a + 2 * k)) v) (List.range (ws.length / 2)) ys → ys.length = ws.length / 2 → Q (.ref D) { s with heap := h' })
    (hs : subscripted slice false (.ref l) (.ref s.heap.objs.size) = operate ops (getItem (.ref l) (.ref s.heap.objs.size))) (ht : ∀ r, letTemporaryGo value (.ref l) r = pure ()) :
    wpAny (model prog w) A (subscriptTail value slice (.ref l) (.ref s.heap.objs.size)) Q E { s with heap := s.heap.push { cls := .type "slice", data := .fields #[nv a t, .none, .int 2 u] } } := by
  have hl := hv.length
  have hE := evs hv a ha (ws.length / 2) (by omega)
  have hEl := hE.length
  refine l_slice3 F N hm (by omega) (.int _ _) .none (.int _ _) (by decide) (pick2 vs a (ws.length / 2) ha (by omega)) (fun D h' F' N' l1 => h D _ h' F' N' l1 hE (by rw [← hEl, List.length_range])) hs ht
end
theorem range1 (n : Nat) : Builtin.Range.rangeSize 0 (n : Int) 1 = ((n : Nat) : Int) := by
  rw [rangeSize_one]
  split <;> omega
section
open PyProof.Rows.LCg
variable {prog : Program} {w : World} {A : Around} {E : Value → Shared → Prop} {s : Shared} {h₀ : Heap} {L : Addr} {m : Str → Option Value} {env : Env}
/-- one name over a list of the ledger -/
theorem blk_list {elt iter : PySem.Expr} {x : Str} {px : Pos} {scope : Scope} {cl : List (Str × Addr)} {pos : Pos} {CP : Value → Addr → Result → Shared → Prop} {l : Addr} {vs : List Value} {k : Nat} {news : Led}
    (hh : A.handled = none) (hm : (l, listOf vs.toArray k) ∈ news) (hsz : vs.length ≤ sizeLine) (hcell : ∀ y ∈ scope.names, y.2 ≠ .cell) (hkind : scope.kind = .function) (hx : scope.names.lookup x = some .local)
    (F : Fr h₀ L s.heap m) (N : News h₀ L s.heap news)
    (J : Nat → List Value → Led → Prop) (h0 : J 0 [] news)
    (turn : ∀ i v ys nw I oI C oC D m₂ h tk (s₂ : Shared) (E' : Value → Shared → Prop), vs[i]? = some v → J i ys nw → (l, listOf vs.toArray k) ∈ nw → NsObj oC m₂ → m₂ x = some v → Fr h₀ L h m → News h₀ L h ((I, oI) :: (C, oC) :: (D, lst ys) :: nw) → Off3 I C D nw → ((@Ne Nat I C) ∧ (@Ne Nat I D) ∧ (@Ne Nat C D)) →
      wpAny (model prog w) A (eval elt (compEnvC scope cl C env)) (fun y s' => Halt (CompEnd h₀ L m { s₂ with heap := h, toks := tk } I oI C oC D (lst ys) (fun nw' => (l, listOf vs.toArray k) ∈ nw') (fun y nw' => J (i + 1) (ys ++ [y]) nw') y s')) E' { s₂ with heap := h, toks := tk })
    (hJm : ∀ i ys nw, J i ys nw → (l, listOf vs.toArray k) ∈ nw)
    (fin : ∀ ys nw, J vs.length ys nw → Back h₀ L m s CP ys nw) :
    Block1 prog w A env elt iter x px scope cl pos CP E (.ref l) s := by
  have hax := N _ hm
  have hl : s.heap.IsList l vs.toArray := ⟨_, hax.1, rfl, k, rfl⟩
  have hlt : l < s.heap.objs.size := Heap.lt_size hax.1
  have hne : l ≠ s.heap.objs.size := Nat.ne_of_lt hlt
  unfold Block1 CompBlock
  refine wpAny_pyIter_list hl ?_
  have W := Walks.list (prog := prog) (w := w) hh s.heap.objs.size l hne vs.toArray
  have e : vs.toArray.size = vs.length := List.size_toArray
  rw [e] at W
  refine block_U (s₂ := { s with heap := _ }) (S := fun nw => (l, listOf vs.toArray k) ∈ nw) (Fin := fun ys nw => J vs.length ys nw) W hsz (fun i h st => by obtain ⟨o, e, _⟩ := st.1; exact ⟨o, e⟩) ?_ hcell hkind hx ⟨⟨_, Heap.get?_push_size _ rfl, rfl, rfl⟩, hl.at fun o e => Heap.get?_push_of_some _ e⟩ (fun b hb => ?_)
      (F.keeps fun _ _ e => Heap.get?_push_of_some _ e) (N.grown fun _ _ e => Heap.get?_push_of_some _ e) (Nat.ne_of_lt F.ns.lt) (next_is_new F) (fun p hp => Nat.ne_of_lt (Heap.lt_size (N p hp).1)) hm ?_ ?_
  · exact fun i h h' o nw st e e' _ N' S => ⟨by obtain ⟨o', q, r⟩ := st.1; rw [e] at q; cases q; exact ⟨o, e', r⟩, ⟨_, (N' _ S).1, rfl, k, rfl⟩⟩
  · show b < (s.heap.push _).objs.size
    rw [Heap.size_push]
    rcases List.mem_cons.mp hb with rfl | hb
    · exact Nat.lt_succ_self _
    · rw [List.mem_singleton.mp hb]; exact Nat.lt_succ_of_lt hlt
  · refine cu_restJ J h0 ?_ (fun ys nw h => h)
    intro i v ys nw I oI C oC D m₂ h tk E' hi hv hJ hC hx' F₁ N₁ off ne
    exact turn i v ys nw I oI C oC D m₂ h tk _ E' (by simpa using hv) hJ (hJm _ _ _ hJ) hC hx' F₁ N₁ off ne
  · intro D C h tk m' ys nw F' N' o1 hn hC₀ hD₀ hCL hDL hCD offC hJ'
    exact fin ys nw hJ' D C h tk m' F' N' o1 hn hC₀ hD₀ hCL hDL hCD offC
end
end
section
open PySem PySem.W PyProof.Rows PySem.Spec PySem.Calls
set_option maxRecDepth 100000
set_option maxHeartbeats 1000000
theorem rows_C15_1 : True := by
  w_top off
  k_with_none
  (k_with "ktn_open" => (refine wpAny_call ?_; k_dflt (refine' code_defC ?k1 ?k2 ?k3 ?k4 ?k5 ?kA ?kF ?kK ?k6 ?k7 ?k8 ?k9 ?kB ?kD ?_ ?c2 ?c3 ?c4; (case kA | kF => exact rfl); (case kK => assumption); (case k1 | k2 | k3 | k4 | k5 => k_asm); (case k6 | k7 => k_is); (case k8 => ktr_room); (case k9 => exact BindsTo.of_eq rfl); (case kB => exact rfl); (case kD => decide +kernel); (case c2 | c3 | c4 => exact rfl); k_whole; intro g' L' h' tk' cells' FG' F' N' Y' B' X' T' l1; (try k_lt l1); k_cells Y'; (try simp only [List.cons_append, List.nil_append] at N'); (try dsimp only); (try k_lift B'); (try k_fold))))
  (k_with "ktr_unf" => (unfold Con; refine fillK ?_; k_fill; intro hZZ; clear hZZ))
  (k_with "k_steps" => repeat' (first | (k_unfold; (try dsimp only)) | walk1 | (dsimp only; walk1) | (leave1; walk_say "STEP leave1"; try dsimp only) | fail "no step"))
  (k_with "k_mem" => first | exact List.mem_cons_self | (refine List.mem_cons_of_mem _ ?_; k_mem) | with_reducible assumption)
  (k_with "k_all" => first | (refine ne_below (by assumption) ?q9; (case q9 => ((try dsimp only); omega))) | exact off_mem (by assumption) | exact off_mem (off_lt (by assumption)))
  (k_with "lcg_off" => first | exact allLt_of (by assumption) | assumption | exact an1 (by assumption) | exact an2 (by assumption) | exact an3 (by assumption) | exact an4 (by assumption) | exact an5 (by assumption) | exact an6 (by assumption) | exact an7 (by assumption) | exact an8 (by assumption) | exact an9 (by assumption) | exact an10 (by assumption) | exact an11 (by assumption) | exact an12 (by assumption) | exact an13 (by assumption) | exact an14 (by assumption) | exact an15 (by assumption) | exact an16 (by assumption) | exact an17 (by assumption) | exact an18 (by assumption) | exact an19 (by assumption) | exact an20 (by assumption) | exact an21 (by assumption) | exact an22 (by assumption) | exact an23 (by assumption) | exact an24 (by assumption))
  (k_with "eval Constant int" => (k_dflt (refine wn_const ?_)))
  (k_with "binaryOp Pow int int" => (k_here; (with_reducible refine wn_pow2 ?hb ?_); (case hb => first | decide | omega)))
  (k_with "binaryOp Mod int int" => (k_here; (with_reducible refine wn_mod ?hb ?_); (case hb => first | decide | exact Nat.ne_of_gt (Nat.two_pow_pos _))))
  (k_with "binaryOp Mult int int" => (k_here; (with_reducible refine wn_mul ?hb ?_); (case hb => first | exact Or.inl (by omega) | exact Or.inr (by omega))))
  (k_with "binaryOp Sub int int" => (k_here; (with_reducible refine wn_sub ?hb ?_); (case hb => omega)))
  (k_with "call builtin:len" => ((k_here; (with_reducible show wpAny _ _ (call (Value.builtin "len") [Value.ref _]) _ _ _); k_dflt (refine (l_len (by k_asm) (by k_mem) (by (first | omega | (simp only [List.length_append, List.length_replicate, List.length_take, List.length_drop, List.length_cons, List.length_nil]; omega))) ?_))); intros))
  (k_with "call builtin:sum" => ((k_here; (with_reducible show wpAny _ _ (call (Value.builtin "sum") [Value.ref _]) _ _ _); k_dflt (refine (l_sum (by with_unfolding_all rfl) (by k_asm) (by k_asm) (by k_mem) (by assumption) ?_))); intros))
  (k_with "binaryOp Add ref ref" => ((k_here; k_dflt (refine (l_add (by k_asm) (by k_asm) (by k_mem) (by k_mem) (by (first | omega | (simp only [List.length_append, List.length_replicate, List.length_take, List.length_drop, List.length_cons, List.length_nil]; omega))) ?_))); (intros; rename_i l1; (try k_lt l1); (try k_sweep))))
  (k_with "binaryOp Mult ref int" => ((k_here; k_dflt (refine (l_mul1 (by k_asm) (by k_asm) (by k_mem) (by omega) (by omega) ?_))); (intros; rename_i l1; (try k_lt l1); (try k_sweep))))
  (k_with "exec Assign cons ListComp" => (k_here; k_dflt (refine comp_A (by with_unfolding_all rfl) (by with_unfolding_all rfl) (by rfl) (by decide) ?_)))
  (k_with "eval ListComp" => (k_here; k_dflt (refine comp_1 (by with_unfolding_all rfl) (by rfl) (by decide) ?_)))
  (k_with "call ref" => ((k_here; (with_reducible show wpAny _ _ (call (Value.ref 116) _) _ _ _); k_dflt (refine use_Ws (by k_asm) (by k_asm) (by k_asm) (by k_asm) (by k_asm) (by first | exact rfl | assumption) (by first | exact True.intro | k_mem | exact ⟨by k_mem, by k_mem⟩) (by ktr_room) (by ktr_units) (con_lwords _ _ (by omega) _ _ _ (by assumption)) ?_; intros; (try dsimp only); (try k_sweep); (try k_fold))); ((with_reducible rename LCg.Off1 _ _ => off'); (try dsimp only [LCg.Off1] at off'))))
  (k_with "subscriptTail Name Slice ref ref" => (k_here; (with_reducible show wpAny _ _ (subscriptTail _ (PySem.Expr.Slice (some _) none (some _) _) (Value.ref _) (Value.ref _)) _ _ _); k_dflt (refine' l_pick2 ?F ?N ?M ?V ?A ?Z ?Z2 ?_ ?s ?t; (case F => k_asm); (case N => k_asm); (case M => k_mem); (case V => exact AllIs.append (by assumption) (AllIs.repl (a := 0) ⟨_, rfl⟩ _)); (case A => decide); (case Z => (simp only [List.length_append, List.length_replicate]; omega)); (case Z2 => (simp only [List.length_append, List.length_replicate]; omega)); (case s => with_unfolding_all rfl); (case t => kmk_pure)); intro D' ys' h' F' N' l1 hW' hLn'; (try simp only [List.length_append, List.length_replicate] at hLn'); (try k_lt l1); (try k_sweep)))
  (k_with "subscriptTail Name Name ref int" => ((k_here; (with_reducible show wpAny _ _ (subscriptTail _ _ (Value.ref _) (Value.int _ _)) _ _ _); k_dflt (refine (l_word (by k_asm) (by k_mem) (by assumption) (by (first | omega | (simp only [List.length_append, List.length_replicate, List.length_take, List.length_drop, List.length_cons, List.length_nil]; omega))) (by (first | omega | (simp only [List.length_append, List.length_replicate, List.length_take, List.length_drop, List.length_cons, List.length_nil]; omega))) ?_))); intros))
  trivial
/-- the words that the two sums run over -/
def padw (os : List UInt8) : List (BitVec 32) := words os ++ List.replicate ((words os).length % 2) 0
def runS (ws : List (BitVec 32)) (a : Nat) : Nat := ((List.range (ws.length / 2)).map fun k => (ws.length / 2 - k) * (wd ws (a + 2 * k)).toNat).sum
def evl (ws : List (BitVec 32)) (a : Nat) : List (BitVec 32) := (List.range (ws.length / 2)).map fun k => wd ws (a + 2 * k)
theorem wd_evl {ws : List (BitVec 32)} {a k : Nat} (h : k < ws.length / 2) : wd (evl ws a) k = wd ws (a + 2 * k) := by
  simp [wd, evl, List.getElem?_map, List.getElem?_range h]
theorem runS_eq (ws : List (BitVec 32)) (a : Nat) {n : Nat} (h : n = ws.length / 2) : ((List.range n).map fun j => ((evl ws 0).length - j) * (wd (evl ws a) j).toNat).sum = runS ws a := by
  subst h
  unfold runS
  congr 1
  refine List.map_congr_left fun j hj => ?_
  rw [wd_evl (List.mem_range.mp hj), show (evl ws 0).length = ws.length / 2 by simp [evl]]
theorem two_of {α : Type} {f : α → Value → Prop} {a b : α} {ys : List Value} (h : AllIs f [a, b] ys) : ∃ v u, ys = [v, u] ∧ f a v ∧ f b u := by
  cases h with
  | cons h1 h => cases h with
    | cons h2 h => cases h with
      | nil => exact ⟨_, _, rfl, h1, h2⟩
theorem four_of {α : Type} {f : α → Value → Prop} {a b c d : α} {ys : List Value} (h : AllIs f [a, b, c, d] ys) : ∃ v u x y, ys = [v, u, x, y] ∧ f a v ∧ f b u ∧ f c x ∧ f d y := by
  cases h with
  | cons h1 h => cases h with
    | cons h2 h => cases h with
      | cons h3 h => cases h with
        | cons h4 h => cases h with
          | nil => exact ⟨_, _, _, _, rfl, h1, h2, h3, h4⟩
def nums (ws : List (BitVec 32)) : List Nat := [((evl ws 0).map BitVec.toNat).sum, ((evl ws 1).map BitVec.toNat).sum, runS ws 0, runS ws 1]
def lt2 (ws : List (BitVec 32)) : W4 := ⟨BitVec.ofNat 32 ((evl ws 0).map BitVec.toNat).sum, BitVec.ofNat 32 ((evl ws 1).map BitVec.toNat).sum, BitVec.ofNat 32 (runS ws 0), BitVec.ofNat 32 (runS ws 1)⟩
theorem padw_len (os : List UInt8) : (padw os).length = (words os).length + (words os).length % 2 := by simp [padw]
theorem evl_length (os : List UInt8) (a : Nat) : (evl (padw os) a).length = ((words os).length + (words os).length % 2) / 2 := by simp [evl, padw_len]
set_option maxHeartbeats 8000000 in
theorem con_ltwo (w : World) (os : List UInt8) (hb : os.length ≤ 64) (o : Addr) (vs : List Value) (k : Nat) (hv : AllIs OctIs os vs) :
    Con w 128 3 [.ref o] (fun news => (o, listOf vs.toArray k) ∈ news) (OutW4 (lt2 (padw os))) := by
  have hw16 : (words os).length ≤ 16 := by rw [words_length]; omega
  ktr_unf
  intro prog p loose mean mg mb dp un gd cn cs a ccd cl outer A₀ base h₀ L m news s Q E B F X N T hk hok hd hu hret
  replace hok : (o, listOf vs.toArray k) ∈ news := hok
  ktn_open
  k_steps
  (with_reducible rename Fr _ _ _ _ => lF)
  (with_reducible rename News _ _ _ _ => lN)
  rename AllIs WordIs (words os) _ => lW0
  have hL0 := lW0.length
  rename AllIs (fun k v => WordIs (wd _ (0 + 2 * k)) v) _ _ => lVe
  rename AllIs (fun k v => WordIs (wd _ (1 + 2 * k)) v) _ _ => lVo
  rw [← hL0, Int.toNat_natCast] at lVe lVo
  have lE : AllIs WordIs (evl (padw os) 0) _ := lVe.map
  have lO : AllIs WordIs (evl (padw os) 1) _ := lVo.map
  clear lVe lVo
  have lE' : AllIs (fun a v => NatIs (BitVec.toNat a) v) (evl (padw os) 0) _ := lE
  have lO' : AllIs (fun a v => NatIs (BitVec.toNat a) v) (evl (padw os) 1) _ := lO
  have lEl := lE.length
  have lOl := lO.length
  have bE : (evl (padw os) 0).length ≤ 8 := by rw [evl_length]; omega
  have eO : (evl (padw os) 1).length = (evl (padw os) 0).length := by rw [evl_length, evl_length]
  have eP : (evl (padw os) 0).length = (padw os).length / 2 := by rw [evl, List.length_map, List.length_range]
  rename List.length _ = (_ + _) / 2 => q1
  clear q1
  rename List.length _ = (_ + _) / 2 => q1
  clear q1 hL0 hw16
  refine' halt (cell_block (by rfl) List.mem_cons_self (Nat.le_of_ble_eq_true rfl) (new_cell rfl) (by rfl) (fun _ _ => by rfl) lF lN (fun i ys nw => nw = _ ∧ AllIs (fun a v => NatIs (runS (padw os) a) v) (List.range i) ys) ⟨rfl, .nil⟩ ?t7 ?m7 ?f7)
  case m7 => (rintro i ys nw ⟨rfl, _⟩; exact List.mem_cons_self)
  case t7 =>
    rintro i v ys nw I oI C oC Cc oc D h tk s₂ E' hi ⟨rfl, hys⟩ hd F₁ N₁ off
    clear lF lN
    rcases i with _ | _ | i
    · obtain rfl : _ = v := Option.some.inj hi
      k_steps
      k_dflt (refine halt (blk_range (by rfl) (by k_asm) (small_one (by omega) (by omega) (by omega) (by omega)) (range1 _) (by rw [PySem.sizeLine_eq]; omega) (by decide) (by rfl) (by rfl) (by k_asm) (by k_asm) (fun i ys nw => nw = _ ∧ AllIs (fun j v => NatIs (((evl (padw os) 0).length - j) * (wd (evl (padw os) 0) j).toNat) v) (List.range i) ys) ⟨rfl, .nil⟩ ?_ ?_))
      · rintro j t ys₂ nw I₂ oI₂ C₂ oC₂ D₂ m₂ h tk s₂ E' hj ⟨rfl, hys₂⟩ hC h1 F₁ N₁ off ne
        have e : (0 : Int) + (j : Int) * 1 = ((j : Nat) : Int) := by omega
        rw [e] at h1
        k_steps
        dsimp only
        refine halt ⟨_, _, _, rfl, by k_asm, by k_asm, off, trivial, rfl, ?_⟩
        rw [List.range_succ]
        refine hys₂.snoc ?_
        rw [lEl]
        exact natIs _ _
      · rintro ys₂ nw ⟨rfl, hys₂⟩
        refine back_none fun D₂ h tk F₁ N₁ o1 => ?_
        k_steps
        dsimp only
        (with_reducible rename News _ _ _ _ => lN)
        refine halt ⟨_, _, _, rfl, by k_asm, fun p hp => lN p (List.mem_cons_of_mem _ hp), off, rfl, ?_⟩
        rw [List.range_succ]
        exact hys.snoc (nv_eq (runS_eq _ 0 (lEl.symm.trans eP)) _)
    · obtain rfl : _ = v := Option.some.inj hi
      k_steps
      k_dflt (refine halt (blk_range (by rfl) (by k_asm) (small_one (by omega) (by omega) (by omega) (by omega)) (range1 _) (by rw [PySem.sizeLine_eq]; omega) (by decide) (by rfl) (by rfl) (by k_asm) (by k_asm) (fun i ys nw => nw = _ ∧ AllIs (fun j v => NatIs (((evl (padw os) 0).length - j) * (wd (evl (padw os) 1) j).toNat) v) (List.range i) ys) ⟨rfl, .nil⟩ ?_ ?_))
      · rintro j t ys₂ nw I₂ oI₂ C₂ oC₂ D₂ m₂ h tk s₂ E' hj ⟨rfl, hys₂⟩ hC h1 F₁ N₁ off ne
        have e : (0 : Int) + (j : Int) * 1 = ((j : Nat) : Int) := by omega
        rw [e] at h1
        k_steps
        dsimp only
        refine halt ⟨_, _, _, rfl, by k_asm, by k_asm, off, trivial, rfl, ?_⟩
        rw [List.range_succ]
        refine hys₂.snoc ?_
        rw [lEl]
        exact natIs _ _
      · rintro ys₂ nw ⟨rfl, hys₂⟩
        refine back_none fun D₂ h tk F₁ N₁ o1 => ?_
        k_steps
        dsimp only
        (with_reducible rename News _ _ _ _ => lN)
        refine halt ⟨_, _, _, rfl, by k_asm, fun p hp => lN p (List.mem_cons_of_mem _ hp), off, rfl, ?_⟩
        rw [List.range_succ]
        exact hys.snoc (nv_eq (runS_eq _ 1 (lEl.symm.trans eP)) _)
    · exact nomatch hi
  case f7 =>
    rintro ys nw ⟨rfl, hys⟩
    clear lF lN
    obtain ⟨v0, v1, rfl, ⟨t0, rfl⟩, ⟨t1, rfl⟩⟩ := two_of hys
    k_dflt (refine back_assign (by rfl) (by rfl) (by rfl) fun D h tk F₁ N₁ o1 => ?_)
    k_steps
    (with_reducible rename Fr _ _ _ _ => lF)
    (with_reducible rename News _ _ _ _ => lN)
    k_dflt (refine halt (blk_list (by rfl) List.mem_cons_self (Nat.le_of_ble_eq_true rfl) (by decide) (by rfl) (by rfl) lF lN (fun i ys nw => nw = _ ∧ AllIs (fun x v => NatIs (x % 2 ^ 32) v) ((nums (padw os)).take i) ys) ⟨rfl, .nil⟩ ?t6 ?m6 ?f6))
    case m6 => (rintro i ys nw ⟨rfl, _⟩; exact List.mem_cons_self)
    case t6 =>
      rintro i v ys nw I oI C oC D₂ m₂ h tk s₂ E' hi ⟨rfl, hys₂⟩ _ hC h1 F₁ N₁ off ne
      clear lF lN
      obtain ⟨x, hx, t, rfl⟩ : ∃ x, (nums (padw os))[i]? = some x ∧ NatIs x v := by
        refine AllIs.get' (f := fun x v => NatIs x v) ?_ hi
        exact .cons (natIs _ _) (.cons (natIs _ _) (.cons (natIs _ t0) (.cons (natIs _ t1) .nil)))
      k_steps
      dsimp only
      refine halt ⟨_, _, _, rfl, by k_asm, by k_asm, off, List.mem_cons_self, rfl, ?_⟩
      rw [List.take_add_one, hx]
      exact hys₂.snoc (natIs _ _)
    case f6 =>
      rintro ys nw ⟨rfl, hys₂⟩
      obtain ⟨v2, v3, v4, v5, rfl, ⟨t2, rfl⟩, ⟨t3, rfl⟩, ⟨t4, rfl⟩, ⟨t5, rfl⟩⟩ := four_of (show AllIs _ (nums (padw os)) ys from hys₂)
      simp only [← BitVec.toNat_ofNat]
      refine back_none fun D₂ h tk F₁ N₁ o1 => ?_
      k_steps
      all_goals (refine' endW4o hret ?F9 ?N9 ?m9 ?s9 ?l9 ?x9; (case F9 => k_asm); (case N9 => k_asm); (case m9 => k_mem); (case s9 => kcf_all); (case l9 => exact off_lt (by lcg_off)); (case x9 => rfl))
end
section
open PySem PySem.W PyProof.Rows PySem.Spec PySem.Calls
set_option maxRecDepth 100000
set_option maxHeartbeats 1000000
def same4 (x y : W4) : Bool := decide (x.a = y.a) && (decide (x.b = y.b) && (decide (x.c = y.c) && decide (x.d = y.d)))
theorem same4_iff {x y : W4} : same4 x y = true ↔ x = y := by
  cases x; cases y
  simp [same4]
theorem same4_self (x : W4) : same4 x x = true := same4_iff.mpr rfl
theorem same4_ne {x y : W4} (h : x ≠ y) : same4 x y = false := by
  cases e : same4 x y with
  | false => rfl
  | true => exact absurd (same4_iff.mp e) h
def p4 (x : W4) : PyData := .tuple [.int x.a.toNat, .int x.b.toNat, .int x.c.toNat, .int x.d.toNat]
theorem p4_eqv (x y : W4) : PyData.eqv (p4 x) (p4 y) = same4 x y := by
  have e : ∀ u v : BitVec 32, decide (((u.toNat : Nat) : Int) = ((v.toNat : Nat) : Int)) = decide (u = v) := fun u v => by
    by_cases h : u = v
    · simp [h]
    · have h2 : ¬ u.toNat = v.toNat := fun q => h (BitVec.eq_of_toNat_eq q)
      have h3 : ¬ ((u.toNat : Nat) : Int) = ((v.toNat : Nat) : Int) := fun q => h2 (by omega)
      rw [decide_eq_false h, decide_eq_false h3]
  simp only [p4, PyData.eqv, PyData.eqvAll, same4, Bool.and_true]
  rw [← e x.a, ← e x.b, ← e x.c, ← e x.d]
  try rfl
theorem p4_shaped (x : W4) : SeqAt.shaped (p4 x) = true := rfl
section
variable {prog : Program} {w : World} {A : Around} {E : Value → Shared → Prop} {s : Shared} {h h₀ : Heap} {L a b : Addr} {news : Led} {Q : Value → Shared → Prop} {x y : W4} {ta tb tc td ua ub uc ud : Tok} {n k : Nat}
theorem reads4 (N : News h₀ L h news) (hm : (a, tup4 x.a x.b x.c x.d ta tb tc td n) ∈ news) : Reads h (.ref a) (p4 x) [] :=
  reads_tuple_at (N _ hm).1 rfl rfl (ReadsAll.cons (Reads.int _ _) (ReadsAll.cons (Reads.int _ _) (ReadsAll.cons (Reads.int _ _) (ReadsAll.cons (Reads.int _ _) ReadsAll.nil))))
theorem eq4 (N : News h₀ L s.heap news) (ma : (a, tup4 x.a x.b x.c x.d ta tb tc td n) ∈ news) (mb : (b, tup4 y.a y.b y.c y.d ua ub uc ud k) ∈ news) (hu : A.units + 64 < cLine) (h : Q (.bool (same4 x y)) s) :
    wpAny (model prog w) A (compareOp .Eq (.ref a) (.ref b)) Q E s :=
  eq_dataH (reads4 N ma) (reads4 N mb) (p4_shaped x) (p4_shaped y) hu (by rw [p4_eqv]; exact h)
theorem ne4 (N : News h₀ L s.heap news) (ma : (a, tup4 x.a x.b x.c x.d ta tb tc td n) ∈ news) (mb : (b, tup4 y.a y.b y.c y.d ua ub uc ud k) ∈ news) (hu : A.units + 64 < cLine) (h : Q (.bool (!same4 x y)) s) :
    wpAny (model prog w) A (compareOp .NotEq (.ref a) (.ref b)) Q E s :=
  ne_dataH (reads4 N ma) (reads4 N mb) (p4_shaped x) (p4_shaped y) hu (by rw [p4_eqv]; exact h)
end
end
section
open PySem PySem.W PyProof.Rows PySem.Spec PySem.Calls
set_option maxRecDepth 100000
set_option maxHeartbeats 1000000
theorem rows_C16_1 : True := by
  w_top off
  k_with_none
  (k_with "ktn_open" => (refine wpAny_call ?_; k_dflt ktr_enter))
  (k_with "ktr_unf" => (unfold Con; refine fillK ?_; k_fill; intro hZZ; clear hZZ))
  (k_with "k_steps" => repeat' (first | (k_unfold; (try dsimp only)) | walk1 | (dsimp only; walk1) | (leave1; walk_say "STEP leave1"; try dsimp only) | fail "no step"))
  (k_with "k_mem" => first | exact List.mem_cons_self | (refine List.mem_cons_of_mem _ ?_; k_mem) | with_reducible assumption)
  (k_with "k_all" => first | (refine ne_below (by assumption) ?q9; (case q9 => ((try dsimp only); omega))) | exact off_mem (by assumption) | exact off_mem (off_lt (by assumption)))
  (k_with "lcg_off" => first | exact allLt_of (by assumption) | assumption | exact an1 (by assumption) | exact an2 (by assumption) | exact an3 (by assumption) | exact an4 (by assumption) | exact an5 (by assumption) | exact an6 (by assumption) | exact an7 (by assumption) | exact an8 (by assumption) | exact an9 (by assumption) | exact an10 (by assumption) | exact an11 (by assumption) | exact an12 (by assumption) | exact an13 (by assumption) | exact an14 (by assumption) | exact an15 (by assumption) | exact an16 (by assumption) | exact an17 (by assumption) | exact an18 (by assumption) | exact an19 (by assumption) | exact an20 (by assumption) | exact an21 (by assumption) | exact an22 (by assumption) | exact an23 (by assumption) | exact an24 (by assumption))
  (k_with "call ref" => ((first | (k_here; (with_reducible show wpAny _ _ (call (Value.ref 97) _) _ _ _); k_dflt (refine use_4 (by k_asm) (by k_asm) (by k_asm) (by k_asm) (by k_asm) (by first | exact rfl | assumption) (by first | exact True.intro | k_mem | exact ⟨by k_mem, by k_mem⟩) (by ktr_room) (by ktr_units) (con_sum1 _ _ (by omega) _ _) ?_; intros; (try dsimp only); (try k_sweep); (try k_fold))) | (k_here; (with_reducible show wpAny _ _ (call (Value.ref 97) _) _ _ _); k_dflt (refine use_4 (by k_asm) (by k_asm) (by k_asm) (by k_asm) (by k_asm) (by first | exact rfl | assumption) (by first | exact True.intro | k_mem | exact ⟨by k_mem, by k_mem⟩) (by ktr_room) (by ktr_units) (con_sum2 _ _ (by omega) _ _) ?_; intros; (try dsimp only); (try k_sweep); (try k_fold))) | (k_here; (with_reducible show wpAny _ _ (call (Value.ref 97) _) _ _ _); k_dflt (refine use_4 (by k_asm) (by k_asm) (by k_asm) (by k_asm) (by k_asm) (by first | exact rfl | assumption) (by first | exact True.intro | k_mem | exact ⟨by k_mem, by k_mem⟩) (by ktr_room) (by ktr_units) (con_sum3 _ _ (by omega) _ _) ?_; intros; (try dsimp only); (try k_sweep); (try k_fold)))); ((with_reducible rename LCg.Off1 _ _ => off'); (try dsimp only [LCg.Off1] at off'))))
  trivial
/-- the value is this truth, and there is nothing new -/
def OutB (b : Bool) (r : Value) (tl : Led) : Prop := r = .bool b ∧ tl = []
theorem rows_C16_2 : True := by
  (k_with "compareOp Eq ref ref" => (k_here; (with_reducible show wpAny _ _ (compareOp CmpOp.Eq (Value.ref _) (Value.ref _)) _ _ _); k_dflt (refine (eq4 (x := ⟨_, _, _, _⟩) (y := ⟨_, _, _, _⟩) (by k_asm) (by k_mem) (by k_mem) (by ktr_units) ?_))))
  trivial
theorem is_tup4 {h₀ h : Heap} {L a : Addr} {news : Led} {xs : Array Value} {n : Nat} (N : News h₀ L h news) (hm : (a, ({ cls := .type "tuple", data := .seq xs n } : Obj)) ∈ news) : h.IsTuple a xs := ⟨_, (N _ hm).1, rfl, n, rfl⟩
theorem rows_C16_3 : True := by
  (k_with "call type:tuple" => (k_here; (with_reducible show wpAny _ _ (call (Value.type "tuple") [Value.ref _]) _ _ _); k_dflt (refine (call_tuple_same (is_tup4 (by k_asm) (by k_mem)) ?_))))
  trivial
theorem con_right0 (w : World) (os : List UInt8) (u t : Tok) (told : Value) : Con w 104 10 [.int 0 t, .bytes os.toArray u, told] none0 (OutB true) := by
  ktr_unf
  intro prog p loose mean mg mb dp un gd cn cs a ccd cl outer A₀ base h₀ L m news s Q E B F X N T hk hok hd hu hret
  ktn_open
  k_steps
  all_goals (refine' hret _ [] _ _ ?F9 ?N9 lt_nil ⟨rfl, rfl⟩; (case F9 => k_asm); (case N9 => k_asm))
theorem con_right1 (w : World) (os : List UInt8) (hb : os.length ≤ 64) (y : W4) (u t : Tok) (T : Addr) (ta tb tc td : Tok) (n : Nat) : Con w 104 10 [.int 1 t, .bytes os.toArray u, .ref T] (fun news => (T, tup4 y.a y.b y.c y.d ta tb tc td n) ∈ news) (OutB (same4 (fl2 (words os)) y)) := by
  ktr_unf
  intro prog p loose mean mg mb dp un gd cn cs a ccd cl outer A₀ base h₀ L m news s Q E B F X N T hk hok hd hu hret
  replace hok : (_, tup4 y.a y.b y.c y.d ta tb tc td n) ∈ news := hok
  ktn_open
  k_steps
  all_goals (refine' hret _ [] _ _ ?F9 ?N9 lt_nil ⟨rfl, rfl⟩; (case F9 => k_asm); (case N9 => (show News _ _ _ news; (rename News _ _ _ _ => lN); exact drop lN (by kcf_all))))
theorem con_right2 (w : World) (os : List UInt8) (hb : os.length ≤ 64) (y : W4) (u t : Tok) (T : Addr) (ta tb tc td : Tok) (n : Nat) : Con w 104 10 [.int 2 t, .bytes os.toArray u, .ref T] (fun news => (T, tup4 y.a y.b y.c y.d ta tb tc td n) ∈ news) (OutB (same4 (fl4 (words os)) y)) := by
  ktr_unf
  intro prog p loose mean mg mb dp un gd cn cs a ccd cl outer A₀ base h₀ L m news s Q E B F X N T hk hok hd hu hret
  replace hok : (_, tup4 y.a y.b y.c y.d ta tb tc td n) ∈ news := hok
  ktn_open
  k_steps
  all_goals (refine' hret _ [] _ _ ?F9 ?N9 lt_nil ⟨rfl, rfl⟩; (case F9 => k_asm); (case N9 => (show News _ _ _ news; (rename News _ _ _ _ => lN); exact drop lN (by kcf_all))))
theorem con_right3 (w : World) (os : List UInt8) (hb : os.length ≤ 64) (y : W4) (u t : Tok) (T : Addr) (ta tb tc td : Tok) (n : Nat) : Con w 104 10 [.int 3 t, .bytes os.toArray u, .ref T] (fun news => (T, tup4 y.a y.b y.c y.d ta tb tc td n) ∈ news) (OutB (same4 (mixv os) y)) := by
  ktr_unf
  intro prog p loose mean mg mb dp un gd cn cs a ccd cl outer A₀ base h₀ L m news s Q E B F X N T hk hok hd hu hret
  replace hok : (_, tup4 y.a y.b y.c y.d ta tb tc td n) ∈ news := hok
  ktn_open
  k_steps
  all_goals (refine' hret _ [] _ _ ?F9 ?N9 lt_nil ⟨rfl, rfl⟩; (case F9 => k_asm); (case N9 => (show News _ _ _ news; (rename News _ _ _ _ => lN); exact drop lN (by kcf_all))))
theorem rows_C16_4 : True := by
  (k_with "call type:tuple" => ((k_here; (with_reducible show wpAny _ _ (call (Value.type "tuple") [Value.ref _]) _ _ _); k_dflt (refine (kde_tupleOf (by k_asm) (by k_asm) (l_is (by k_asm) (by k_mem)) (by decide) (by rfl) ?_))); (intros; rename_i l1; (try k_lt l1); (try k_sweep))))
  trivial
theorem con_rightL1 (w : World) (os : List UInt8) (hb : os.length ≤ 64) (y : W4) (u t : Tok) (T : Addr) (ta tb tc td : Tok) (n : Nat) : Con w 104 10 [.int 1 t, .bytes os.toArray u, .ref T] (fun news => (T, listOf #[wv y.a ta, wv y.b tb, wv y.c tc, wv y.d td] n) ∈ news) (OutB (same4 (fl2 (words os)) y)) := by
  ktr_unf
  intro prog p loose mean mg mb dp un gd cn cs a ccd cl outer A₀ base h₀ L m news s Q E B F X N T hk hok hd hu hret
  replace hok : (_, listOf #[wv y.a ta, wv y.b tb, wv y.c tc, wv y.d td] n) ∈ news := hok
  ktn_open
  k_steps
  all_goals (refine' hret _ [] _ _ ?F9 ?N9 lt_nil ⟨rfl, rfl⟩; (case F9 => k_asm); (case N9 => (show News _ _ _ news; (rename News _ _ _ _ => lN); exact drop lN (by kcf_all))))
theorem con_rightL2 (w : World) (os : List UInt8) (hb : os.length ≤ 64) (y : W4) (u t : Tok) (T : Addr) (ta tb tc td : Tok) (n : Nat) : Con w 104 10 [.int 2 t, .bytes os.toArray u, .ref T] (fun news => (T, listOf #[wv y.a ta, wv y.b tb, wv y.c tc, wv y.d td] n) ∈ news) (OutB (same4 (fl4 (words os)) y)) := by
  ktr_unf
  intro prog p loose mean mg mb dp un gd cn cs a ccd cl outer A₀ base h₀ L m news s Q E B F X N T hk hok hd hu hret
  replace hok : (_, listOf #[wv y.a ta, wv y.b tb, wv y.c tc, wv y.d td] n) ∈ news := hok
  ktn_open
  k_steps
  all_goals (refine' hret _ [] _ _ ?F9 ?N9 lt_nil ⟨rfl, rfl⟩; (case F9 => k_asm); (case N9 => (show News _ _ _ news; (rename News _ _ _ _ => lN); exact drop lN (by kcf_all))))
theorem con_rightL3 (w : World) (os : List UInt8) (hb : os.length ≤ 64) (y : W4) (u t : Tok) (T : Addr) (ta tb tc td : Tok) (n : Nat) : Con w 104 10 [.int 3 t, .bytes os.toArray u, .ref T] (fun news => (T, listOf #[wv y.a ta, wv y.b tb, wv y.c tc, wv y.d td] n) ∈ news) (OutB (same4 (mixv os) y)) := by
  ktr_unf
  intro prog p loose mean mg mb dp un gd cn cs a ccd cl outer A₀ base h₀ L m news s Q E B F X N T hk hok hd hu hret
  replace hok : (_, listOf #[wv y.a ta, wv y.b tb, wv y.c tc, wv y.d td] n) ∈ news := hok
  ktn_open
  k_steps
  all_goals (refine' hret _ [] _ _ ?F9 ?N9 lt_nil ⟨rfl, rfl⟩; (case F9 => k_asm); (case N9 => (show News _ _ _ news; (rename News _ _ _ _ => lN); exact drop lN (by kcf_all))))
end
section
open PySem PySem.W PyProof.Rows PySem.Spec PySem.Calls
set_option maxRecDepth 100000
set_option maxHeartbeats 1000000
theorem AllIs.drop {α : Type} {f : α → Value → Prop} {as : List α} {vs : List Value} (h : AllIs f as vs) : ∀ n : Nat, AllIs f (as.drop n) (vs.drop n) := by
  induction h with
  | nil => intro n; simp; exact .nil
  | cons h t ih =>
    intro n
    cases n with
    | zero => exact .cons h t
    | succ n => exact ih n
section
variable {prog : Program} {w : World} {A : Around} {E : Value → Shared → Prop} {s : Shared} {h₀ : Heap} {L l : Addr} {m : Str → Option Value} {news : Led} {vs : List Value} {k : Nat} {value slice : PySem.Expr} {ops : List Value}
theorem l_from {Q : Value → Shared → Prop} {a : Nat} {t : Tok} (F : Fr h₀ L s.heap m) (N : News h₀ L s.heap news) (hm : (l, listOf vs.toArray k) ∈ news) (hz : vs.length ≤ 1000)
    (h : ∀ D h', Fr h₀ L h' m → News h₀ L h' ((D, listOf (vs.drop a).toArray 0) :: news) → (∀ p ∈ news, p.1 < D) → Q (.ref D) { s with heap := h' })
    (hs : subscripted slice false (.ref l) (.ref s.heap.objs.size) = operate ops (getItem (.ref l) (.ref s.heap.objs.size))) (ht : ∀ r, letTemporaryGo value (.ref l) r = pure ()) :
    wpAny (model prog w) A (subscriptTail value slice (.ref l) (.ref s.heap.objs.size)) Q E { s with heap := s.heap.push { cls := .type "slice", data := .fields #[nv a t, .none, .none] } } :=
  l_slice3 F N hm hz (.int _ _) .none .none (by decide) (pick_from vs a) h hs ht
theorem l_uptoN {Q : Value → Shared → Prop} {a : Nat} {t : Tok} (F : Fr h₀ L s.heap m) (N : News h₀ L s.heap news) (hm : (l, listOf vs.toArray k) ∈ news) (hz : vs.length ≤ 1000)
    (h : ∀ D h', Fr h₀ L h' m → News h₀ L h' ((D, listOf (vs.take a).toArray 0) :: news) → (∀ p ∈ news, p.1 < D) → Q (.ref D) { s with heap := h' })
    (hs : subscripted slice false (.ref l) (.ref s.heap.objs.size) = operate ops (getItem (.ref l) (.ref s.heap.objs.size))) (ht : ∀ r, letTemporaryGo value (.ref l) r = pure ()) :
    wpAny (model prog w) A (subscriptTail value slice (.ref l) (.ref s.heap.objs.size)) Q E { s with heap := s.heap.push { cls := .type "slice", data := .fields #[.none, nv a t, .none] } } :=
  l_slice3 F N hm hz .none (.int _ _) .none (by decide) (pick_upto vs a) h hs ht
theorem wi_mod {Q : Value → Shared → Prop} {a : Int} {n : Nat} {t u : Tok} (h : ∀ i : Nat, i ≤ n → Q (nv i s.toks) { s with toks := s.toks + 1 }) :
    wpAny (model prog w) A (binaryOp .Mod (.int a t) (nv (n + 1) u)) Q E s := by
  refine mod_int' (by omega) ?_
  have e : a.fmod ((n + 1 : Nat) : Int) = a % ((n + 1 : Nat) : Int) := Int.fmod_eq_emod_of_nonneg _ (by omega)
  have e1 : 0 ≤ a % ((n + 1 : Nat) : Int) := Int.emod_nonneg _ (by omega)
  have e2 : a % ((n + 1 : Nat) : Int) < ((n + 1 : Nat) : Int) := Int.emod_lt_of_pos _ (by omega)
  rw [e, show a % ((n + 1 : Nat) : Int) = (((a % ((n + 1 : Nat) : Int)).toNat : Nat) : Int) by omega]
  exact h _ (by omega)
end
theorem oct_of (x : Nat) (t : Tok) : OctIs (UInt8.ofNat x) (nv (x % 256) t) := ⟨t, by simp⟩
/-- what the neighbours told of are like -/
def ToldBy (os os' : List UInt8) : Prop := (os' = os ++ [0] ∧ os.length % 4 ≠ 0) ∨ ∃ (i : Nat) (x : Nat), i < os.length ∧ x ≤ 63 ∧ os' = os.take i ++ [UInt8.ofNat ((oc os i) + 1 + x)] ++ os.drop (i + 1)
structure NRow where
  T : Addr
  l : Addr
  os : List UInt8
  vs : List Value
  b : Bool
  n : Nat
  k : Nat
abbrev rowT (l : Addr) (b : Bool) (n : Nat) : Obj := { cls := .type "tuple", data := .seq #[.ref l, .bool b] n }
abbrev NRow.tup (r : NRow) : Addr × Obj := (r.T, rowT r.l r.b r.n)
abbrev NRow.lis (r : NRow) : Addr × Obj := (r.l, listOf r.vs.toArray r.k)
def NRow.Ok (os : List UInt8) (r : NRow) : Prop := AllIs OctIs r.os r.vs ∧ r.os.length ≤ 61 ∧ (r.b = true → ToldBy os r.os)
/-- the value is a new list of new rows -/
def OutNear (os : List UInt8) (r : Value) (tl : Led) : Prop := ∃ (D : Addr) (rs : List NRow) (c : Nat), r = .ref D ∧ tl = (D, listOf (List.toArray (rs.map fun r : NRow => Value.ref r.T)) c) :: (rs.map NRow.tup ++ rs.map NRow.lis) ∧ ∀ r ∈ rs, r.Ok os
end
section
open PySem PySem.W PyProof.Rows PySem.Spec PySem.Calls
set_option maxRecDepth 100000
set_option maxHeartbeats 1000000
theorem rows_C17_1 : True := by
  w_top off
  k_with_none
  (k_with "ktn_open" => (refine wpAny_call ?_; k_dflt (refine' code_defC ?k1 ?k2 ?k3 ?k4 ?k5 ?kA ?kF ?kK ?k6 ?k7 ?k8 ?k9 ?kB ?kD ?_ ?c2 ?c3 ?c4; (case kA | kF => exact rfl); (case kK => assumption); (case k1 | k2 | k3 | k4 | k5 => k_asm); (case k6 | k7 => k_is); (case k8 => ktr_room); (case k9 => exact BindsTo.of_eq rfl); (case kB => exact rfl); (case kD => decide +kernel); (case c2 | c3 | c4 => exact rfl); k_whole; intro g' L' h' tk' cells' FG' F' N' Y' B' X' T' l1; (try k_lt l1); k_cells Y'; (try simp only [List.cons_append, List.nil_append] at N'); (try dsimp only); (try k_lift B'); (try k_fold))))
  (k_with "ktr_unf" => (unfold Con; refine fillK ?_; k_fill; intro hZZ; clear hZZ))
  (k_with "k_steps" => repeat' (first | (k_unfold; (try dsimp only)) | walk1 | (dsimp only; walk1) | (leave1; walk_say "STEP leave1"; try dsimp only) | fail "no step"))
  (k_with "k_mem" => first | exact List.mem_cons_self | (refine List.mem_cons_of_mem _ ?_; k_mem) | with_reducible assumption)
  (k_with "k_all" => first | (refine ne_below (by assumption) ?q9; (case q9 => ((try dsimp only); omega))) | exact off_mem (by assumption) | exact off_mem (off_lt (by assumption)))
  (k_with "lcg_off" => first | exact allLt_of (by assumption) | assumption | exact an1 (by assumption) | exact an2 (by assumption) | exact an3 (by assumption) | exact an4 (by assumption) | exact an5 (by assumption) | exact an6 (by assumption) | exact an7 (by assumption) | exact an8 (by assumption) | exact an9 (by assumption) | exact an10 (by assumption) | exact an11 (by assumption) | exact an12 (by assumption) | exact an13 (by assumption) | exact an14 (by assumption) | exact an15 (by assumption) | exact an16 (by assumption) | exact an17 (by assumption) | exact an18 (by assumption) | exact an19 (by assumption) | exact an20 (by assumption) | exact an21 (by assumption) | exact an22 (by assumption) | exact an23 (by assumption) | exact an24 (by assumption))
  (k_with "eval Constant int" => (k_dflt (refine wn_const ?_)))
  (k_with "binaryOp Add int int" => (k_here; (with_reducible refine wn_add ?_)))
  (k_with "call builtin:len" => ((k_here; (with_reducible show wpAny _ _ (call (Value.builtin "len") [Value.ref _]) _ _ _); k_dflt (refine (l_len (by k_asm) (by k_mem) (by (first | omega | (simp only [List.length_append, List.length_replicate, List.length_take, List.length_drop, List.length_cons, List.length_nil]; omega))) ?_))); intros))
  (k_with "binaryOp Add ref ref" => ((k_here; k_dflt (refine (l_add (by k_asm) (by k_asm) (by k_mem) (by k_mem) (by (first | omega | (simp only [List.length_append, List.length_replicate, List.length_take, List.length_drop, List.length_cons, List.length_nil]; omega))) ?_))); (intros; rename_i l1; (try k_lt l1); (try k_sweep))))
  (k_with "subscriptTail Name Slice ref ref" => (k_here; (with_reducible show wpAny _ _ (subscriptTail _ (.Slice none none (some _) _) (Value.ref _) (Value.ref _)) _ _ _); k_dflt (refine l_rev (by k_asm) (by k_asm) (by k_mem) (by (first | omega | (simp only [List.length_append, List.length_replicate, List.length_take, List.length_drop, List.length_cons, List.length_nil]; omega))) ?_ (by with_unfolding_all rfl) (by kmk_pure)); (intros; rename_i l1; (try k_lt l1); (try k_sweep))))
  (k_with "binaryOp Mod int int" => (k_here; first | (with_reducible refine wn_mod ?hb ?_; (case hb => decide)) | ((with_reducible refine wi_mod ?_); intro _ _)))
  (k_with "call builtin:sum" => ((k_here; (with_reducible show wpAny _ _ (call (Value.builtin "sum") [Value.ref _]) _ _ _); k_dflt (refine (sumK (by with_unfolding_all rfl) (by k_asm) (by k_asm) (l_is (by k_asm) (by k_mem)) (by assumption) ?_))); intros))
  (k_with "subscriptTail Name Slice ref ref" => (k_here; (with_reducible show wpAny _ _ (subscriptTail _ (.Slice (some _) none none _) (Value.ref _) (Value.ref _)) _ _ _); k_dflt (refine l_from (by k_asm) (by k_asm) (by k_mem) (by (first | omega | (simp only [List.length_append, List.length_replicate, List.length_take, List.length_drop, List.length_cons, List.length_nil]; omega))) ?_ (by with_unfolding_all rfl) (by kmk_pure)); (intros; rename_i l1; (try k_lt l1); (try k_sweep))))
  (k_with "subscriptTail Name Slice ref ref" => (k_here; (with_reducible show wpAny _ _ (subscriptTail _ (.Slice none (some _) none _) (Value.ref _) (Value.ref _)) _ _ _); k_dflt (refine l_uptoN (by k_asm) (by k_asm) (by k_mem) (by (first | omega | (simp only [List.length_append, List.length_replicate, List.length_take, List.length_drop, List.length_cons, List.length_nil]; omega))) ?_ (by with_unfolding_all rfl) (by kmk_pure)); (intros; rename_i l1; (try k_lt l1); (try k_sweep))))
  (k_with "subscriptTail Name Name ref int" => ((k_here; (with_reducible show wpAny _ _ (subscriptTail _ _ (Value.ref _) (Value.int _ _)) _ _ _); k_dflt (refine (l_oct (by k_asm) (by k_mem) (by assumption) (by (first | omega | (simp only [List.length_append, List.length_replicate, List.length_take, List.length_drop, List.length_cons, List.length_nil]; omega))) (by (first | omega | (simp only [List.length_append, List.length_replicate, List.length_take, List.length_drop, List.length_cons, List.length_nil]; omega))) ?_))); intros))
  (k_with "eval ListComp" => (k_here; k_dflt (refine comp_T (F₀ := by k_asm) (by with_unfolding_all rfl) (by decide) (by rfl) (by decide) (by rfl) ?_)))
  trivial
theorem rows_get {rs : List NRow} {its : Array Value} (e : its = (rs.map fun r => Value.ref r.T).toArray) {i : Nat} {v : Value} (h : its[i]? = some v) : ∃ r, rs[i]? = some r ∧ v = .ref r.T := by
  subst e
  simp only [List.getElem?_toArray, List.getElem?_map, Option.map_eq_some_iff] at h
  obtain ⟨r, h1, h2⟩ := h
  exact ⟨r, h1, h2.symm⟩
theorem rows_back {rs : List NRow} {ys : List Value} (h : AllIs (fun (r : NRow) v => v = Value.ref r.T) rs ys) : ys = rs.map fun r => Value.ref r.T := by
  induction h with
  | nil => rfl
  | cons h _ ih => rw [h, ih]; rfl
theorem l_neO {prog : Program} {w : World} {A : Around} {E : Value → Shared → Prop} {s : Shared} {h₀ : Heap} {L a b : Addr} {news : Led} {xs ys : List Value} {k k₂ : Nat} {os os' : List UInt8} {Q : Value → Shared → Prop}
    (N : News h₀ L s.heap news) (ma : (a, listOf xs.toArray k) ∈ news) (mb : (b, listOf ys.toArray k₂) ∈ news) (hx : AllIs OctIs os xs) (hy : AllIs OctIs os' ys) (hu : A.units + 64 < cLine)
    (h : Q (.bool (!decide ((os.map fun (c : UInt8) => (c.toNat : Int)) = os'.map fun (c : UInt8) => (c.toNat : Int)))) s) : wpAny (model prog w) A (compareOp .NotEq (.ref a) (.ref b)) Q E s :=
  ke_ne_ints (l_is N ma) (l_is N mb) (hx.ints (g := fun c : UInt8 => c.toNat) fun _ _ h => h) (hy.ints (g := fun c : UInt8 => c.toNat) fun _ _ h => h) hu h
theorem ok1 {os : List UInt8} {vs : List Value} (hv : AllIs OctIs os vs) (hb : os.length ≤ 60) (T l : Addr) (t : Tok) (n k : Nat) (b : Bool) (h : b = true → os.length % 4 ≠ 0) : NRow.Ok os ⟨T, l, os ++ [0], vs ++ [nv 0 t], b, n, k⟩ :=
  ⟨AllIs.append hv (.cons ⟨t, rfl⟩ .nil), by simp only [List.length_append, List.length_cons, List.length_nil]; omega, fun e => .inl ⟨rfl, h e⟩⟩
theorem ok2 {os : List UInt8} {vs : List Value} (hv : AllIs OctIs os vs) (hb : os.length ≤ 60) (T l : Addr) (n k : Nat) : NRow.Ok os ⟨T, l, os.reverse, vs.reverse, false, n, k⟩ :=
  ⟨hv.reverse, by simp only [List.length_reverse]; omega, fun e => nomatch e⟩
theorem ok3 {os : List UInt8} {vs : List Value} (hv : AllIs OctIs os vs) (hb : os.length ≤ 60) (T l : Addr) (n k i : Nat) : NRow.Ok os ⟨T, l, os.take i ++ os.drop (i + 1), vs.take i ++ vs.drop (i + 1), false, n, k⟩ :=
  ⟨AllIs.append (hv.take i) (hv.drop (i + 1)), by simp only [List.length_append, List.length_take, List.length_drop]; omega, fun e => nomatch e⟩
theorem ok4 {os : List UInt8} {vs : List Value} (hv : AllIs OctIs os vs) (hb : os.length ≤ 60) (T l : Addr) (n k i x : Nat) (t : Tok) (b : Bool) (hi : i < os.length) (hx : x ≤ 63) : NRow.Ok os ⟨T, l, os.take i ++ [UInt8.ofNat (oc os i + 1 + x)] ++ os.drop (i + 1), vs.take i ++ [nv ((oc os i + 1 + x) % 256) t] ++ vs.drop (i + 1), b, n, k⟩ :=
  ⟨AllIs.append (AllIs.append (hv.take i) (.cons (oct_of _ _) .nil)) (hv.drop (i + 1)), by simp only [List.length_append, List.length_take, List.length_drop, List.length_cons, List.length_nil]; omega, fun _ => .inr ⟨i, x, hi, hx, rfl⟩⟩
theorem bool_ne {n : Nat} (h : (match ((n % 4 : Nat) : Int) == ((0 : Nat) : Int) with | true => false | false => true) = true) : n % 4 ≠ 0 := by
  intro e
  rw [e] at h
  exact nomatch h
theorem rows_C17_2 : True := by
  (k_with "compareOp NotEq ref ref" => (k_here; (with_reducible show wpAny _ _ (compareOp CmpOp.NotEq (Value.ref _) (Value.ref _)) _ _ _); k_dflt (refine (l_neO (by k_asm) (by k_mem) (by k_mem) (by assumption) (by assumption) (by ktr_units) ?_))))
  trivial
theorem end_near {os : List UInt8} {news led : Led} {h₀ h' : Heap} {L : Addr} {m : Str → Option Value} {s : Shared} {Q : Value → Shared → Prop} {rs : List NRow} {p : NRow → Bool} {ys : List Value} {D : Addr} {tk' : Nat}
    (hret : ∀ (r : Value) (tl : Led) (h' : Heap) (tk' : Nat), Fr h₀ L h' m → News h₀ L h' (tl ++ news) → (∀ q ∈ tl, LCg.Off1 q.1 news) → OutNear os r tl → Q r { s with heap := h', toks := tk' })
    (F : Fr h₀ L h' m) (N : News h₀ L h' ((D, LCg.lst ys) :: led)) (hys : AllIs (fun (r : NRow) v => v = Value.ref r.T) (rs.filter p) ys) (hsub : ∀ p ∈ news, p ∈ led)
    (hrs : ∀ r ∈ rs, (r.tup ∈ led ∧ r.lis ∈ led ∧ LCg.Off1 r.T news ∧ LCg.Off1 r.l news) ∧ r.Ok os) (off : LCg.Off1 D led) : Q (.ref D) { s with heap := h', toks := tk' } := by
  have e := rows_back hys
  subst e
  refine hret _ ((D, LCg.lst ((rs.filter p).map fun r : NRow => Value.ref r.T)) :: ((rs.filter p).map NRow.tup ++ (rs.filter p).map NRow.lis)) h' tk' F ?_ ?_ ⟨D, rs.filter p, _, rfl, rfl, fun r hr => (hrs r (List.mem_filter.mp hr).1).2⟩
  · intro q hq
    rcases List.mem_cons.mp hq with rfl | hq
    · exact N _ List.mem_cons_self
    · rcases List.mem_append.mp hq with hq | hq
      · rcases List.mem_append.mp hq with hq | hq
        · obtain ⟨r, hr, rfl⟩ := List.mem_map.mp hq
          exact N _ (List.mem_cons_of_mem _ (hrs r (List.mem_filter.mp hr).1).1.1)
        · obtain ⟨r, hr, rfl⟩ := List.mem_map.mp hq
          exact N _ (List.mem_cons_of_mem _ (hrs r (List.mem_filter.mp hr).1).1.2.1)
      · exact N _ (List.mem_cons_of_mem _ (hsub _ hq))
  · intro q hq
    rcases List.mem_cons.mp hq with rfl | hq
    · exact off_sub off hsub
    · rcases List.mem_append.mp hq with hq | hq
      · obtain ⟨r, hr, rfl⟩ := List.mem_map.mp hq
        exact (hrs r (List.mem_filter.mp hr).1).1.2.2.1
      · obtain ⟨r, hr, rfl⟩ := List.mem_map.mp hq
        exact (hrs r (List.mem_filter.mp hr).1).1.2.2.2
theorem con_near (w : World) (ns : List Int) (hn : ns.length ≤ 63) (os : List UInt8) (hb : os.length ≤ 60) (sc o : Addr) (ss vs : List Value) (k k₂ : Nat) (hs : IntsAre ss ns) (hv : AllIs OctIs os vs) :
    Con w 166 10 [.ref sc, .ref o] (fun news => (sc, listOf ss.toArray k₂) ∈ news ∧ (o, listOf vs.toArray k) ∈ news) (OutNear os) := by
  have hvl := hv.length
  have hsl := hs.length
  ktr_unf
  intro prog p loose mean mg mb dp un gd cn cs a ccd cl outer A₀ base h₀ L m news s Q E B F X N T hk hok hd hu hret
  obtain ⟨hok1, hok2⟩ := hok
  ktn_open
  k_steps
  · (with_reducible rename Fr _ _ _ _ => lF)
    (with_reducible rename News _ _ _ _ => lN)
    obtain ⟨led, rs, O, lN', hO, hc, hlen, hm, ho, hsub, hrs⟩ : ∃ (led : Led) (rs : List NRow) (O : Obj), News _ _ _ led ∧ O.data = Data.cell (some (Value.ref o)) ∧ (_, O) ∈ led ∧ rs.length ≤ 4 ∧ (_, listOf (List.toArray (rs.map fun r : NRow => Value.ref r.T)) _) ∈ led ∧ (o, listOf vs.toArray k) ∈ led ∧ (∀ p ∈ news, p ∈ led) ∧
        ∀ r ∈ rs, (r.tup ∈ led ∧ r.lis ∈ led ∧ LCg.Off1 r.T news ∧ LCg.Off1 r.l news) ∧ r.Ok os := by
      refine' ⟨_, [⟨_, _, os ++ [0], vs ++ [_], _, _, _⟩, ⟨_, _, os.reverse, vs.reverse, _, _, _⟩, ⟨_, _, os.take _ ++ os.drop _, vs.take _ ++ vs.drop _, _, _, _⟩, ⟨_, _, os.take _ ++ [_] ++ os.drop _, vs.take _ ++ [_] ++ vs.drop _, _, _, _⟩], _, lN, ?d8, ?c8, ?z8, ?m8, ?o8, ?s8, ?r8⟩
      case m8 => k_mem
      case z8 => exact Nat.le_of_ble_eq_true rfl
      case d8 => assumption
      case c8 => k_mem
      case o8 => k_mem
      case s8 => kcf_all
      case r8 =>
        refine' List.forall_mem_cons.mpr ⟨⟨⟨?t1, ?l1, ?f1, ?g1⟩, ?k1⟩, List.forall_mem_cons.mpr ⟨⟨⟨?t2, ?l2, ?f2, ?g2⟩, ?k2⟩, List.forall_mem_cons.mpr ⟨⟨⟨?t3, ?l3, ?f3, ?g3⟩, ?k3⟩, List.forall_mem_cons.mpr ⟨⟨⟨?t4, ?l4, ?f4, ?g4⟩, ?k4⟩, List.forall_mem_nil _⟩⟩⟩⟩
        case t1 => k_mem
        case l1 => k_mem
        case t2 => k_mem
        case l2 => k_mem
        case t3 => k_mem
        case l3 => k_mem
        case t4 => k_mem
        case l4 => k_mem
        case f1 => exact off_lt (by lcg_off)
        case g1 => exact off_lt (by lcg_off)
        case f2 => exact off_lt (by lcg_off)
        case g2 => exact off_lt (by lcg_off)
        case f3 => exact off_lt (by lcg_off)
        case g3 => exact off_lt (by lcg_off)
        case f4 => exact off_lt (by lcg_off)
        case g4 => exact off_lt (by lcg_off)
        case k1 => exact ok1 hv hb _ _ _ _ _ _ (fun e => by rw [hvl]; exact bool_ne e)
        case k2 => exact ok2 hv hb _ _ _ _
        case k3 => exact ok3 hv hb _ _ _ _ _
        case k4 => (refine' ok4 hv hb _ _ _ _ _ _ _ _ ?_ ?_ <;> omega)
    k_dflt (refine halt (LCt.CompSrcT.ledger (by rfl) lF lN' hm (sz1000 ?z9) ?_))
    case z9 => (simp only [List.size_toArray, List.length_map]; omega)
    intro g9
    refine ct_rest (fun (r : NRow) v => v = Value.ref r.T) (fun r => !decide ((r.os.map fun c : UInt8 => (c.toNat : Int)) = os.map fun c : UInt8 => (c.toNat : Int))) (fun r v => v = Value.ref r.T) rs (by simp) (fun i v hi h => rows_get rfl h) (.inr ⟨_, hm, rfl, _, rfl⟩) ?_ ?_ ?_
    · intro r v I oI C oC D m₂ ys h tk E' hr hR hC hx F' N' off ne
      subst hR
      obtain ⟨⟨r1, r2, _, _⟩, ⟨r3, _, _⟩⟩ := hrs r hr
      clear lF lN lN'
      k_steps
      exact halt ⟨rfl, same (by k_asm) (by k_asm)⟩
    · intro r v I oI C oC D m₂ ys h tk E' hr _ hR hC hx F' N' off ne
      subst hR
      clear lF lN lN'
      k_steps
      exact halt ⟨rfl, same (by k_asm) (by k_asm)⟩
    · intro ys hys D h tk F' N' o1
      clear lF lN lN'
      k_steps
      (with_reducible rename Fr _ _ _ _ => lF)
      (with_reducible rename News _ _ _ _ => lN)
      exact end_near hret lF lN hys hsub hrs o1
  · (with_reducible rename Fr _ _ _ _ => lF)
    (with_reducible rename News _ _ _ _ => lN)
    obtain ⟨led, rs, O, lN', hO, hc, hlen, hm, ho, hsub, hrs⟩ : ∃ (led : Led) (rs : List NRow) (O : Obj), News _ _ _ led ∧ O.data = Data.cell (some (Value.ref o)) ∧ (_, O) ∈ led ∧ rs.length ≤ 4 ∧ (_, listOf (List.toArray (rs.map fun r : NRow => Value.ref r.T)) _) ∈ led ∧ (o, listOf vs.toArray k) ∈ led ∧ (∀ p ∈ news, p ∈ led) ∧
        ∀ r ∈ rs, (r.tup ∈ led ∧ r.lis ∈ led ∧ LCg.Off1 r.T news ∧ LCg.Off1 r.l news) ∧ r.Ok os := by
      refine' ⟨_, [⟨_, _, os ++ [0], vs ++ [_], _, _, _⟩, ⟨_, _, os.reverse, vs.reverse, _, _, _⟩, ⟨_, _, os.take _ ++ os.drop _, vs.take _ ++ vs.drop _, _, _, _⟩], _, lN, ?d8, ?c8, ?z8, ?m8, ?o8, ?s8, ?r8⟩
      case m8 => k_mem
      case z8 => exact Nat.le_of_ble_eq_true rfl
      case d8 => assumption
      case c8 => k_mem
      case o8 => k_mem
      case s8 => kcf_all
      case r8 =>
        refine' List.forall_mem_cons.mpr ⟨⟨⟨?t1, ?l1, ?f1, ?g1⟩, ?k1⟩, List.forall_mem_cons.mpr ⟨⟨⟨?t2, ?l2, ?f2, ?g2⟩, ?k2⟩, List.forall_mem_cons.mpr ⟨⟨⟨?t3, ?l3, ?f3, ?g3⟩, ?k3⟩, List.forall_mem_nil _⟩⟩⟩
        case t1 => k_mem
        case l1 => k_mem
        case t2 => k_mem
        case l2 => k_mem
        case t3 => k_mem
        case l3 => k_mem
        case f1 => exact off_lt (by lcg_off)
        case g1 => exact off_lt (by lcg_off)
        case f2 => exact off_lt (by lcg_off)
        case g2 => exact off_lt (by lcg_off)
        case f3 => exact off_lt (by lcg_off)
        case g3 => exact off_lt (by lcg_off)
        case k1 => exact ok1 hv hb _ _ _ _ _ _ (fun e => by rw [hvl]; exact bool_ne e)
        case k2 => exact ok2 hv hb _ _ _ _
        case k3 => exact ok3 hv hb _ _ _ _ _
    k_dflt (refine halt (LCt.CompSrcT.ledger (by rfl) lF lN' hm (sz1000 ?z9) ?_))
    case z9 => (simp only [List.size_toArray, List.length_map]; omega)
    intro g9
    refine ct_rest (fun (r : NRow) v => v = Value.ref r.T) (fun r => !decide ((r.os.map fun c : UInt8 => (c.toNat : Int)) = os.map fun c : UInt8 => (c.toNat : Int))) (fun r v => v = Value.ref r.T) rs (by simp) (fun i v hi h => rows_get rfl h) (.inr ⟨_, hm, rfl, _, rfl⟩) ?_ ?_ ?_
    · intro r v I oI C oC D m₂ ys h tk E' hr hR hC hx F' N' off ne
      subst hR
      obtain ⟨⟨r1, r2, _, _⟩, ⟨r3, _, _⟩⟩ := hrs r hr
      clear lF lN lN'
      k_steps
      exact halt ⟨rfl, same (by k_asm) (by k_asm)⟩
    · intro r v I oI C oC D m₂ ys h tk E' hr _ hR hC hx F' N' off ne
      subst hR
      clear lF lN lN'
      k_steps
      exact halt ⟨rfl, same (by k_asm) (by k_asm)⟩
    · intro ys hys D h tk F' N' o1
      clear lF lN lN'
      k_steps
      (with_reducible rename Fr _ _ _ _ => lF)
      (with_reducible rename News _ _ _ _ => lN)
      exact end_near hret lF lN hys hsub hrs o1
end
section
open PySem PySem.W PyProof.Rows PySem.Spec PySem.Calls
set_option maxRecDepth 100000
set_option maxHeartbeats 1000000
theorem rot_back (x : BitVec 32) (a b : Nat) (h : a + b = 32) (ha : 0 < a) (hb : 0 < b) : (x.rotateLeft a).rotateLeft b = x := by
  refine BitVec.eq_of_getLsbD_eq fun i hi => ?_
  have e1 : b % 32 = b := Nat.mod_eq_of_lt (by omega)
  have e2 : a % 32 = a := Nat.mod_eq_of_lt (by omega)
  by_cases h1 : i < b
  · have h2 : ¬ 32 - b + i < a := by omega
    have h3 : 32 - b + i < 32 := by omega
    simp only [BitVec.getLsbD_rotateLeft, e1, e2, h1, h2, h3, decide_true, decide_false, cond_true, cond_false, Bool.true_and, if_true, if_false]
    congr 1
    omega
  · have h2 : i - b < a := by omega
    simp only [BitVec.getLsbD_rotateLeft, e1, e2, h1, h2, hi, decide_true, decide_false, cond_true, cond_false, Bool.true_and, if_true, if_false]
    congr 1
    omega
theorem xor_back (x y : BitVec 32) : (x ^^^ y) ^^^ y = x := by
  rw [BitVec.xor_assoc, BitVec.xor_self, BitVec.xor_zero]
theorem rot16 (x : BitVec 32) : (x.rotateLeft 16).rotateLeft 16 = x := rot_back x 16 16 rfl (by decide) (by decide)
theorem rot12 (x : BitVec 32) : (x.rotateLeft 12).rotateLeft 20 = x := rot_back x 12 20 rfl (by decide) (by decide)
theorem rot8 (x : BitVec 32) : (x.rotateLeft 8).rotateLeft 24 = x := rot_back x 8 24 rfl (by decide) (by decide)
theorem rot7 (x : BitVec 32) : (x.rotateLeft 7).rotateLeft 25 = x := rot_back x 7 25 rfl (by decide) (by decide)
theorem unstir_stir (x : W4) : unstir (stir x) = x := by
  cases x
  simp only [unstir, unhalf, stir, rot7, rot8, rot12, rot16, xor_back, BitVec.add_sub_cancel]
theorem unstirs_succ (x : W4) : ∀ n, unstirs (stir x) (n + 1) = unstirs x n
  | 0 => unstir_stir x
  | n + 1 => by rw [unstirs, unstirs_succ x n]; rfl
theorem unstirs_stirs (x : W4) : ∀ n, unstirs (stirs x n) n = x
  | 0 => rfl
  | n + 1 => by rw [stirs, unstirs_succ, unstirs_stirs x n]
theorem mixLen_back (x : W4) (n : Nat) : mixLen (mixLen x n) n = x := by
  cases x
  simp only [mixLen, xor_back]
theorem undIn_mixIn (x : W4) (q : BitVec 32) : undIn (mixIn x q) q = x := by
  cases x
  simp only [undIn, mixIn, unstir_stir, xor_back]
theorem und_at (ws : List (BitVec 32)) : ∀ i, i ≤ ws.length → undAt (mixAt ws ws.length) ws.reverse i = mixAt ws (ws.length - i)
  | 0, _ => rfl
  | i + 1, h => by
    rw [undAt, und_at ws i (by omega)]
    have e : ws.length - i = (ws.length - (i + 1)) + 1 := by omega
    rw [e, mixAt]
    have e2 : wd ws.reverse i = wd ws (ws.length - (i + 1)) := by
      rw [wd, wd, List.getElem?_reverse (by omega)]
      congr 2
      omega
    rw [e2, undIn_mixIn]
theorem undv_mixv (os : List UInt8) : undv (mixv os) os = mx0 := by
  rw [undv, mixv, unstirs_stirs, mixLen_back, und_at _ _ (Nat.le_refl _), Nat.sub_self]
  rfl
/-- mixing is one to one for a like number of words -/
theorem stir_inj {x y : W4} (h : stir x = stir y) : x = y := by rw [← unstir_stir x, h, unstir_stir]
theorem stirs_inj {x y : W4} : ∀ n, stirs x n = stirs y n → x = y
  | 0, h => h
  | n + 1, h => stirs_inj n (stir_inj h)
theorem mixLen_inj {x y : W4} {n : Nat} (h : mixLen x n = mixLen y n) : x = y := by rw [← mixLen_back x n, h, mixLen_back]
theorem xor_inj {x y q : BitVec 32} (h : x ^^^ q = y ^^^ q) : x = y := by rw [← xor_back x q, h, xor_back]
theorem mixIn_inj {x y : W4} {q : BitVec 32} (h : mixIn x q = mixIn y q) : x = y := by rw [← undIn_mixIn x q, h, undIn_mixIn]
end
section
open PySem PySem.W PyProof.Rows PySem.Spec PySem.Calls
set_option maxRecDepth 100000
set_option maxHeartbeats 1000000
theorem wd_words (os : List UInt8) {k : Nat} (h : k < (os.length + 3) / 4) : wd (words os) k = wordAt os k := by
  rw [wd, words, List.getElem?_map, List.getElem?_range h]
  rfl
theorem words_pad (os : List UInt8) (h : os.length % 4 ≠ 0) : words (os ++ [0]) = words os := by
  unfold words
  have e : ((os ++ [0]).length + 3) / 4 = (os.length + 3) / 4 := by
    rw [List.length_append, List.length_singleton]; omega
  rw [e]
  refine List.map_congr_left fun k _ => ?_
  apply BitVec.eq_of_toNat_eq
  rw [word_oc, word_oc]
  have e0 : ∀ i, oc (os ++ [0]) i = oc os i := oc_pad os 1
  rw [e0, e0, e0, e0]
/-- the octets with one changed -/
def chg (os : List UInt8) (i : Nat) (c : UInt8) : List UInt8 := os.take i ++ [c] ++ os.drop (i + 1)
theorem chg_length {os : List UInt8} {i : Nat} {c : UInt8} (hi : i < os.length) : (chg os i c).length = os.length := by
  simp only [chg, List.length_append, List.length_take, List.length_drop, List.length_singleton]; omega
theorem chg_oc {os : List UInt8} {i : Nat} {c : UInt8} (hi : i < os.length) (p : Nat) : oc (chg os i c) p = if p = i then c.toNat else oc os p := by
  have e : chg os i c = os.set i c := by
    rw [chg, List.set_eq_take_append_cons_drop, if_pos hi, List.append_assoc]
    rfl
  rw [e, oc, List.getElem?_set]
  by_cases h : i = p
  · subst h
    simp [hi]
  · rw [if_neg h, if_neg (fun q => h q.symm)]
    rfl
theorem mixAt_same {ws us : List (BitVec 32)} : ∀ k, (∀ i, i < k → wd us i = wd ws i) → mixAt us k = mixAt ws k
  | 0, _ => rfl
  | k + 1, h => by rw [mixAt, mixAt, mixAt_same k fun i hi => h i (by omega), h k (by omega)]
theorem mixAt_apart {ws us : List (BitVec 32)} {j : Nat} (hlt : ∀ i, i < j → wd us i = wd ws i) (hj : wd us j ≠ wd ws j) (hgt : ∀ i, j < i → wd us i = wd ws i) : ∀ k, mixAt us (j + 1 + k) ≠ mixAt ws (j + 1 + k)
  | 0 => fun e => by
    rw [Nat.add_zero, mixAt, mixAt, mixAt_same j hlt] at e
    have e2 := stir_inj e
    injection e2 with ea _ _ _
    refine hj ?_
    rw [BitVec.xor_comm _ (wd us j), BitVec.xor_comm _ (wd ws j)] at ea
    exact xor_inj ea
  | k + 1 => fun e => by
    rw [← Nat.add_assoc, mixAt, mixAt, hgt (j + 1 + k) (by omega)] at e
    exact mixAt_apart hlt hj hgt k (mixIn_inj e)
theorem xor_injL {x y q : BitVec 32} (h : q ^^^ x = q ^^^ y) : x = y := by
  rw [BitVec.xor_comm q x, BitVec.xor_comm q y] at h
  exact xor_inj h
theorem mixv_pad {os : List UInt8} (h : os.length % 4 ≠ 0) (hb : os.length ≤ 64) : mixv (os ++ [0]) ≠ mixv os := fun e => by
  have e1 := stirs_inj 6 e
  rw [words_pad os h] at e1
  injection e1 with _ _ ec _
  have e2 := congrArg BitVec.toNat (xor_injL ec)
  rw [BitVec.toNat_ofNat, BitVec.toNat_ofNat, List.length_append, List.length_singleton] at e2
  omega
theorem nq (i : Nat) {k : Nat} (h : k ≠ i / 4) : (¬4 * k = i ∧ ¬4 * k + 1 = i) ∧ ¬4 * k + 2 = i ∧ ¬4 * k + 3 = i := by omega
theorem nq0 {i j : Nat} (q : i = 4 * j) : ¬4 * j + 1 = i ∧ ¬4 * j + 2 = i ∧ ¬4 * j + 3 = i := by omega
theorem nq1 {i j : Nat} (q : i = 4 * j + 1) : ¬4 * j = i ∧ ¬4 * j + 2 = i ∧ ¬4 * j + 3 = i := by omega
theorem nq2 {i j : Nat} (q : i = 4 * j + 2) : ¬4 * j = i ∧ ¬4 * j + 1 = i ∧ ¬4 * j + 3 = i := by omega
theorem nq3 {i j : Nat} (q : i = 4 * j + 3) : ¬4 * j = i ∧ ¬4 * j + 1 = i ∧ ¬4 * j + 2 = i := by omega
theorem in_words {os : List UInt8} {i n : Nat} (hi : i < os.length) (hn : n = (os.length + 3) / 4) : i / 4 < n := by omega
theorem mixv_chg {os : List UInt8} {i : Nat} {c : UInt8} (hi : i < os.length) (hc : c.toNat ≠ oc os i) : mixv (chg os i c) ≠ mixv os := fun e => by
  have e1 := stirs_inj 6 e
  rw [chg_length hi] at e1
  have e2 := mixLen_inj e1
  have el : (words (chg os i c)).length = (words os).length := by rw [words_length, words_length, chg_length hi]
  rw [el] at e2
  have hn := words_length os
  have hq : ∀ k, k < (words os).length → k ≠ i / 4 → wd (words (chg os i c)) k = wd (words os) k := fun k hk hne => by
    rw [wd_words _ (by rw [chg_length hi]; omega), wd_words _ (by omega)]
    apply BitVec.eq_of_toNat_eq
    rw [word_oc, word_oc]
    rw [chg_oc hi, chg_oc hi, chg_oc hi, chg_oc hi, if_neg (nq i hne).1.1, if_neg (nq i hne).1.2, if_neg (nq i hne).2.1, if_neg (nq i hne).2.2]
  have hbig : ∀ k, (words os).length ≤ k → wd (words (chg os i c)) k = wd (words os) k := fun k hk => by
    rw [wd, wd, List.getElem?_eq_none (by omega), List.getElem?_eq_none (by omega)]
  have hall : ∀ k, k ≠ i / 4 → wd (words (chg os i c)) k = wd (words os) k := fun k hne => by
    by_cases hk : k < (words os).length
    · exact hq k hk hne
    · exact hbig k (by omega)
  have hj : wd (words (chg os i c)) (i / 4) ≠ wd (words os) (i / 4) := fun e => by
    rw [wd_words _ (by rw [chg_length hi]; omega), wd_words _ (by omega)] at e
    have e3 := congrArg BitVec.toNat e
    rw [word_oc, word_oc, chg_oc hi, chg_oc hi, chg_oc hi, chg_oc hi] at e3
    clear hn hq hbig hall e2 e1 el
    have cases : i = 4 * (i / 4) ∨ i = 4 * (i / 4) + 1 ∨ i = 4 * (i / 4) + 2 ∨ i = 4 * (i / 4) + 3 := by clear e3; omega
    rcases cases with q | q | q | q
    · obtain ⟨x1, x2, x3⟩ := nq0 q
      rw [if_pos q.symm, if_neg x1, if_neg x2, if_neg x3, ← q] at e3; clear q x1 x2 x3 hi; omega
    · obtain ⟨x1, x2, x3⟩ := nq1 q
      rw [if_neg x1, if_pos q.symm, if_neg x2, if_neg x3, ← q] at e3; clear q x1 x2 x3 hi; omega
    · obtain ⟨x1, x2, x3⟩ := nq2 q
      rw [if_neg x1, if_neg x2, if_pos q.symm, if_neg x3, ← q] at e3; clear q x1 x2 x3 hi; omega
    · obtain ⟨x1, x2, x3⟩ := nq3 q
      rw [if_neg x1, if_neg x2, if_neg x3, if_pos q.symm, ← q] at e3; clear q x1 x2 x3 hi; omega
  have hle : i / 4 + 1 ≤ (words os).length := by omega
  obtain ⟨k, hk⟩ : ∃ k, (words os).length = i / 4 + 1 + k := ⟨(words os).length - (i / 4 + 1), by omega⟩
  rw [hk] at e2
  exact mixAt_apart (fun m hm => hall m (by omega)) hj (fun m hm => hall m (by omega)) k e2
theorem mixv_told {os os' : List UInt8} (hb : os.length ≤ 64) (h : ToldBy os os') : mixv os' ≠ mixv os := by
  rcases h with ⟨rfl, h⟩ | ⟨i, x, hi, hx, rfl⟩
  · exact mixv_pad h hb
  · refine mixv_chg (c := UInt8.ofNat (oc os i + 1 + x)) hi ?_
    have h1 := oc_lt os i
    have e : (UInt8.ofNat (oc os i + 1 + x)).toNat = (oc os i + 1 + x) % 256 := by simp
    rw [e]
    omega
end
section
open PySem PySem.W PyProof.Rows PySem.Spec PySem.Calls
set_option maxRecDepth 100000
set_option maxHeartbeats 1000000
theorem sum_add {α : Type} (f g : α → Nat) : ∀ l : List α, (l.map fun k => f k + g k).sum = (l.map f).sum + (l.map g).sum
  | [] => rfl
  | a :: l => by
    simp only [List.map_cons, List.sum_cons, sum_add f g l]
    omega
/-- a sum with weights that run down -/
def SW (f : Nat → Nat) (u : Nat → Nat) (n : Nat) : Nat := ((List.range n).map fun k => f (n - k) * u k).sum
theorem SW_step (f h u : Nat → Nat) (h0 : f 0 = 0) (hs : ∀ m, f (m + 1) = f m + h (m + 1)) (n : Nat) : SW f u (n + 1) = SW f u n + SW h u (n + 1) := by
  have e1 : (List.range (n + 1)).map (fun k => f (n + 1 - k) * u k) = (List.range (n + 1)).map fun k => f (n - k) * u k + h (n + 1 - k) * u k := by
    refine List.map_congr_left fun k hk => ?_
    have := List.mem_range.mp hk
    rw [show n + 1 - k = (n - k) + 1 by omega, hs, Nat.add_mul]
  unfold SW
  rw [e1, sum_add]
  congr 1
  rw [List.range_succ, List.map_append, List.sum_append]
  simp [h0]
def w1 (_ : Nat) : Nat := 1
def w2 (m : Nat) : Nat := m
def w3 (m : Nat) : Nat := m * (m + 1) / 2
def w4 (m : Nat) : Nat := m * (m + 1) * (m + 2) / 6
theorem w2_step (m : Nat) : w2 (m + 1) = w2 m + w1 (m + 1) := rfl
theorem w3_step (m : Nat) : w3 (m + 1) = w3 m + w2 (m + 1) := by
  unfold w3 w2
  have e : (m + 1) * (m + 1 + 1) = m * (m + 1) + 2 * (m + 1) := by rw [Nat.mul_comm m, ← Nat.mul_comm (m + 1) 2, ← Nat.mul_add]
  rw [e, Nat.add_mul_div_left _ _ (by decide)]
theorem even_two (m : Nat) : ∃ t, m * (m + 1) = 2 * t := by
  induction m with
  | zero => exact ⟨0, rfl⟩
  | succ m ih =>
    obtain ⟨t, ht⟩ := ih
    refine ⟨t + (m + 1), ?_⟩
    have e : (m + 1) * (m + 1 + 1) = m * (m + 1) + 2 * (m + 1) := by rw [Nat.mul_comm m, ← Nat.mul_comm (m + 1) 2, ← Nat.mul_add]
    rw [e, ht]
    omega
theorem w4_step (m : Nat) : w4 (m + 1) = w4 m + w3 (m + 1) := by
  unfold w4 w3
  obtain ⟨t, ht⟩ := even_two (m + 1)
  have e : (m + 1) * (m + 1 + 1) * (m + 1 + 2) = m * (m + 1) * (m + 2) + 6 * t := by
    have e1 : (m + 1) * (m + 1 + 1) * (m + 1 + 2) = (m + 1) * (m + 1 + 1) * m + (m + 1) * (m + 1 + 1) * 3 := by rw [← Nat.mul_add]
    have e2 : m * (m + 1) * (m + 2) = (m + 1) * (m + 1 + 1) * m := by
      rw [Nat.mul_comm m (m + 1), Nat.mul_assoc, Nat.mul_comm m (m + 2), ← Nat.mul_assoc]
    rw [e1, e2, ht]
    omega
  rw [e, ht, Nat.add_mul_div_left _ _ (by decide), Nat.mul_div_cancel_left _ (by decide)]
theorem SW1_succ (u : Nat → Nat) (n : Nat) : SW w1 u (n + 1) = SW w1 u n + u n := by
  unfold SW w1
  rw [List.range_succ, List.map_append, List.sum_append]
  simp
def uw (ws : List (BitVec 32)) (k : Nat) : Nat := (wd ws k).toNat
def v4 (ws : List (BitVec 32)) (n : Nat) : W4 := ⟨BitVec.ofNat 32 (SW w1 (uw ws) n), BitVec.ofNat 32 (SW w2 (uw ws) n), BitVec.ofNat 32 (SW w3 (uw ws) n), BitVec.ofNat 32 (SW w4 (uw ws) n)⟩
theorem ofNat_back (x : BitVec 32) : BitVec.ofNat 32 x.toNat = x := BitVec.eq_of_toNat_eq (by rw [BitVec.toNat_ofNat]; exact Nat.mod_eq_of_lt (BitVec.isLt _))
theorem f4at_v4 (ws : List (BitVec 32)) : ∀ n, f4at ws n = v4 ws n
  | 0 => rfl
  | n + 1 => by
    rw [f4at, f4at_v4 ws n]
    have e1 : BitVec.ofNat 32 (SW w1 (uw ws) (n + 1)) = BitVec.ofNat 32 (SW w1 (uw ws) n) + wd ws n := by
      rw [SW1_succ, BitVec.ofNat_add]
      congr 1
      exact ofNat_back _
    have e2 := congrArg (BitVec.ofNat 32) (SW_step w2 w1 (uw ws) rfl w2_step n)
    have e3 := congrArg (BitVec.ofNat 32) (SW_step w3 w2 (uw ws) rfl w3_step n)
    have e4 := congrArg (BitVec.ofNat 32) (SW_step w4 w3 (uw ws) rfl w4_step n)
    rw [BitVec.ofNat_add] at e2 e3 e4
    simp only [v4, f4step]
    rw [e4, e3, e2, e1]
theorem map_uw (ws : List (BitVec 32)) : (List.range ws.length).map (uw ws) = ws.map fun x => x.toNat := by
  refine List.ext_getElem (by simp) fun i h1 h2 => ?_
  have hi : i < ws.length := by simpa using h1
  simp [uw, wd, List.getElem?_eq_getElem hi]
theorem f4_same (ws : List (BitVec 32)) : f4at ws ws.length = fl4 ws := by
  rw [f4at_v4]
  have e1 : SW w1 (uw ws) ws.length = (ws.map fun x => x.toNat).sum := by
    unfold SW w1
    rw [← map_uw]
    simp
  unfold v4 fl4
  rw [e1]
  rfl
def ue (ws : List (BitVec 32)) (a k : Nat) : Nat := (wd ws (a + 2 * k)).toNat
def v2 (ws : List (BitVec 32)) (n : Nat) : W4 := ⟨BitVec.ofNat 32 (SW w1 (ue ws 0) n), BitVec.ofNat 32 (SW w1 (ue ws 1) n), BitVec.ofNat 32 (SW w2 (ue ws 0) n), BitVec.ofNat 32 (SW w2 (ue ws 1) n)⟩
theorem f2at_v2 (ws : List (BitVec 32)) : ∀ n, f2at ws n = v2 ws n
  | 0 => rfl
  | n + 1 => by
    rw [f2at, f2at_v2 ws n]
    have e1 : ∀ a, BitVec.ofNat 32 (SW w1 (ue ws a) (n + 1)) = BitVec.ofNat 32 (SW w1 (ue ws a) n) + wd ws (a + 2 * n) := fun a => by
      rw [SW1_succ, BitVec.ofNat_add]
      congr 1
      exact ofNat_back _
    have e2 : ∀ a, BitVec.ofNat 32 (SW w2 (ue ws a) (n + 1)) = BitVec.ofNat 32 (SW w2 (ue ws a) n) + BitVec.ofNat 32 (SW w1 (ue ws a) (n + 1)) := fun a => by
      rw [SW_step w2 w1 (ue ws a) rfl w2_step n, BitVec.ofNat_add]
    simp only [v2, f2step]
    rw [e2 0, e2 1, e1 0, e1 1, Nat.zero_add, Nat.add_comm 1 (2 * n)]
theorem lt2_v2 (ws : List (BitVec 32)) : lt2 ws = v2 ws (ws.length / 2) := by
  have e : ∀ a, ((evl ws a).map BitVec.toNat).sum = SW w1 (ue ws a) (ws.length / 2) := fun a => by
    unfold evl SW w1
    rw [List.map_map]
    congr 1
    refine List.map_congr_left fun k _ => ?_
    simp [ue]
  unfold lt2 v2
  rw [e 0, e 1]
  rfl
theorem f2_same (os : List UInt8) : fl2 (words os) = lt2 (padw os) := by
  rw [lt2_v2, ← f2at_v2, padw_len]
  unfold fl2 padw
  have hr : (words os).length % 2 = 0 ∨ (words os).length % 2 = 1 := by omega
  rcases hr with h | h
  · rw [h, show ((words os).length + 1) / 2 = ((words os).length + 0) / 2 by omega]
    simp
  · rw [h, show List.replicate 1 (0 : BitVec 32) = [0] from rfl, f2at_pad]
end
section
open PySem PySem.W PyProof.Rows PySem.Spec PySem.Calls
set_option maxRecDepth 100000
set_option maxHeartbeats 1000000
section
variable {prog : Program} {w : World} {A : Around} {E : Value → Shared → Prop} {s : Shared} {h₀ : Heap} {L l a b : Addr} {m : Str → Option Value} {news : Led} {vs xs ys : List Value} {k k₂ : Nat} {os : List UInt8} {Q : Value → Shared → Prop} {x y x1 x2 x3 y1 y2 y3 : W4}
theorem oct_bytes : ∀ os : List UInt8, (os.map fun c : UInt8 => (c.toNat : Int)).map (fun n => n.toNat.toUInt8) = os
  | [] => rfl
  | c :: os => by
    simp only [List.map_cons, oct_bytes os, Int.toNat_natCast]
    congr 1
    simp
theorem l_bytes (hh : A.handled = none) (F : Fr h₀ L s.heap m) (N : News h₀ L s.heap news) (hm : (l, listOf vs.toArray k) ∈ news) (hv : AllIs OctIs os vs) (hz : os.length ≤ 1000)
    (h : ∀ h' t k, Fr h₀ L h' m → News h₀ L h' news → Q (.bytes os.toArray t) { s with heap := h', toks := k }) : wpAny (model prog w) A (call (.type "bytes") [.ref l]) Q E s := by
  have hi : IntsAre vs (os.map fun c : UInt8 => (c.toNat : Int)) := hv.ints (g := fun c : UInt8 => c.toNat) fun _ _ h => h
  refine bytes_K F N (l_is N hm) hi ?r ?z hh (fun h' t k F' N' _ => ?_)
  case z => exact sz1000 (by rw [← hv.length]; exact hz)
  case r =>
    intro n hn
    obtain ⟨c, _, rfl⟩ := List.mem_map.mp hn
    have := c.toNat_lt
    omega
  · have := h h' t k F' N'
    rw [oct_bytes]
    exact this
theorem p4_all : ∀ zs : List W4, PyData.eqvAll (zs.map p4) (zs.map p4) = true
  | [] => rfl
  | z :: zs => by
    simp only [List.map_cons, PyData.eqvAll, p4_eqv, same4_self, p4_all zs, Bool.and_self]
theorem ne_same {zs : List W4} {as bs : List Addr} (N : News h₀ L s.heap news) (ma : (a, listOf xs.toArray k) ∈ news) (mb : (b, listOf ys.toArray k₂) ∈ news) (ra : ReadsAll s.heap xs (zs.map p4) as) (rb : ReadsAll s.heap ys (zs.map p4) bs)
    (hs : SeqAt.shaped (.list (zs.map p4)) = true) (hu : A.units + 64 < cLine) (h : Q (.bool false) s) : wpAny (model prog w) A (compareOp .NotEq (.ref a) (.ref b)) Q E s :=
  ne_dataH (reads_list_at (N _ ma).1 rfl rfl (by simpa [W.listOf] using ra)) (reads_list_at (N _ mb).1 rfl rfl (by simpa [W.listOf] using rb)) hs hs hu (by
    simp only [PyData.eqv, p4_all]
    exact h)
/-- the value is a tuple of these words, in the ledger or in the base -/
def WIs (h₀ : Heap) (nw : Led) (x : W4) (v : Value) : Prop := (∃ T ta tb tc td n, v = .ref T ∧ (T, tup4 x.a x.b x.c x.d ta tb tc td n) ∈ nw) ∨ ∃ T ta tb tc td n, v = .ref T ∧ h₀.get? T = some (tup4 x.a x.b x.c x.d ta tb tc td n)
theorem WIs.reads {nw : Led} {h : Heap} (F : Fr h₀ L h m) (N : News h₀ L h nw) {x : W4} {v : Value} (W : WIs h₀ nw x v) : Reads h v (p4 x) [] := by
  rcases W with ⟨T, ta, tb, tc, td, n, rfl, hm⟩ | ⟨T, ta, tb, tc, td, n, rfl, hb⟩
  · exact reads4 N hm
  · exact reads_tuple_at (F.keep _ _ hb) rfl rfl (ReadsAll.cons (Reads.int _ _) (ReadsAll.cons (Reads.int _ _) (ReadsAll.cons (Reads.int _ _) (ReadsAll.cons (Reads.int _ _) ReadsAll.nil))))
theorem WIs.mono {nw nw' : Led} (hs : ∀ p ∈ nw, p ∈ nw') {x : W4} {v : Value} (W : WIs h₀ nw x v) : WIs h₀ nw' x v := by
  rcases W with ⟨T, ta, tb, tc, td, n, e, hm⟩ | W
  · exact .inl ⟨T, ta, tb, tc, td, n, e, hs _ hm⟩
  · exact .inr W
theorem reads_all {nw : Led} {h : Heap} (F : Fr h₀ L h m) (N : News h₀ L h nw) {zs : List W4} {vs : List Value} (W : AllIs (WIs h₀ nw) zs vs) : ∃ as, ReadsAll h vs (zs.map p4) as := by
  induction W with
  | nil => exact ⟨_, ReadsAll.nil⟩
  | cons hw _ ih =>
    obtain ⟨as, ha⟩ := ih
    exact ⟨_, ReadsAll.cons (hw.reads F N) ha⟩
theorem ne_words {zs : List W4} (F : Fr h₀ L s.heap m) (N : News h₀ L s.heap news) (ma : (a, listOf xs.toArray k) ∈ news) (mb : (b, listOf ys.toArray k₂) ∈ news) (wa : AllIs (WIs h₀ news) zs xs) (wb : AllIs (WIs h₀ news) zs ys)
    (hs : SeqAt.shaped (.list (zs.map p4)) = true) (hu : A.units + 64 < cLine) (h : Q (.bool false) s) : wpAny (model prog w) A (compareOp .NotEq (.ref a) (.ref b)) Q E s := by
  obtain ⟨as, ra⟩ := reads_all F N wa
  obtain ⟨bs, rb⟩ := reads_all F N wb
  exact ne_same N ma mb ra rb hs hu h
theorem l_mid {H : Heap} {G : Array GenState} {Dr : Drawn} {K : Nat} {O : OsState} {a b c d : Value} {t u : Tok} {value slice : PySem.Expr} {ops : List Value} (F : Fr h₀ L H m) (N : News h₀ L H news) (hm : (l, listOf #[a, b, c, d] k) ∈ news)
    (h : ∀ D h', Fr h₀ L h' m → News h₀ L h' ((D, listOf #[b, c] 0) :: news) → (∀ p ∈ news, p.1 < D) → Q (.ref D) ⟨h', G, Dr, K, O⟩)
    (hs : subscripted slice false (.ref l) (.ref H.objs.size) = operate ops (getItem (.ref l) (.ref H.objs.size))) (ht : ∀ r, letTemporaryGo value (.ref l) r = pure ()) :
    wpAny (model prog w) A (subscriptTail value slice (.ref l) (.ref H.objs.size)) Q E ⟨H.push { cls := .type "slice", data := .fields #[.int 1 t, .int 3 u, .none] }, G, Dr, K, O⟩ :=
  l_slice3 (s := ⟨H, G, Dr, K, O⟩) (vs := [a, b, c, d]) (zs := [b, c]) F N hm (Nat.le_of_ble_eq_true rfl) (.int _ _) (.int _ _) .none (by decide) rfl h hs ht
end
end
section
open PySem PySem.W PyProof.Rows PySem.Spec PySem.Calls
/- the sums, and the tuples of words, under names that the unifier does not unfold -/
@[irreducible] def jfl2 (os : List UInt8) : W4 := fl2 (words os)
@[irreducible] def jfl4 (os : List UInt8) : W4 := fl4 (words os)
@[irreducible] def jmix (os : List UInt8) : W4 := mixv os
theorem jfl2_eq (os : List UInt8) : jfl2 os = fl2 (words os) := by unfold jfl2; rfl
theorem jfl4_eq (os : List UInt8) : jfl4 os = fl4 (words os) := by unfold jfl4; rfl
theorem jmix_eq (os : List UInt8) : jmix os = mixv os := by unfold jmix; rfl
theorem jmix_told {os os' : List UInt8} (hb : os.length ≤ 64) (h : ToldBy os os') : jmix os' ≠ jmix os := by
  rw [jmix_eq, jmix_eq]; exact mixv_told hb h
structure TK where
  a : Tok
  b : Tok
  c : Tok
  d : Tok
  n : Nat
@[irreducible] def t4 (x : W4) (q : TK) : Obj := tup4 x.a x.b x.c x.d q.a q.b q.c q.d q.n
@[irreducible] def l4 (x : W4) (q : TK) : Obj := listOf #[wv x.a q.a, wv x.b q.b, wv x.c q.c, wv x.d q.d] q.n
theorem t4_eq (x : W4) (q : TK) : t4 x q = tup4 x.a x.b x.c x.d q.a q.b q.c q.d q.n := by unfold t4; rfl
theorem l4_eq (x : W4) (q : TK) : l4 x q = listOf #[wv x.a q.a, wv x.b q.b, wv x.c q.c, wv x.d q.d] q.n := by unfold l4; rfl
theorem in4 {news : Led} {T : Addr} {x : W4} {q : TK} (h : (T, t4 x q) ∈ news) : (T, tup4 x.a x.b x.c x.d q.a q.b q.c q.d q.n) ∈ news := by rw [t4_eq] at h; exact h
theorem inl4 {news : Led} {T : Addr} {x : W4} {q : TK} (h : (T, l4 x q) ∈ news) : (T, listOf #[wv x.a q.a, wv x.b q.b, wv x.c q.c, wv x.d q.d] q.n) ∈ news := by rw [l4_eq] at h; exact h
/-- the value is a new tuple of these words, the only new thing -/
def OutT (x : W4) (r : Value) (tl : Led) : Prop := ∃ D q, r = .ref D ∧ tl = [(D, t4 x q)]
section
variable {w : World} {f : Addr} {n : Nat} {vs : List Value} {Pre : Led → Prop} {prog p : Program} {loose : List Str} {mean : ExcName → Option Value} {mg mb : Str → Option Value} {dp un : Nat} {gd : Option (List Code)} {cn : Str} {cs : Scope} {a : Addr} {ccd : Value} {cl : List (Str × Addr)} {outer : List Env} {A₀ : Around} {base h₀ : Heap} {L : Addr} {m : Str → Option Value} {news : Led} {s : Shared} {Q E : Value → Shared → Prop}
theorem use_T {x : W4} (B : Below A₀ base outer h₀) (F : Fr h₀ L s.heap m) (X : (Mine.hd.heap_1 w.params).In h₀) (N : News h₀ L s.heap news) (T : Top p loose mean mg mb h₀) (hk : cs.kind = .function) (hp : Pre news) (hd : dp + n < recursionLimit) (hu : un + 8 * n < cLine)
    (C : Con w f n vs Pre (OutT x)) (k : ∀ D q h' tk', Fr h₀ L h' m → News h₀ L h' ((D, t4 x q) :: news) → Q (.ref D) { s with heap := h', toks := tk' }) : wpAny (model prog w) (ktrTop dp un gd cn cs L a ccd cl outer) (call (.ref f) vs) Q E s :=
  use_con C B F X N T hk hp hd hu fun r tl h' tk' F' N' lt ho => by
    obtain ⟨D, q, rfl, rfl⟩ := ho
    exact k D q h' tk' F' N'
theorem use_TO {x : W4} (B : Below A₀ base outer h₀) (F : Fr h₀ L s.heap m) (X : (Mine.hd.heap_1 w.params).In h₀) (N : News h₀ L s.heap news) (T : Top p loose mean mg mb h₀) (hk : cs.kind = .function) (hp : Pre news) (hd : dp + n < recursionLimit) (hu : un + 8 * n < cLine)
    (C : Con w f n vs Pre (OutT x)) (k : ∀ D q h' tk', Fr h₀ L h' m → News h₀ L h' ((D, t4 x q) :: news) → LCg.Off1 D news → Q (.ref D) { s with heap := h', toks := tk' }) : wpAny (model prog w) (ktrTop dp un gd cn cs L a ccd cl outer) (call (.ref f) vs) Q E s :=
  use_con C B F X N T hk hp hd hu fun r tl h' tk' F' N' lt ho => by
    obtain ⟨D, q, rfl, rfl⟩ := ho
    exact k D q h' tk' F' N' (lt _ List.mem_cons_self)
end
theorem OutW4.t {x : W4} {r : Value} {tl : Led} (h : OutW4 x r tl) : OutT x r tl := by
  obtain ⟨D, a, b, c, d, n, e, e'⟩ := h
  exact ⟨D, ⟨a, b, c, d, n⟩, e, by rw [e', t4_eq]⟩
theorem Con.mono {w : World} {f : Addr} {n : Nat} {vs : List Value} {Pre Pre' : Led → Prop} {Out Out' : Value → Led → Prop} (C : Con w f n vs Pre Out) (hp : ∀ news, Pre' news → Pre news) (ho : ∀ r tl, Out r tl → Out' r tl) : Con w f n vs Pre' Out' := by
  intro prog p loose mean mg mb dp un gd cn cs a ccd cl outer A₀ base h₀ L m news s Q E B F X N T hk hok hd hu hret
  exact C _ _ _ _ _ _ _ _ _ _ _ _ _ _ _ _ _ _ _ _ _ _ _ _ B F X N T hk (hp _ hok) hd hu fun r tl h' tk' F' N' o x => hret r tl h' tk' F' N' o (ho _ _ x)
theorem asIs {P : Led → Prop} : ∀ news, P news → P news := fun _ h => h
section
variable (w : World) (os : List UInt8) (hb : os.length ≤ 64)
include hb
theorem jon_fletcher2 (u : Tok) : Con w 64 3 [.bytes os.toArray u] none0 (OutT (jfl2 os)) := by
  rw [jfl2_eq]; exact (con_fletcher2 w os hb u).mono asIs fun _ _ => OutW4.t
theorem jon_fletcher4 (u : Tok) : Con w 69 4 [.bytes os.toArray u] none0 (OutT (jfl4 os)) := by
  rw [jfl4_eq]; exact (con_fletcher4 w os hb u).mono asIs fun _ _ => OutW4.t
theorem jon_mix (u : Tok) : Con w 90 4 [.bytes os.toArray u] none0 (OutT (jmix os)) := by
  rw [jmix_eq]; exact (con_mix w os hb u).mono asIs fun _ _ => OutW4.t
theorem jon_sum1 (u t : Tok) : Con w 97 5 [.int 1 t, .bytes os.toArray u] none0 (OutT (jfl2 os)) := by
  rw [jfl2_eq]; exact (con_sum1 w os hb u t).mono asIs fun _ _ => OutW4.t
theorem jon_sum2 (u t : Tok) : Con w 97 5 [.int 2 t, .bytes os.toArray u] none0 (OutT (jfl4 os)) := by
  rw [jfl4_eq]; exact (con_sum2 w os hb u t).mono asIs fun _ _ => OutW4.t
theorem jon_sum3 (u t : Tok) : Con w 97 5 [.int 3 t, .bytes os.toArray u] none0 (OutT (jmix os)) := by
  rw [jmix_eq]; exact (con_sum3 w os hb u t).mono asIs fun _ _ => OutW4.t
theorem jon_right1 (y : W4) (u t : Tok) (T : Addr) (q : TK) : Con w 104 10 [.int 1 t, .bytes os.toArray u, .ref T] (fun news => (T, t4 y q) ∈ news) (OutB (same4 (jfl2 os) y)) := by
  rw [jfl2_eq]; exact (con_right1 w os hb y u t T _ _ _ _ _).mono (fun _ => in4) fun _ _ h => h
theorem jon_right2 (y : W4) (u t : Tok) (T : Addr) (q : TK) : Con w 104 10 [.int 2 t, .bytes os.toArray u, .ref T] (fun news => (T, t4 y q) ∈ news) (OutB (same4 (jfl4 os) y)) := by
  rw [jfl4_eq]; exact (con_right2 w os hb y u t T _ _ _ _ _).mono (fun _ => in4) fun _ _ h => h
theorem jon_right3n (y : W4) (hne : jmix os ≠ y) (u t : Tok) (T : Addr) (q : TK) : Con w 104 10 [.int 3 t, .bytes os.toArray u, .ref T] (fun news => (T, t4 y q) ∈ news) (OutB false) := by
  rw [jmix_eq] at hne; rw [← same4_ne hne]; exact (con_right3 w os hb y u t T _ _ _ _ _).mono (fun _ => in4) fun _ _ h => h
theorem jon_rightL1 (u t : Tok) (T : Addr) (q : TK) : Con w 104 10 [.int 1 t, .bytes os.toArray u, .ref T] (fun news => (T, l4 (jfl2 os) q) ∈ news) (OutB true) := by
  rw [← same4_self (jfl2 os), jfl2_eq]; exact (con_rightL1 w os hb _ u t T _ _ _ _ _).mono (fun _ => inl4) fun _ _ h => h
theorem jon_rightL2 (u t : Tok) (T : Addr) (q : TK) : Con w 104 10 [.int 2 t, .bytes os.toArray u, .ref T] (fun news => (T, l4 (jfl4 os) q) ∈ news) (OutB true) := by
  rw [← same4_self (jfl4 os), jfl4_eq]; exact (con_rightL2 w os hb _ u t T _ _ _ _ _).mono (fun _ => inl4) fun _ _ h => h
theorem jon_rightL3 (u t : Tok) (T : Addr) (q : TK) : Con w 104 10 [.int 3 t, .bytes os.toArray u, .ref T] (fun news => (T, l4 (jmix os) q) ∈ news) (OutB true) := by
  rw [← same4_self (jmix os), jmix_eq]; exact (con_rightL3 w os hb _ u t T _ _ _ _ _).mono (fun _ => inl4) fun _ _ h => h
theorem jon_ltwo (o : Addr) (vs : List Value) (k : Nat) (hv : AllIs OctIs os vs) : Con w 128 3 [.ref o] (fun news => (o, listOf vs.toArray k) ∈ news) (OutT (jfl2 os)) := by
  rw [jfl2_eq, f2_same]; exact (con_ltwo w os hb o vs k hv).mono asIs fun _ _ => OutW4.t
theorem jon_lfour (o : Addr) (vs : List Value) (k : Nat) (hv : AllIs OctIs os vs) : Con w 123 3 [.ref o] (fun news => (o, listOf vs.toArray k) ∈ news) (OutT (jfl4 os)) := by
  rw [jfl4_eq, ← f4_same]; exact (con_lfour w os hb o vs k hv).mono asIs fun _ _ => OutW4.t
theorem jon_undone (st o : Addr) (q : TK) (vs : List Value) (k : Nat) (hv : AllIs OctIs os vs) :
    Con w 154 4 [.ref st, .ref o] (fun news => (st, t4 (jmix os) q) ∈ news ∧ (o, listOf vs.toArray k) ∈ news) (OutT mx0) := by
  have e : undv (jmix os) os = mx0 := by rw [jmix_eq]; exact undv_mixv os
  rw [← e]; exact (con_undone w (jmix os) os hb st o _ _ _ _ _ vs k hv).mono (fun _ h => ⟨in4 h.1, h.2⟩) fun _ _ => OutW4.t
end
section
variable {prog : Program} {w : World} {A : Around} {E : Value → Shared → Prop} {s : Shared} {h₀ : Heap} {L l a b : Addr} {m : Str → Option Value} {news : Led} {Q : Value → Shared → Prop} {x y : W4} {q q' : TK}
theorem eqT (N : News h₀ L s.heap news) (ma : (a, t4 x q) ∈ news) (mb : (b, t4 y q') ∈ news) (hu : A.units + 64 < cLine) (h : Q (.bool (same4 x y)) s) : wpAny (model prog w) A (compareOp .Eq (.ref a) (.ref b)) Q E s :=
  eq4 N (in4 ma) (in4 mb) hu h
theorem eqT_ne (N : News h₀ L s.heap news) (ma : (a, t4 x q) ∈ news) (mb : (b, t4 y q') ∈ news) (hu : A.units + 64 < cLine) (hne : x ≠ y) (h : Q (.bool false) s) : wpAny (model prog w) A (compareOp .Eq (.ref a) (.ref b)) Q E s :=
  eqT N ma mb hu (by rw [same4_ne hne]; exact h)
theorem ne_mx0 {ua ub uc ud : Tok} {k : Nat} (N : News h₀ L s.heap news)
    (mb : (b, ({ cls := .type "tuple", data := .seq #[nv 608135816 ua, nv 2242054355 ub, nv 320440878 uc, nv 57701188 ud] k } : Obj)) ∈ news)
    (ma : (a, t4 mx0 q) ∈ news) (hu : A.units + 64 < cLine) (h : Q (.bool false) s) : wpAny (model prog w) A (compareOp .NotEq (.ref a) (.ref b)) Q E s :=
  ne4 (x := mx0) (y := mx0) N (in4 ma) mb hu (by rw [same4_self]; exact h)
theorem l_copyT {a b c d : Value} {n : Nat} (F : Fr h₀ L s.heap m) (N : News h₀ L s.heap news) (hm : (l, ({ cls := .type "tuple", data := .seq #[a, b, c, d] n } : Obj)) ∈ news)
    (h : ∀ D c' h', Fr h₀ L h' m → News h₀ L h' ((D, listOf #[a, b, c, d] c') :: news) → Q (.ref D) { s with heap := h' }) : wpAny (model prog w) A (call (.type "list") [.ref l]) Q E s :=
  list_copyKT F N ⟨_, (N _ hm).1, rfl, n, rfl⟩ (fun D c' h' F' N' _ => h D c' h' F' N') (by rw [PySem.sizeLine_eq]; exact (show 4 ≤ 16777216 by decide))
theorem l_copy4 (F : Fr h₀ L s.heap m) (N : News h₀ L s.heap news) (hm : (l, t4 x q) ∈ news)
    (h : ∀ D q' h', Fr h₀ L h' m → News h₀ L h' ((D, l4 x q') :: news) → Q (.ref D) { s with heap := h' }) : wpAny (model prog w) A (call (.type "list") [.ref l]) Q E s :=
  l_copyT F N (in4 hm) fun D c' h' F' N' => h D ⟨q.a, q.b, q.c, q.d, c'⟩ h' F' (by rw [l4_eq]; exact N')
theorem ne_bool_same {b : Bool} (h : Q (.bool false) s) : wpAny (model prog w) A (compareOp .NotEq (.bool b) (.bool b)) Q E s := ne_bool (by cases b <;> exact h)
theorem w_led (hm : (a, t4 x q) ∈ news) : WIs h₀ news x (.ref a) := .inl ⟨a, _, _, _, _, _, rfl, in4 hm⟩
theorem cut1 {h : Heap} {a : Addr × Obj} (N : News h₀ L h (a :: news)) : News h₀ L h news := fun p hp => N p (.tail _ hp)
theorem cut3 {h : Heap} {a b c : Addr × Obj} (N : News h₀ L h (a :: b :: c :: news)) : News h₀ L h news := cut1 (cut1 (cut1 N))
theorem cut4 {h : Heap} {a b c d : Addr × Obj} (N : News h₀ L h (a :: b :: c :: d :: news)) : News h₀ L h news := cut1 (cut3 N)
end
end
section
open PySem PySem.W PyProof.Rows PySem.Spec PySem.Calls
set_option maxRecDepth 100000
set_option maxHeartbeats 0
/-- the object that an equation of a table tells -/
abbrev pick {x : Option Obj} {o : Obj} (_ : x = some o) : Obj := o
/-- a function's text as it lies among its code's parts -/
noncomputable def bareF (x : Obj) : Obj := match x.data with
  | .func f => { cls := .none, data := .func { name := f.name, qualname := f.qualname, params := f.params, body := f.body, scope := f.scope, globals := 0, closure := [], defaults := .none, kwdefaults := .none } }
  | _ => x
noncomputable def g11a (P : Params) : Obj := { cls := Value.type "tuple", data := Data.seq #[] }
noncomputable def g12a (P : Params) : Obj := { cls := Value.none, data := Data.fields #[] }
noncomputable def g13a (P : Params) : Obj := { cls := Value.type "code", data := Data.fields #[Value.str (Str.ofString "<module>") 182, Value.str (Str.ofString "<module>") 183, Value.str (Str.ofString "/claim/cut.py") 184, Value.int 1 0, Value.int 0 0, Value.int 0 0, Value.int 0 0, Value.int 0 0, Value.ref 11, Value.bool false, Value.int 181 0, Value.ref 12, Value.none, Value.none, Value.none, Value.none, Value.int 185 0, Value.int 1 0, Value.str (Str.ofString "/claim/cut.py") 186] }
noncomputable def g14a (P : Params) : Obj := { cls := Value.type "frame", slots := #[some (Value.ref 13), some (Value.ref 3), some (Value.ref 3), none, some (Value.str (Str.ofString "__main__") 164), none, some (Value.ref 0)] }
noncomputable def f2 (P : Params) : Obj := pick (rfl : (Mine.hd.heap_1 P).lookup 2 = some _)
noncomputable def f3 (P : Params) : Obj := pick (rfl : (Mine.hd.heap_1 P).lookup 3 = some _)
noncomputable def g12 (P : Params) : Obj := { cls := Value.none, data := Data.fields #[Value.int 2 0, Value.int 0 0, Value.ref 20, Value.int 7 0, Value.int 0 0, Value.ref 40, Value.int 14 0, Value.int 0 0, Value.ref 50, Value.int 20 0, Value.int 0 0, Value.ref 56, Value.int 22 0, Value.int 0 0, Value.ref 63, Value.int 33 0, Value.int 0 0, Value.ref 68, Value.int 40 0, Value.int 0 0, Value.ref 75, Value.int 42 0, Value.int 0 0, Value.ref 82, Value.int 53 0, Value.int 0 0, Value.ref 89, Value.int 61 0, Value.int 0 0, Value.ref 96, Value.int 71 0, Value.int 0 0, Value.ref 103, Value.int 74 0, Value.int 0 0, Value.ref 110, Value.int 79 0, Value.int 0 0, Value.ref 115, Value.int 82 0, Value.int 0 0, Value.ref 122, Value.int 89 0, Value.int 0 0, Value.ref 127, Value.int 96 0, Value.int 0 0, Value.ref 134, Value.int 98 0, Value.int 0 0, Value.ref 139, Value.int 100 0, Value.int 0 0, Value.ref 146, Value.int 108 0, Value.int 0 0, Value.ref 153, Value.int 116 0, Value.int 0 0, Value.ref 160, Value.int 122 0, Value.int 0 0, Value.ref 165, Value.int 128 0, Value.int 0 0, Value.ref 170] }
noncomputable def f15 (P : Params) : Obj := pick (rfl : (Mine.hd.heap_1 P).lookup 15 = some _)
noncomputable def g16 (P : Params) : Obj := { cls := Value.type "builtin_function_or_method", data := Data.fields #[Value.builtin "type.__prepare__", Value.type "type"] }
noncomputable def g17 (P : Params) : Obj := { cls := Value.type "dict", data := Data.dict #[{ hash := PyData.keyHash P (Str.ofString "__module__"), key := Value.str (Str.ofString "__module__") 196, val := Value.str (Str.ofString "treepool.faults") 187 }, { hash := PyData.keyHash P (Str.ofString "__qualname__"), key := Value.str (Str.ofString "__qualname__") 198, val := Value.str (Str.ofString "PoolFault") 197 }, { hash := PyData.keyHash P (Str.ofString "__firstlineno__"), key := Value.str (Str.ofString "__firstlineno__") 200, val := Value.int 2 199 }, { hash := PyData.keyHash P (Str.ofString "__init__"), key := Value.str (Str.ofString "__init__") 208, val := Value.ref 28 }, { hash := PyData.keyHash P (Str.ofString "__static_attributes__"), key := Value.str (Str.ofString "__static_attributes__") 210, val := Value.ref 29 }] 5 }
noncomputable def g19 (P : Params) : Obj := { cls := Value.none, data := Data.fields #[Value.int 4 0, Value.int 4 0, Value.ref 27] }
noncomputable def g20 (P : Params) : Obj := { cls := Value.type "code", data := Data.fields #[Value.str (Str.ofString "PoolFault") 191, Value.str (Str.ofString "PoolFault") 192, Value.str (Str.ofString "/claim/cut.py") 193, Value.int 2 0, Value.int 0 0, Value.int 0 0, Value.int 0 0, Value.int 0 0, Value.ref 18, Value.bool false, Value.int 181 0, Value.ref 19, Value.none, Value.none, Value.none, Value.none, Value.int 194 0, Value.int 2 0, Value.str (Str.ofString "/claim/cut.py") 195] }
noncomputable def g21 (P : Params) : Obj := { cls := Value.type "frame", slots := #[some (Value.ref 20), some (Value.ref 3), some (Value.ref 17), none, some (Value.str (Str.ofString "treepool.faults") 187), none, some (Value.ref 0)] }
noncomputable def f22 (P : Params) : Obj := pick (rfl : (Mine.hd.heap_1 P).lookup 22 = some _)
noncomputable def f24 (P : Params) : Obj := pick (rfl : (Mine.hd.heap_1 P).lookup 24 = some _)
noncomputable def f25 (P : Params) : Obj := pick (rfl : (Mine.hd.heap_1 P).lookup 25 = some _)
noncomputable def f27 (P : Params) : Obj := pick (rfl : (Mine.hd.heap_1 P).lookup 27 = some _)
noncomputable def f28 (P : Params) : Obj := pick (rfl : (Mine.hd.heap_1 P).lookup 28 = some _)
noncomputable def f29 (P : Params) : Obj := pick (rfl : (Mine.hd.heap_1 P).lookup 29 = some _)
noncomputable def f30 (P : Params) : Obj := pick (rfl : (Mine.hd.heap_1 P).lookup 30 = some _)
noncomputable def f31 (P : Params) : Obj := pick (rfl : (Mine.hd.heap_1 P).lookup 31 = some _)
noncomputable def f32 (P : Params) : Obj := pick (rfl : (Mine.hd.heap_1 P).lookup 32 = some _)
noncomputable def g33 (P : Params) : Obj := { cls := Value.type "super", data := Data.fields #[Value.ref 31, Value.ref 31, Value.ref 31] }
noncomputable def g34 (P : Params) : Obj := { cls := Value.type "builtin_function_or_method", data := Data.fields #[Value.builtin "object.__init_subclass__", Value.ref 31] }
noncomputable def f35 (P : Params) : Obj := pick (rfl : (Mine.hd.heap_1 P).lookup 35 = some _)
noncomputable def g37 (P : Params) : Obj := { cls := Value.type "dict", data := Data.dict #[{ hash := PyData.keyHash P (Str.ofString "__module__"), key := Value.str (Str.ofString "__module__") 225, val := Value.str (Str.ofString "treepool.faults") 187 }, { hash := PyData.keyHash P (Str.ofString "__qualname__"), key := Value.str (Str.ofString "__qualname__") 227, val := Value.str (Str.ofString "Misused") 226 }, { hash := PyData.keyHash P (Str.ofString "__firstlineno__"), key := Value.str (Str.ofString "__firstlineno__") 229, val := Value.int 7 228 }, { hash := PyData.keyHash P (Str.ofString "__static_attributes__"), key := Value.str (Str.ofString "__static_attributes__") 230, val := Value.ref 42 }] 4 }
noncomputable def g40 (P : Params) : Obj := { cls := Value.type "code", data := Data.fields #[Value.str (Str.ofString "Misused") 220, Value.str (Str.ofString "Misused") 221, Value.str (Str.ofString "/claim/cut.py") 222, Value.int 7 0, Value.int 0 0, Value.int 0 0, Value.int 0 0, Value.int 0 0, Value.ref 38, Value.bool false, Value.int 181 0, Value.ref 39, Value.none, Value.none, Value.none, Value.none, Value.int 223 0, Value.int 7 0, Value.str (Str.ofString "/claim/cut.py") 224] }
noncomputable def g41 (P : Params) : Obj := { cls := Value.type "frame", slots := #[some (Value.ref 40), some (Value.ref 3), some (Value.ref 37), none, some (Value.str (Str.ofString "treepool.faults") 187), none, some (Value.ref 0)] }
noncomputable def f42 (P : Params) : Obj := pick (rfl : (Mine.hd.heap_1 P).lookup 42 = some _)
noncomputable def f43 (P : Params) : Obj := pick (rfl : (Mine.hd.heap_1 P).lookup 43 = some _)
noncomputable def f44 (P : Params) : Obj := pick (rfl : (Mine.hd.heap_1 P).lookup 44 = some _)
noncomputable def g45 (P : Params) : Obj := { cls := Value.type "super", data := Data.fields #[Value.ref 44, Value.ref 44, Value.ref 44] }
noncomputable def g46 (P : Params) : Obj := { cls := Value.type "builtin_function_or_method", data := Data.fields #[Value.builtin "object.__init_subclass__", Value.ref 44] }
noncomputable def f47 (P : Params) : Obj := pick (rfl : (Mine.hd.heap_1 P).lookup 47 = some _)
noncomputable def f50 (P : Params) : Obj := pick (rfl : (Mine.hd.heap_1 P).lookup 50 = some _)
noncomputable def f51 (P : Params) : Obj := pick (rfl : (Mine.hd.heap_1 P).lookup 51 = some _)
noncomputable def f52 (P : Params) : Obj := pick (rfl : (Mine.hd.heap_1 P).lookup 52 = some _)
noncomputable def f53 (P : Params) : Obj := pick (rfl : (Mine.hd.heap_1 P).lookup 53 = some _)
noncomputable def f56 (P : Params) : Obj := pick (rfl : (Mine.hd.heap_1 P).lookup 56 = some _)
noncomputable def f57 (P : Params) : Obj := pick (rfl : (Mine.hd.heap_1 P).lookup 57 = some _)
noncomputable def f58 (P : Params) : Obj := pick (rfl : (Mine.hd.heap_1 P).lookup 58 = some _)
noncomputable def f60 (P : Params) : Obj := pick (rfl : (Mine.hd.heap_1 P).lookup 60 = some _)
noncomputable def f61 (P : Params) : Obj := pick (rfl : (Mine.hd.heap_1 P).lookup 61 = some _)
noncomputable def f63 (P : Params) : Obj := pick (rfl : (Mine.hd.heap_1 P).lookup 63 = some _)
noncomputable def f64 (P : Params) : Obj := pick (rfl : (Mine.hd.heap_1 P).lookup 64 = some _)
noncomputable def f65 (P : Params) : Obj := pick (rfl : (Mine.hd.heap_1 P).lookup 65 = some _)
noncomputable def f68 (P : Params) : Obj := pick (rfl : (Mine.hd.heap_1 P).lookup 68 = some _)
noncomputable def f69 (P : Params) : Obj := pick (rfl : (Mine.hd.heap_1 P).lookup 69 = some _)
noncomputable def f70 (P : Params) : Obj := pick (rfl : (Mine.hd.heap_1 P).lookup 70 = some _)
noncomputable def f72 (P : Params) : Obj := pick (rfl : (Mine.hd.heap_1 P).lookup 72 = some _)
noncomputable def f73 (P : Params) : Obj := pick (rfl : (Mine.hd.heap_1 P).lookup 73 = some _)
noncomputable def f75 (P : Params) : Obj := pick (rfl : (Mine.hd.heap_1 P).lookup 75 = some _)
noncomputable def f76 (P : Params) : Obj := pick (rfl : (Mine.hd.heap_1 P).lookup 76 = some _)
noncomputable def f77 (P : Params) : Obj := pick (rfl : (Mine.hd.heap_1 P).lookup 77 = some _)
noncomputable def f79 (P : Params) : Obj := pick (rfl : (Mine.hd.heap_1 P).lookup 79 = some _)
noncomputable def f80 (P : Params) : Obj := pick (rfl : (Mine.hd.heap_1 P).lookup 80 = some _)
noncomputable def f82 (P : Params) : Obj := pick (rfl : (Mine.hd.heap_1 P).lookup 82 = some _)
noncomputable def f83 (P : Params) : Obj := pick (rfl : (Mine.hd.heap_1 P).lookup 83 = some _)
noncomputable def f84 (P : Params) : Obj := pick (rfl : (Mine.hd.heap_1 P).lookup 84 = some _)
noncomputable def f86 (P : Params) : Obj := pick (rfl : (Mine.hd.heap_1 P).lookup 86 = some _)
noncomputable def f87 (P : Params) : Obj := pick (rfl : (Mine.hd.heap_1 P).lookup 87 = some _)
noncomputable def f89 (P : Params) : Obj := pick (rfl : (Mine.hd.heap_1 P).lookup 89 = some _)
noncomputable def f90 (P : Params) : Obj := pick (rfl : (Mine.hd.heap_1 P).lookup 90 = some _)
noncomputable def f91 (P : Params) : Obj := pick (rfl : (Mine.hd.heap_1 P).lookup 91 = some _)
noncomputable def f93 (P : Params) : Obj := pick (rfl : (Mine.hd.heap_1 P).lookup 93 = some _)
noncomputable def f94 (P : Params) : Obj := pick (rfl : (Mine.hd.heap_1 P).lookup 94 = some _)
noncomputable def f96 (P : Params) : Obj := pick (rfl : (Mine.hd.heap_1 P).lookup 96 = some _)
noncomputable def f97 (P : Params) : Obj := pick (rfl : (Mine.hd.heap_1 P).lookup 97 = some _)
noncomputable def f98 (P : Params) : Obj := pick (rfl : (Mine.hd.heap_1 P).lookup 98 = some _)
noncomputable def f100 (P : Params) : Obj := pick (rfl : (Mine.hd.heap_1 P).lookup 100 = some _)
noncomputable def f101 (P : Params) : Obj := pick (rfl : (Mine.hd.heap_1 P).lookup 101 = some _)
noncomputable def f103 (P : Params) : Obj := pick (rfl : (Mine.hd.heap_1 P).lookup 103 = some _)
noncomputable def f104 (P : Params) : Obj := pick (rfl : (Mine.hd.heap_1 P).lookup 104 = some _)
noncomputable def f105 (P : Params) : Obj := pick (rfl : (Mine.hd.heap_1 P).lookup 105 = some _)
noncomputable def f107 (P : Params) : Obj := pick (rfl : (Mine.hd.heap_1 P).lookup 107 = some _)
noncomputable def f108 (P : Params) : Obj := pick (rfl : (Mine.hd.heap_1 P).lookup 108 = some _)
noncomputable def f110 (P : Params) : Obj := pick (rfl : (Mine.hd.heap_1 P).lookup 110 = some _)
noncomputable def f111 (P : Params) : Obj := pick (rfl : (Mine.hd.heap_1 P).lookup 111 = some _)
noncomputable def f112 (P : Params) : Obj := pick (rfl : (Mine.hd.heap_1 P).lookup 112 = some _)
noncomputable def f115 (P : Params) : Obj := pick (rfl : (Mine.hd.heap_1 P).lookup 115 = some _)
noncomputable def f116 (P : Params) : Obj := pick (rfl : (Mine.hd.heap_1 P).lookup 116 = some _)
noncomputable def f117 (P : Params) : Obj := pick (rfl : (Mine.hd.heap_1 P).lookup 117 = some _)
noncomputable def f119 (P : Params) : Obj := pick (rfl : (Mine.hd.heap_1 P).lookup 119 = some _)
noncomputable def f120 (P : Params) : Obj := pick (rfl : (Mine.hd.heap_1 P).lookup 120 = some _)
noncomputable def f122 (P : Params) : Obj := pick (rfl : (Mine.hd.heap_1 P).lookup 122 = some _)
noncomputable def f123 (P : Params) : Obj := pick (rfl : (Mine.hd.heap_1 P).lookup 123 = some _)
noncomputable def f124 (P : Params) : Obj := pick (rfl : (Mine.hd.heap_1 P).lookup 124 = some _)
noncomputable def f127 (P : Params) : Obj := pick (rfl : (Mine.hd.heap_1 P).lookup 127 = some _)
noncomputable def f128 (P : Params) : Obj := pick (rfl : (Mine.hd.heap_1 P).lookup 128 = some _)
noncomputable def f129 (P : Params) : Obj := pick (rfl : (Mine.hd.heap_1 P).lookup 129 = some _)
noncomputable def f131 (P : Params) : Obj := pick (rfl : (Mine.hd.heap_1 P).lookup 131 = some _)
noncomputable def f132 (P : Params) : Obj := pick (rfl : (Mine.hd.heap_1 P).lookup 132 = some _)
noncomputable def f134 (P : Params) : Obj := pick (rfl : (Mine.hd.heap_1 P).lookup 134 = some _)
noncomputable def f135 (P : Params) : Obj := pick (rfl : (Mine.hd.heap_1 P).lookup 135 = some _)
noncomputable def f136 (P : Params) : Obj := pick (rfl : (Mine.hd.heap_1 P).lookup 136 = some _)
noncomputable def f139 (P : Params) : Obj := pick (rfl : (Mine.hd.heap_1 P).lookup 139 = some _)
noncomputable def f140 (P : Params) : Obj := pick (rfl : (Mine.hd.heap_1 P).lookup 140 = some _)
noncomputable def f141 (P : Params) : Obj := pick (rfl : (Mine.hd.heap_1 P).lookup 141 = some _)
noncomputable def f143 (P : Params) : Obj := pick (rfl : (Mine.hd.heap_1 P).lookup 143 = some _)
noncomputable def f144 (P : Params) : Obj := pick (rfl : (Mine.hd.heap_1 P).lookup 144 = some _)
noncomputable def f146 (P : Params) : Obj := pick (rfl : (Mine.hd.heap_1 P).lookup 146 = some _)
noncomputable def f147 (P : Params) : Obj := pick (rfl : (Mine.hd.heap_1 P).lookup 147 = some _)
noncomputable def f148 (P : Params) : Obj := pick (rfl : (Mine.hd.heap_1 P).lookup 148 = some _)
noncomputable def f150 (P : Params) : Obj := pick (rfl : (Mine.hd.heap_1 P).lookup 150 = some _)
noncomputable def f151 (P : Params) : Obj := pick (rfl : (Mine.hd.heap_1 P).lookup 151 = some _)
noncomputable def f153 (P : Params) : Obj := pick (rfl : (Mine.hd.heap_1 P).lookup 153 = some _)
noncomputable def f154 (P : Params) : Obj := pick (rfl : (Mine.hd.heap_1 P).lookup 154 = some _)
noncomputable def f155 (P : Params) : Obj := pick (rfl : (Mine.hd.heap_1 P).lookup 155 = some _)
noncomputable def f157 (P : Params) : Obj := pick (rfl : (Mine.hd.heap_1 P).lookup 157 = some _)
noncomputable def f158 (P : Params) : Obj := pick (rfl : (Mine.hd.heap_1 P).lookup 158 = some _)
noncomputable def f160 (P : Params) : Obj := pick (rfl : (Mine.hd.heap_1 P).lookup 160 = some _)
noncomputable def f161 (P : Params) : Obj := pick (rfl : (Mine.hd.heap_1 P).lookup 161 = some _)
noncomputable def f162 (P : Params) : Obj := pick (rfl : (Mine.hd.heap_1 P).lookup 162 = some _)
noncomputable def f165 (P : Params) : Obj := pick (rfl : (Mine.hd.heap_1 P).lookup 165 = some _)
noncomputable def f166 (P : Params) : Obj := pick (rfl : (Mine.hd.heap_1 P).lookup 166 = some _)
noncomputable def f167 (P : Params) : Obj := pick (rfl : (Mine.hd.heap_1 P).lookup 167 = some _)
noncomputable def f170 (P : Params) : Obj := pick (rfl : (Mine.hd.heap_1 P).lookup 170 = some _)
noncomputable def f171 (P : Params) : Obj := pick (rfl : (Mine.hd.heap_1 P).lookup 171 = some _)
noncomputable def b26f (P : Params) : Obj := bareF (f28 P)
noncomputable def b49f (P : Params) : Obj := bareF (f51 P)
noncomputable def b55f (P : Params) : Obj := bareF (f57 P)
noncomputable def b62f (P : Params) : Obj := bareF (f64 P)
noncomputable def b67f (P : Params) : Obj := bareF (f69 P)
noncomputable def b74f (P : Params) : Obj := bareF (f76 P)
noncomputable def b81f (P : Params) : Obj := bareF (f83 P)
noncomputable def b88f (P : Params) : Obj := bareF (f90 P)
noncomputable def b95f (P : Params) : Obj := bareF (f97 P)
noncomputable def b102f (P : Params) : Obj := bareF (f104 P)
noncomputable def b109f (P : Params) : Obj := bareF (f111 P)
noncomputable def b114f (P : Params) : Obj := bareF (f116 P)
noncomputable def b121f (P : Params) : Obj := bareF (f123 P)
noncomputable def b126f (P : Params) : Obj := bareF (f128 P)
noncomputable def b133f (P : Params) : Obj := bareF (f135 P)
noncomputable def b138f (P : Params) : Obj := bareF (f140 P)
noncomputable def b145f (P : Params) : Obj := bareF (f147 P)
noncomputable def b152f (P : Params) : Obj := bareF (f154 P)
noncomputable def b159f (P : Params) : Obj := bareF (f161 P)
noncomputable def b164f (P : Params) : Obj := bareF (f166 P)
noncomputable def b169f (P : Params) : Obj := bareF (f171 P)
noncomputable def hpA (P : Params) : Heap := ⟨⟨[boot_o_0 P, boot_o_1 P, boot_o_2 P, boot_o_3 P, boot_o_4 P, boot_o_5 P, boot_o_6 P, boot_o_7 P, boot_o_8 P, boot_o_9 P, boot_o_10 P, g11a P, g12a P, g13a P, g14a P]⟩, {}⟩
noncomputable def trA (P : Params) : BT := (.node (boot_o_0 P) (.node (boot_o_1 P) (.node (boot_o_3 P) (.node (boot_o_7 P) .nil .nil) (.node (g11a P) .nil .nil)) (.node (boot_o_5 P) (.node (boot_o_9 P) .nil .nil) (.node (g13a P) .nil .nil))) (.node (boot_o_2 P) (.node (boot_o_4 P) (.node (boot_o_8 P) .nil .nil) (.node (g12a P) .nil .nil)) (.node (boot_o_6 P) (.node (boot_o_10 P) .nil .nil) (.node (g14a P) .nil .nil))))
noncomputable def hpF (P : Params) : Heap := ⟨⟨[boot_o_0 P, boot_o_1 P, f2 P, f3 P, boot_o_4 P, boot_o_5 P, boot_o_6 P, boot_o_7 P, boot_o_8 P, boot_o_9 P, boot_o_10 P, g11a P, g12 P, g13a P, g14a P, f15 P, g16 P, g17 P, g11a P, g19 P, g20 P, g21 P, f22 P, g12a P, f24 P, f25 P, b26f P, f27 P, f28 P, f29 P, f30 P, f31 P, f32 P, g33 P, g34 P, f35 P, g16 P, g37 P, g11a P, g12a P, g40 P, g41 P, f42 P, f43 P, f44 P, g45 P, g46 P, f47 P, g12a P, b49f P, f50 P, f51 P, f52 P, f53 P, g12a P, b55f P, f56 P, f57 P, f58 P, g12a P, f60 P, f61 P, b62f P, f63 P, f64 P, f65 P, g12a P, b67f P, f68 P, f69 P, f70 P, g12a P, f72 P, f73 P, b74f P, f75 P, f76 P, f77 P, g12a P, f79 P, f80 P, b81f P, f82 P, f83 P, f84 P, g12a P, f86 P, f87 P, b88f P, f89 P, f90 P, f91 P, g12a P, f93 P, f94 P, b95f P, f96 P, f97 P, f98 P, g12a P, f100 P, f101 P, b102f P, f103 P, f104 P, f105 P, g12a P, f107 P, f108 P, b109f P, f110 P, f111 P, f112 P, g12a P, b114f P, f115 P, f116 P, f117 P, g12a P, f119 P, f120 P, b121f P, f122 P, f123 P, f124 P, g12a P, b126f P, f127 P, f128 P, f129 P, g12a P, f131 P, f132 P, b133f P, f134 P, f135 P, f136 P, g12a P, b138f P, f139 P, f140 P, f141 P, g12a P, f143 P, f144 P, b145f P, f146 P, f147 P, f148 P, g12a P, f150 P, f151 P, b152f P, f153 P, f154 P, f155 P, g12a P, f157 P, f158 P, b159f P, f160 P, f161 P, f162 P, g12a P, b164f P, f165 P, f166 P, f167 P, g12a P, b169f P, f170 P, f171 P]⟩, {}⟩
noncomputable def trF (P : Params) : BT := (.node (boot_o_0 P) (.node (boot_o_1 P) (.node (f3 P) (.node (boot_o_7 P) (.node (f15 P) (.node (f31 P) (.node (f63 P) (.node (f127 P) .nil .nil) .nil) (.node (b95f P) (.node (b159f P) .nil .nil) .nil)) (.node (f47 P) (.node (f79 P) (.node (f143 P) .nil .nil) .nil) (.node (f111 P) .nil .nil))) (.node (g12a P) (.node (g12a P) (.node (g12a P) (.node (f135 P) .nil .nil) .nil) (.node (f103 P) (.node (f167 P) .nil .nil) .nil)) (.node (b55f P) (.node (f87 P) (.node (f151 P) .nil .nil) .nil) (.node (f119 P) .nil .nil)))) (.node (g11a P) (.node (g19 P) (.node (f35 P) (.node (b67f P) (.node (f131 P) .nil .nil) .nil) (.node (g12a P) (.node (g12a P) .nil .nil) .nil)) (.node (f51 P) (.node (f83 P) (.node (f147 P) .nil .nil) .nil) (.node (f115 P) .nil .nil))) (.node (f27 P) (.node (f43 P) (.node (f75 P) (.node (f139 P) .nil .nil) .nil) (.node (f107 P) (.node (f171 P) .nil .nil) .nil)) (.node (g12a P) (.node (f91 P) (.node (f155 P) .nil .nil) .nil) (.node (f123 P) .nil .nil))))) (.node (boot_o_5 P) (.node (boot_o_9 P) (.node (g17 P) (.node (g33 P) (.node (f65 P) (.node (f129 P) .nil .nil) .nil) (.node (f97 P) (.node (f161 P) .nil .nil) .nil)) (.node (b49f P) (.node (b81f P) (.node (b145f P) .nil .nil) .nil) (.node (g12a P) .nil .nil))) (.node (f25 P) (.node (g41 P) (.node (f73 P) (.node (g12a P) .nil .nil) .nil) (.node (f105 P) (.node (b169f P) .nil .nil) .nil)) (.node (f57 P) (.node (f89 P) (.node (f153 P) .nil .nil) .nil) (.node (b121f P) .nil .nil)))) (.node (g13a P) (.node (g21 P) (.node (g37 P) (.node (f69 P) (.node (b133f P) .nil .nil) .nil) (.node (f101 P) (.node (f165 P) .nil .nil) .nil)) (.node (f53 P) (.node (g12a P) (.node (g12a P) .nil .nil) .nil) (.node (f117 P) .nil .nil))) (.node (f29 P) (.node (g45 P) (.node (f77 P) (.node (f141 P) .nil .nil) .nil) (.node (b109f P) .nil .nil)) (.node (f61 P) (.node (f93 P) (.node (f157 P) .nil .nil) .nil) (.node (g12a P) .nil .nil)))))) (.node (f2 P) (.node (boot_o_4 P) (.node (boot_o_8 P) (.node (g16 P) (.node (f32 P) (.node (f64 P) (.node (f128 P) .nil .nil) .nil) (.node (f96 P) (.node (f160 P) .nil .nil) .nil)) (.node (g12a P) (.node (f80 P) (.node (f144 P) .nil .nil) .nil) (.node (f112 P) .nil .nil))) (.node (f24 P) (.node (g40 P) (.node (f72 P) (.node (f136 P) .nil .nil) .nil) (.node (f104 P) (.node (g12a P) .nil .nil) .nil)) (.node (f56 P) (.node (b88f P) (.node (b152f P) .nil .nil) .nil) (.node (f120 P) .nil .nil)))) (.node (g12 P) (.node (g20 P) (.node (g16 P) (.node (f68 P) (.node (f132 P) .nil .nil) .nil) (.node (f100 P) (.node (b164f P) .nil .nil) .nil)) (.node (f52 P) (.node (f84 P) (.node (f148 P) .nil .nil) .nil) (.node (f116 P) .nil .nil))) (.node (f28 P) (.node (f44 P) (.node (f76 P) (.node (f140 P) .nil .nil) .nil) (.node (f108 P) .nil .nil)) (.node (f60 P) (.node (g12a P) (.node (g12a P) .nil .nil) .nil) (.node (f124 P) .nil .nil))))) (.node (boot_o_6 P) (.node (boot_o_10 P) (.node (g11a P) (.node (g34 P) (.node (g12a P) (.node (g12a P) .nil .nil) .nil) (.node (f98 P) (.node (f162 P) .nil .nil) .nil)) (.node (f50 P) (.node (f82 P) (.node (f146 P) .nil .nil) .nil) (.node (b114f P) .nil .nil))) (.node (b26f P) (.node (f42 P) (.node (b74f P) (.node (b138f P) .nil .nil) .nil) (.node (g12a P) (.node (f170 P) .nil .nil) .nil)) (.node (f58 P) (.node (f90 P) (.node (f154 P) .nil .nil) .nil) (.node (f122 P) .nil .nil)))) (.node (g14a P) (.node (f22 P) (.node (g11a P) (.node (f70 P) (.node (f134 P) .nil .nil) .nil) (.node (b102f P) (.node (f166 P) .nil .nil) .nil)) (.node (g12a P) (.node (f86 P) (.node (f150 P) .nil .nil) .nil) (.node (g12a P) .nil .nil))) (.node (f30 P) (.node (g46 P) (.node (g12a P) (.node (g12a P) .nil .nil) .nil) (.node (f110 P) .nil .nil)) (.node (b62f P) (.node (f94 P) (.node (f158 P) .nil .nil) .nil) (.node (b126f P) .nil .nil)))))))
abbrev eV : Env := { scope := PySem.Challenge.rw_np0174_01.row.toRowW.1.main.scope, locals := mainNs, globals := mainNs, cells := [], code := .ref 13, frame := some 14 }
abbrev cD : Code := .body (behindTheImports PySem.Challenge.rw_np0174_01.row.toRowW.1) eV
abbrev p0 : Pos := { line := 0, col := 0, endLine := 0, endCol := 0 }
abbrev pE : Pos := { line := 128, col := 0, endLine := 146, endCol := 80 }
theorem h_open : opening PySem.Challenge.rw_np0174_01.row.toRowW.1 = plainProg PySem.Challenge.rw_np0174_01.row.toRowW.1.main.scope.names := by kernel_rfl
theorem h_fence : ∀ s, fenceModules? PySem.Challenge.rw_np0174_01.row.toRowW.1 s = some s := by
  intro s
  kernel_rfl
theorem h_pre : ∀ w : World, (fun os => topGo treeTable PySem.Challenge.rw_np0174_01.row.toRowW.1 w 11 (some (.ref 6)) 12 ⟨boot_heap w.params, Array.mk [], boot_drawn, boot_toks, os⟩ (topStub PySem.Challenge.rw_np0174_01.row.toRowW.1)) = fun os => some ((⟨hpA w.params, Array.mk [], {}, 187, os⟩ : Shared), ⟨denote treeTable cD, cD, p0, [topFrame p0]⟩) := by
  rw [PySem.W.Fast.te15667345088766844465, PySem.W.Fast.te14364793385576792824, PySem.W.Fast.te11892475500146522536]
  intro w
  kernel_rfl
theorem h_block : ∀ w : World, (fun os => segRun treeTable PySem.Challenge.rw_np0174_01.row.toRowW.1 w 11 (some (.ref 6)) 1 1 (⟨hpA w.params, Array.mk [], {}, 187, os⟩ : Shared) (blockOf (behindTheImports PySem.Challenge.rw_np0174_01.row.toRowW.1) eV cD p0 [topFrame p0])) = fun os => some (.next, (⟨trA w.params, 15, {}, Array.mk [], {}, 187, os⟩ : SharedT).abs, cD, p0) := by
  rw [PySem.W.Fast.te14374325043358763698, PySem.W.Fast.te14364793385576792824]
  intro w
  kernel_rfl
theorem h_body : ∀ w : World, (fun os => segRunT treeTable PySem.Challenge.rw_np0174_01.row.toRowW.1 w 11 (some (.ref 6)) 1 1135 (⟨trA w.params, 15, {}, Array.mk [], {}, 187, os⟩ : SharedT) (piecesOf (behindTheImports PySem.Challenge.rw_np0174_01.row.toRowW.1) eV cD p0 [topFrame p0])) = fun os => some (.next, (⟨trF w.params, 172, {}, Array.mk [], {}, 422, os⟩ : SharedT), cD, pE) := by
  rw [PySem.W.Fast.te10110043849684766642, PySem.W.Fast.te14364793385576792824]
  intro w
  kernel_rfl
theorem h_fin : ∀ w : World, (fun os => topRun treeTable PySem.Challenge.rw_np0174_01.row.toRowW.1 w 11 (some (.ref 6)) 2 (⟨trF w.params, 172, {}, Array.mk [], {}, 422, os⟩ : SharedT).abs ⟨doneF .next, cD, pE, [topFrame p0]⟩) = fun os => some (⟨hpF w.params, Array.mk [], {}, 422, os⟩ : Shared) := by
  rw [PySem.W.Fast.te14082659384304107361, PySem.W.Fast.te14364793385576792824]
  intro w
  kernel_rfl
theorem h_run (w : World) (os : OsState) : topRun treeTable PySem.Challenge.rw_np0174_01.row.toRowW.1 w 11 (some (.ref 6)) (12 + (1 + (1135 + 2))) ⟨boot_heap w.params, Array.mk [], boot_drawn, boot_toks, os⟩ (topStub PySem.Challenge.rw_np0174_01.row.toRowW.1) = some (⟨hpF w.params, Array.mk [], {}, 422, os⟩ : Shared) := by
  have k := piece_app (rest := []) (segRun_of (congrFun (h_body w) os)) (piece_nil (congrFun (h_fin w) os))
  rw [List.append_nil] at k
  exact go_top (congrFun (h_pre w) os) (piece_block (congrFun (h_block w) os) k)
theorem h_size : ∀ w : World, ((boot_heap w.params).isNs mainGlobals && (Array.mk [] : Array GenState).size == 0, (boot_heap w.params).objs.size, (boot_heap w.params).nsMap mainGlobals "__annotations__") = (true, 11, some (.ref 6)) := by
  intro w
  kernel_rfl
theorem h_l0 : ∀ w : World, (fun os => (staticsOk (importedModules PySem.Challenge.rw_np0174_01.row.toRowW.1.main.body) (boot_heap w.params) (hpF w.params) && namesBound PySem.Challenge.rw_np0174_01.row.toRowW.1 (hpF w.params) && gensDone (⟨hpF w.params, Array.mk [], {}, 422, os⟩ : Shared) && laidKept (boot_heap w.params) (hpF w.params))) = fun os => true := by
  rw [PySem.W.Fast.te5923862056798008813]
  intro w
  kernel_rfl
theorem h_l1 : ∀ w : World, (fun os => seen (List.map (fun x => x.name) (recsOf Mine.hd.view_1)) (ownsOf Mine.hd.view_1) [] { (⟨hpF w.params, Array.mk [], {}, 422, os⟩ : Shared) with gens := #[] }) = fun os => expectedOf Mine.hd.view_1 := by
  rw [PySem.W.Fast.te5160383126252970620, PySem.W.Fast.te3399658132070893891, PySem.W.Fast.te5991557255702980513]
  intro w
  kernel_rfl
theorem h_l2 : ∀ w : World, (fun os => (⟨hpF w.params, Array.mk [], {}, 422, os⟩ : Shared).heap.bltView) = fun os => bltViewBooted := by
  skip
  intro w
  kernel_rfl
theorem h_l3 : ∀ w : World, (fun os => ((⟨hpF w.params, Array.mk [], {}, 422, os⟩ : Shared).heap.keysOk (looseW Mine.hd.view_1 []) (List.map (fun x => x.name) (recsOf Mine.hd.view_1)) (List.map (fun x => x.fst) (litsOf Mine.hd.view_1)) (List.map (fun x => x.name) (clssOf Mine.hd.view_1 (looseW Mine.hd.view_1 []))) && (⟨hpF w.params, Array.mk [], {}, 422, os⟩ : Shared).heap.accountedOkI (importedModules PySem.Challenge.rw_np0174_01.row.toRowW.1.main.body) && (⟨hpF w.params, Array.mk [], {}, 422, os⟩ : Shared).heap.isNs mainGlobals && (⟨hpF w.params, Array.mk [], {}, 422, os⟩ : Shared).heap.isNs builtinsNs && tablesOk Mine.hd.view_1 (⟨hpF w.params, Array.mk [], {}, 422, os⟩ : Shared).heap && (fun s => xlAt Mine.hd.view_1 [] s && recOk (RowW.records (OpenRow.toRowW PySem.Challenge.rw_np0174_01.row)) s) (⟨hpF w.params, Array.mk [], {}, 422, os⟩ : Shared) && if true = true then (⟨hpF w.params, Array.mk [], {}, 422, os⟩ : Shared).gens.size == 0 else !leftWithCleanup (⟨hpF w.params, Array.mk [], {}, 422, os⟩ : Shared).gens)) = fun os => true := by
  rw [PySem.W.Fast.te10880121769531294198, PySem.W.Fast.te821141287760084731, PySem.W.Fast.te3399658132070893891, PySem.W.Fast.te7409074990110511671, PySem.W.Fast.te13664370479719496447, PySem.W.Fast.te14722251495701143533, PySem.W.Fast.te5923862056798008813, PySem.W.Fast.te10994771534591457954]
  intro w
  kernel_rfl
theorem h_l4 : ∀ w : World, (fun os => tabsOk Mine.hd.view_1 (⟨hpF w.params, Array.mk [], {}, 422, os⟩ : Shared)) = fun os => true := by
  rw [PySem.W.Fast.te479339242167458305]
  intro w
  kernel_rfl
theorem h_l5 : ∀ w : World, (fun os => pinSeenD Mine.hd.view_1 (drecsOf Mine.hd.view_1) (⟨hpF w.params, Array.mk [], {}, 422, os⟩ : Shared)) = fun os => pinGoodD (drecsOf Mine.hd.view_1) := by
  rw [PySem.W.Fast.te16090120013241838585, PySem.W.Fast.te3247288618530077131]
  intro w
  kernel_rfl
theorem h_l6 : ∀ w : World, (fun os => plainSeenE Mine.hd.view_1 (looseW Mine.hd.view_1 []) (⟨hpF w.params, Array.mk [], {}, 422, os⟩ : Shared)) = fun os => plainGoodE Mine.hd.view_1 (looseW Mine.hd.view_1 []) := by
  rw [PySem.W.Fast.te2386780881361962483, PySem.W.Fast.te821141287760084731]
  intro w
  kernel_rfl
theorem h_l7 : ∀ w : World, (fun os => plainSeenD Mine.hd.view_1 [] (⟨hpF w.params, Array.mk [], {}, 422, os⟩ : Shared)) = fun os => plainGoodD Mine.hd.view_1 [] := by
  rw [PySem.W.Fast.te11698064438423848299]
  intro w
  kernel_rfl
theorem h_l8 : ∀ w : World, (fun os => wideSeen Mine.hd.view_1 (⟨hpF w.params, Array.mk [], {}, 422, os⟩ : Shared)) = fun os => wideGood Mine.hd.view_1 := by
  rw [PySem.W.Fast.te7317090234206586261]
  intro w
  kernel_rfl
theorem h_l9 : ∀ w : World, (fun os => clsSeenW Mine.hd.view_1 [] (⟨hpF w.params, Array.mk [], {}, 422, os⟩ : Shared)) = fun os => clsGoodW Mine.hd.view_1 [] := by
  rw [PySem.W.Fast.te7369524293546568484]
  intro w
  kernel_rfl
noncomputable abbrev HK : Hook := kHook Mine.KF [0, 2, 3, 15, 22, 24, 25, 27, 28, 29, 30, 31, 32, 35, 42, 43, 44, 47, 50, 51, 52, 53, 56, 57, 58, 60, 61, 63, 64, 65,
  68, 69, 70, 72, 73, 75, 76, 77, 79, 80, 82, 83, 84, 86, 87, 89, 90, 91, 93, 94, 96, 97, 98, 100, 101, 103, 104, 105,
  107, 108, 110, 111, 112, 115, 116, 117, 119, 120, 122, 123, 124, 127, 128, 129, 131, 132, 134, 135, 136, 139, 140,
  141, 143, 144, 146, 147, 148, 150, 151, 153, 154, 155, 157, 158, 160, 161, 162, 165, 166, 167, 170, 171] (fun _ => by kernel_rfl)
theorem h_hk : ∀ w : World, (fun os => HK.obs (⟨hpF w.params, Array.mk [], {}, 422, os⟩ : Shared)) = fun os => HK.val w := by
  skip
  intro w
  kernel_rfl
theorem h_left : LeftO PySem.Challenge.rw_np0174_01.row.prog Mine.hd.view_1 [] (fun s => xlAt Mine.hd.view_1 [] s && recOk (RowW.records (OpenRow.toRowW PySem.Challenge.rw_np0174_01.row)) s) HK.obs HK.val 2394 :=
  LeftO.of_pieces (boot_open h_open (by decide) h_fence) h_size h_run (by decide) fun w => funext fun os =>
    looks_pair (congrFun (h_l0 w) os) (looks_pair (looks_pair (congrFun (h_l1 w) os) (looks_pair (congrFun (h_l2 w) os) (looks_pair (congrFun (h_l3 w) os) (looks_pair (congrFun (h_l4 w) os) (looks_pair (congrFun (h_l5 w) os) (looks_pair (congrFun (h_l6 w) os) (looks_pair (congrFun (h_l7 w) os) (looks_pair (congrFun (h_l8 w) os) (congrFun (h_l9 w) os))))))))) (congrFun (h_hk w) os))
end
section
open PySem PySem.W PyProof.Rows PySem.Spec PySem.Calls
set_option maxRecDepth 100000
set_option maxHeartbeats 0
theorem h_res : namesResolve PySem.Challenge.rw_np0174_01.row.prog = true := by
  rw [PySem.W.Fast.te8377067652309620493]
  kernel_rfl
theorem h_road : noRoadLSs { strict := !(importedModules PySem.Challenge.rw_np0174_01.row.prog.main.body).all cThrough.contains, foot := none, bare := (["vars", "dir", "locals"] : List Str).filter (readsOut PySem.Challenge.rw_np0174_01.row.prog PySem.Challenge.rw_np0174_01.row.prog.main.body) } PySem.Challenge.rw_np0174_01.row.prog.main.body = true := by
  rw [PySem.W.Fast.te8326940854005059898]
  kernel_rfl
theorem h_looks : looksOpen PySem.Challenge.rw_np0174_01.row.prog = true := by
  unfold looksOpen
  repeat' (with_reducible refine look_both ?_ ?_)
  all_goals first | with_reducible exact h_res | with_reducible exact h_road | ((try rw [PySem.W.Fast.te17119622794617984870]); kernel_rfl)
theorem h_part : OpenRow.partSaid PySem.Challenge.rw_np0174_01.row = true := by
  unfold OpenRow.partSaid
  repeat' (with_reducible refine look_both ?_ ?_)
  all_goals first | with_reducible exact h_looks | kernel_rfl
theorem h_row : OpenRow.wellSaid PySem.Challenge.rw_np0174_01.row = true := by
  unfold OpenRow.wellSaid
  repeat' (with_reducible refine look_both ?_ ?_)
  all_goals first | with_reducible exact h_part | kernel_rfl
theorem h_said : OpenLaw.wellSaid PySem.Challenge.rw_np0174_01 = true := by
  unfold OpenLaw.wellSaid
  repeat' (with_reducible refine look_both ?_ ?_)
  all_goals first | with_reducible exact h_row | ((try rw [PySem.W.Fast.te8326940854005059898]); (try rw [PySem.W.Fast.te17119622794617984870]); (try rw [PySem.W.Fast.named_eq]); (try rw [PySem.W.Fast.te16286561074155671207]); (try rw [PySem.W.Fast.te8179353310426384613]); kernel_rfl)
end
section
open PySem PySem.W PyProof.Rows PySem.Spec PySem.Calls
set_option maxRecDepth 100000
set_option maxHeartbeats 8000000
theorem rows_L3_1 : True := by
  w_top off
  k_with_none
  (k_with "k_steps" => repeat' (first | (k_unfold; (try dsimp only)) | walk1 | (dsimp only; walk1) | (leave1; walk_say "STEP leave1"; try dsimp only) | fail "no step"))
  (k_with "k_mem" => focus ((repeat (first | exact List.mem_cons_self | with_reducible assumption | with_reducible refine List.mem_append_right _ ?_ | refine List.mem_cons_of_mem _ ?_)); done))
  (k_with "k_all" => first | (refine ne_below (by assumption) ?q9; (case q9 => ((try dsimp only); omega))) | exact off_mem (by assumption) | exact off_mem (off_lt (by assumption)))
  (k_with "lcg_off" => first | exact allLt_of (by assumption) | assumption | exact an1 (by assumption) | exact an2 (by assumption) | exact an3 (by assumption) | exact an4 (by assumption) | exact an5 (by assumption) | exact an6 (by assumption) | exact an7 (by assumption) | exact an8 (by assumption) | exact an9 (by assumption) | exact an10 (by assumption) | exact an11 (by assumption) | exact an12 (by assumption) | exact an13 (by assumption) | exact an14 (by assumption) | exact an15 (by assumption) | exact an16 (by assumption) | exact an17 (by assumption) | exact an18 (by assumption) | exact an19 (by assumption) | exact an20 (by assumption) | exact an21 (by assumption) | exact an22 (by assumption) | exact an23 (by assumption) | exact an24 (by assumption))
  (k_with "eval Constant int" => (k_dflt (refine wn_const ?_)))
  (k_with "call builtin:len" => ((k_here; (with_reducible show wpAny _ _ (call (Value.builtin "len") [Value.ref _]) _ _ _); k_dflt (refine (l_len (by k_asm) (by k_mem) (by (first | omega | (simp only [List.length_append, List.length_replicate, List.length_take, List.length_drop, List.length_cons, List.length_nil]; omega))) ?_))); intros))
  (k_with "eval ListComp" => (k_here; k_dflt (refine comp_1 (by with_unfolding_all rfl) (by rfl) (by decide) ?_)))
  (k_with "k_ne" => (refine neN ?_; (try dsimp only); with_reducible first | exact Ne.symm (And.left (an1 (by assumption))) | exact Ne.symm (And.left (an2 (by assumption))) | exact Ne.symm (And.left (an3 (by assumption))) | exact Ne.symm (And.left (an4 (by assumption))) | exact Ne.symm (And.left (an5 (by assumption))) | exact Nat.ne_of_gt (And.left (an1 (by assumption))) | exact Nat.ne_of_gt (And.left (an2 (by assumption))) | exact Nat.ne_of_gt (And.left (an3 (by assumption))) | exact Nat.ne_of_gt (an3 (by assumption)) | exact Nat.ne_of_gt (an2 (by assumption)) | exact Nat.ne_of_gt (an1 (by assumption))))
  trivial
def Keeps (news led : Led) : Prop := ∀ p ∈ news, p ∈ led
def RowsIn (rs : List NRow) (led : Led) : Prop := ∀ r ∈ rs, r.tup ∈ led ∧ r.lis ∈ led
def RowsOk (os : List UInt8) (rs : List NRow) : Prop := ∀ r ∈ rs, r.Ok os
def RowsL (D : Addr) (rs : List NRow) (c : Nat) (led : Led) : Prop := (D, listOf (List.toArray (rs.map fun r : NRow => Value.ref r.T)) c) ∈ led
theorem near_in {h₀ h : Heap} {L D : Addr} {rs : List NRow} {tl news : Led} {c : Nat} (e : tl = (D, listOf (List.toArray (rs.map fun r : NRow => Value.ref r.T)) c) :: (rs.map NRow.tup ++ rs.map NRow.lis)) (N : News h₀ L h (tl ++ news)) :
    RowsL D rs c (tl ++ news) ∧ RowsIn rs (tl ++ news) := by
  subst e
  refine ⟨List.mem_cons_self, fun r hr => ⟨?_, ?_⟩⟩
  · exact List.mem_append_left _ (List.mem_cons_of_mem _ (List.mem_append_left _ (List.mem_map.mpr ⟨r, hr, rfl⟩)))
  · exact List.mem_append_left _ (List.mem_cons_of_mem _ (List.mem_append_right _ (List.mem_map.mpr ⟨r, hr, rfl⟩)))
theorem rows_ok {os : List UInt8} {rs : List NRow} (h : ∀ r ∈ rs, r.Ok os) : RowsOk os rs := h
theorem RowsL.out {D : Addr} {rs : List NRow} {c : Nat} {led : Led} (h : RowsL D rs c led) : (D, listOf (List.toArray (rs.map fun r : NRow => Value.ref r.T)) c) ∈ led := h
section
variable {w : World} {f : Addr} {n : Nat} {vs : List Value} {Pre : Led → Prop} {prog p : Program} {loose : List Str} {mean : ExcName → Option Value} {mg mb : Str → Option Value} {dp un : Nat} {gd : Option (List Code)} {cn : Str} {cs : Scope} {a : Addr} {ccd : Value} {cl : List (Str × Addr)} {outer : List Env} {A₀ : Around} {base h₀ : Heap} {L : Addr} {m : Str → Option Value} {news : Led} {s : Shared} {Q E : Value → Shared → Prop}
theorem use_O (B : Below A₀ base outer h₀) (F : Fr h₀ L s.heap m) (X : (Mine.hd.heap_1 w.params).In h₀) (N : News h₀ L s.heap news) (T : Top p loose mean mg mb h₀) (hk : cs.kind = .function) (hp : Pre news) (hd : dp + n < recursionLimit) (hu : un + 8 * n < cLine)
    (C : Con w f n vs Pre OutOs) (k : ∀ os D ys k' h' tk', os.length ≤ 60 → os.length ≤ 64 → AllIs OctIs os ys → Fr h₀ L h' m → News h₀ L h' ((D, listOf ys.toArray k') :: news) → LCg.Off1 D news → os.length = ys.length → Q (.ref D) { s with heap := h', toks := tk' }) : wpAny (model prog w) (ktrTop dp un gd cn cs L a ccd cl outer) (call (.ref f) vs) Q E s :=
  use_con C B F X N T hk hp hd hu fun r tl h' tk' F' N' lt ho => by
    obtain ⟨os, D, ys, k', h60, rfl, rfl, hW⟩ := ho
    exact k os D ys k' h' tk' h60 (Nat.le_trans h60 (by decide)) hW F' N' (lt _ List.mem_cons_self) (AllIs.length hW)
theorem use_N {os : List UInt8} (B : Below A₀ base outer h₀) (F : Fr h₀ L s.heap m) (X : (Mine.hd.heap_1 w.params).In h₀) (N : News h₀ L s.heap news) (T : Top p loose mean mg mb h₀) (hk : cs.kind = .function) (hp : Pre news) (hd : dp + n < recursionLimit) (hu : un + 8 * n < cLine)
    (C : Con w f n vs Pre (OutNear os)) (k : ∀ D rs c tl h' tk', Fr h₀ L h' m → News h₀ L h' (tl ++ news) → RowsL D rs c (tl ++ news) → RowsIn rs (tl ++ news) → RowsOk os rs → Q (.ref D) { s with heap := h', toks := tk' }) : wpAny (model prog w) (ktrTop dp un gd cn cs L a ccd cl outer) (call (.ref f) vs) Q E s :=
  use_con C B F X N T hk hp hd hu fun r tl h' tk' F' N' _ ho => by
    obtain ⟨D, rs, c, rfl, et, ok⟩ := ho
    obtain ⟨nD, nR⟩ := near_in et N'
    exact k D rs c tl h' tk' F' N' nD nR (rows_ok ok)
theorem use_L {v : Value} (B : Below A₀ base [] h₀) (XB : (Mine.hd.heap_1 w.params).In base) (TB : Top p loose mean mg mb base) (F : Fr h₀ L s.heap m) (X : (Mine.hd.heap_1 w.params).In h₀) (X0 : h₀.get? 0 = some (PySem.W.boot_o_0 w.params)) (N : News h₀ L s.heap news) (T : Top p loose mean mg mb h₀) (hk : cs.kind = .function)
    (C : ConL w f vs (fun r => r = v)) (k : ∀ (h' : Heap) (tk' : Nat), Fr h₀ L h' m → News h₀ L h' news → Q v { s with heap := h', toks := tk' }) :
    wpAny (model prog w) (callerA.deeper (envX cn cs L a ccd cl)) (call (.ref f) vs) Q E s :=
  C _ _ _ _ _ _ _ _ _ _ _ _ _ _ _ _ _ _ _ _ B XB TB F X X0 N T hk fun r h' tk' F' N' e => by
    subst e
    exact k h' tk' F' N'
end
theorem row_at {rs : List NRow} {i : Nat} {v : Value} (h : (rs.map fun r : NRow => Value.ref r.T)[i]? = some v) : ∃ r ∈ rs, v = .ref r.T := by
  rw [List.getElem?_map, Option.map_eq_some_iff] at h
  obtain ⟨r, h1, h2⟩ := h
  exact ⟨r, List.mem_of_getElem? h1, h2.symm⟩
theorem nought_at {P : Params} {h : Heap} (X : (Mine.hd.heap_1 P).In h) : ∃ ta tb tc td n, h.get? 52 = some (tup4 0 0 0 0 ta tb tc td n) := by
  obtain ⟨ta, tb, tc, td, n, e⟩ : ∃ ta tb tc td n, (Mine.hd.heap_1 P).lookup 52 = some (tup4 0 0 0 0 ta tb tc td n) := ⟨_, _, _, _, _, rfl⟩
  exact ⟨ta, tb, tc, td, n, X 52 _ e⟩
theorem nought_base {P : Params} {h : Heap} {nw : Led} (X : (Mine.hd.heap_1 P).In h) : WIs h nw ⟨0, 0, 0, 0⟩ (.ref 52) := by
  obtain ⟨ta, tb, tc, td, n, e⟩ := nought_at X
  exact .inr ⟨52, ta, tb, tc, td, n, rfl, e⟩
theorem nought_led {h : Heap} {nw : Led} {a : Addr} {ta tb tc td : Tok} {n : Nat} (hm : (a, ({ cls := .type "tuple", data := .seq #[nv 0 ta, nv 0 tb, nv 0 tc, nv 0 td] n } : Obj)) ∈ nw) : WIs h nw ⟨0, 0, 0, 0⟩ (.ref a) := .inl ⟨a, ta, tb, tc, td, n, rfl, hm⟩
theorem rows_L3_2 : True := by
  (k_with "call ref" => ((k_here; (with_reducible show wpAny _ _ (call (Value.ref 111) _) _ _ _); k_dflt (refine use_O (by k_asm) (by k_asm) (by k_asm) (by k_asm) (by k_asm) (by first | exact rfl | assumption) (by first | exact True.intro | k_mem | exact ⟨by k_mem, by k_mem⟩) (by ktr_room) (by ktr_units) (con_octets _ _ _ _ _ (by assumption) (by omega)) ?_; intros; (try dsimp only); (try k_sweep); (try k_fold))); ((with_reducible rename LCg.Off1 _ _ => off'); (try dsimp only [LCg.Off1] at off'))))
  (k_with "call ref" => ((first | (k_here; (with_reducible show wpAny _ _ (call (Value.ref 128) _) _ _ _); k_dflt (refine use_TO (by k_asm) (by k_asm) (by k_asm) (by k_asm) (by k_asm) (by first | exact rfl | assumption) (by first | exact True.intro | k_mem | exact ⟨by k_mem, by k_mem⟩) (by ktr_room) (by ktr_units) (jon_ltwo _ _ (by assumption) _ _ _ (by assumption)) ?_; intros; (try dsimp only); (try k_sweep); (try k_fold))) | (k_here; (with_reducible show wpAny _ _ (call (Value.ref 123) _) _ _ _); k_dflt (refine use_TO (by k_asm) (by k_asm) (by k_asm) (by k_asm) (by k_asm) (by first | exact rfl | assumption) (by first | exact True.intro | k_mem | exact ⟨by k_mem, by k_mem⟩) (by ktr_room) (by ktr_units) (jon_lfour _ _ (by assumption) _ _ _ (by assumption)) ?_; intros; (try dsimp only); (try k_sweep); (try k_fold))) | (k_here; (with_reducible show wpAny _ _ (call (Value.ref 90) _) _ _ _); k_dflt (refine use_TO (by k_asm) (by k_asm) (by k_asm) (by k_asm) (by k_asm) (by first | exact rfl | assumption) (by first | exact True.intro | k_mem | exact ⟨by k_mem, by k_mem⟩) (by ktr_room) (by ktr_units) (jon_mix _ _ (by assumption) _) ?_; intros; (try dsimp only); (try k_sweep); (try k_fold)))); ((with_reducible rename LCg.Off1 _ _ => off'); (try dsimp only [LCg.Off1] at off'))))
  (k_with "call ref" => (first | (k_here; (with_reducible show wpAny _ _ (call (Value.ref 64) _) _ _ _); k_dflt (refine use_T (by k_asm) (by k_asm) (by k_asm) (by k_asm) (by k_asm) (by first | exact rfl | assumption) (by first | exact True.intro | k_mem | exact ⟨by k_mem, by k_mem⟩) (by ktr_room) (by ktr_units) (jon_fletcher2 _ _ (by assumption) _) ?_; intros; (try dsimp only); (try k_sweep); (try k_fold))) | (k_here; (with_reducible show wpAny _ _ (call (Value.ref 69) _) _ _ _); k_dflt (refine use_T (by k_asm) (by k_asm) (by k_asm) (by k_asm) (by k_asm) (by first | exact rfl | assumption) (by first | exact True.intro | k_mem | exact ⟨by k_mem, by k_mem⟩) (by ktr_room) (by ktr_units) (jon_fletcher4 _ _ (by assumption) _) ?_; intros; (try dsimp only); (try k_sweep); (try k_fold)))))
  (k_with "call ref" => (first | (k_here; (with_reducible show wpAny _ _ (call (Value.ref 97) _) _ _ _); k_dflt (refine use_TO (by k_asm) (by k_asm) (by k_asm) (by k_asm) (by k_asm) (by first | exact rfl | assumption) (by first | exact True.intro | k_mem | exact ⟨by k_mem, by k_mem⟩) (by ktr_room) (by ktr_units) (jon_sum1 _ _ (by assumption) _ _) ?_; intros; (try dsimp only); (try k_sweep); (try k_fold))) | (k_here; (with_reducible show wpAny _ _ (call (Value.ref 97) _) _ _ _); k_dflt (refine use_TO (by k_asm) (by k_asm) (by k_asm) (by k_asm) (by k_asm) (by first | exact rfl | assumption) (by first | exact True.intro | k_mem | exact ⟨by k_mem, by k_mem⟩) (by ktr_room) (by ktr_units) (jon_sum2 _ _ (by assumption) _ _) ?_; intros; (try dsimp only); (try k_sweep); (try k_fold))) | (k_here; (with_reducible show wpAny _ _ (call (Value.ref 97) _) _ _ _); k_dflt (refine use_TO (by k_asm) (by k_asm) (by k_asm) (by k_asm) (by k_asm) (by first | exact rfl | assumption) (by first | exact True.intro | k_mem | exact ⟨by k_mem, by k_mem⟩) (by ktr_room) (by ktr_units) (jon_sum3 _ _ (by assumption) _ _) ?_; intros; (try dsimp only); (try k_sweep); (try k_fold)))))
  (k_with "call ref" => (first | (k_here; (with_reducible show wpAny _ _ (call (Value.ref 97) _) _ _ _); k_dflt (refine use_V (by k_asm) (by k_asm) (by k_asm) (by k_asm) (by k_asm) (by first | exact rfl | assumption) (by first | exact True.intro | k_mem | exact ⟨by k_mem, by k_mem⟩) (by ktr_room) (by ktr_units) (con_sum0 _ _ _ _) ?_; intros; (try dsimp only); (try k_sweep); (try k_fold))) | ((with_reducible first | show wpAny _ _ (call _ [nv 0 _, _, _]) _ _ _ | show wpAny _ _ (call _ [.int 0 _, _, _]) _ _ _); (k_here; (with_reducible show wpAny _ _ (call (Value.ref 104) _) _ _ _); k_dflt (refine use_V (by k_asm) (by k_asm) (by k_asm) (by k_asm) (by k_asm) (by first | exact rfl | assumption) (by first | exact True.intro | k_mem | exact ⟨by k_mem, by k_mem⟩) (by ktr_room) (by ktr_units) (con_right0 _ _ _ _ _) ?_; intros; (try dsimp only); (try k_sweep); (try k_fold)))) | ((with_reducible first | show wpAny _ _ (call _ [nv 1 _, _, _]) _ _ _ | show wpAny _ _ (call _ [.int 1 _, _, _]) _ _ _); (k_here; (with_reducible show wpAny _ _ (call (Value.ref 104) _) _ _ _); k_dflt (refine use_V (by k_asm) (by k_asm) (by k_asm) (by k_asm) (by k_asm) (by first | exact rfl | assumption) (by first | exact True.intro | k_mem | exact ⟨by k_mem, by k_mem⟩) (by ktr_room) (by ktr_units) (jon_right1 _ _ (by assumption) _ _ _ _ _) ?_; intros; (try dsimp only); (try k_sweep); (try k_fold)))) | ((with_reducible first | show wpAny _ _ (call _ [nv 2 _, _, _]) _ _ _ | show wpAny _ _ (call _ [.int 2 _, _, _]) _ _ _); (k_here; (with_reducible show wpAny _ _ (call (Value.ref 104) _) _ _ _); k_dflt (refine use_V (by k_asm) (by k_asm) (by k_asm) (by k_asm) (by k_asm) (by first | exact rfl | assumption) (by first | exact True.intro | k_mem | exact ⟨by k_mem, by k_mem⟩) (by ktr_room) (by ktr_units) (jon_right2 _ _ (by assumption) _ _ _ _ _) ?_; intros; (try dsimp only); (try k_sweep); (try k_fold)))) | ((with_reducible first | show wpAny _ _ (call _ [nv 3 _, _, _]) _ _ _ | show wpAny _ _ (call _ [.int 3 _, _, _]) _ _ _); (k_here; (with_reducible show wpAny _ _ (call (Value.ref 104) _) _ _ _); k_dflt (refine use_V (by k_asm) (by k_asm) (by k_asm) (by k_asm) (by k_asm) (by first | exact rfl | assumption) (by first | exact True.intro | k_mem | exact ⟨by k_mem, by k_mem⟩) (by ktr_room) (by ktr_units) (jon_right3n _ _ (by assumption) _ (by assumption) _ _ _ _) ?_; intros; (try dsimp only); (try k_sweep); (try k_fold))))))
  (k_with "call ref" => (first | ((with_reducible first | show wpAny _ _ (call _ [nv 1 _, _, _]) _ _ _ | show wpAny _ _ (call _ [.int 1 _, _, _]) _ _ _); (k_here; (with_reducible show wpAny _ _ (call (Value.ref 104) _) _ _ _); k_dflt (refine use_V (by k_asm) (by k_asm) (by k_asm) (by k_asm) (by k_asm) (by first | exact rfl | assumption) (by first | exact True.intro | k_mem | exact ⟨by k_mem, by k_mem⟩) (by ktr_room) (by ktr_units) (jon_rightL1 _ _ (by assumption) _ _ _ _) ?_; intros; (try dsimp only); (try k_sweep); (try k_fold)))) | ((with_reducible first | show wpAny _ _ (call _ [nv 2 _, _, _]) _ _ _ | show wpAny _ _ (call _ [.int 2 _, _, _]) _ _ _); (k_here; (with_reducible show wpAny _ _ (call (Value.ref 104) _) _ _ _); k_dflt (refine use_V (by k_asm) (by k_asm) (by k_asm) (by k_asm) (by k_asm) (by first | exact rfl | assumption) (by first | exact True.intro | k_mem | exact ⟨by k_mem, by k_mem⟩) (by ktr_room) (by ktr_units) (jon_rightL2 _ _ (by assumption) _ _ _ _) ?_; intros; (try dsimp only); (try k_sweep); (try k_fold)))) | ((with_reducible first | show wpAny _ _ (call _ [nv 3 _, _, _]) _ _ _ | show wpAny _ _ (call _ [.int 3 _, _, _]) _ _ _); (k_here; (with_reducible show wpAny _ _ (call (Value.ref 104) _) _ _ _); k_dflt (refine use_V (by k_asm) (by k_asm) (by k_asm) (by k_asm) (by k_asm) (by first | exact rfl | assumption) (by first | exact True.intro | k_mem | exact ⟨by k_mem, by k_mem⟩) (by ktr_room) (by ktr_units) (jon_rightL3 _ _ (by assumption) _ _ _ _) ?_; intros; (try dsimp only); (try k_sweep); (try k_fold))))))
  (k_with "subscriptTail Name Constant ref int" => (k_here; (with_reducible show wpAny _ _ (subscriptTail _ _ (Value.ref _) (Value.int _ _)) _ _ _); k_dflt (refine (l_item (vs := [_, _, _, _]) (by k_asm) (by k_mem) (by decide) (by exact rfl) ?_))))
  (k_with "call type:list" => ((first | (k_here; (with_reducible show wpAny _ _ (call (Value.type "list") [Value.ref _]) _ _ _); k_dflt (refine (l_copy4 (by k_asm) (by k_asm) (by with_reducible k_mem) ?_))) | (k_here; (with_reducible show wpAny _ _ (call (Value.type "list") [Value.ref _]) _ _ _); k_dflt (refine (l_copyT (by k_asm) (by k_asm) (by k_mem) ?_)))); intros; (try k_sweep)))
  (k_with "subscriptTail Name Name ref int" => first | (k_here; (with_reducible show wpAny _ _ (subscriptTail _ _ (Value.ref _) (Value.int 0 _)) _ _ _); k_dflt (refine (l_item (i := 0) (vs := [_, _, _, _]) (by k_asm) (by k_mem) (by decide) (by exact rfl) ?_))) | (k_here; (with_reducible show wpAny _ _ (subscriptTail _ _ (Value.ref _) (Value.int 1 _)) _ _ _); k_dflt (refine (l_item (i := 1) (vs := [_, _, _, _]) (by k_asm) (by k_mem) (by decide) (by exact rfl) ?_))) | (k_here; (with_reducible show wpAny _ _ (subscriptTail _ _ (Value.ref _) (Value.int 2 _)) _ _ _); k_dflt (refine (l_item (i := 2) (vs := [_, _, _, _]) (by k_asm) (by k_mem) (by decide) (by exact rfl) ?_))) | (k_here; (with_reducible show wpAny _ _ (subscriptTail _ _ (Value.ref _) (Value.int 3 _)) _ _ _); k_dflt (refine (l_item (i := 3) (vs := [_, _, _, _]) (by k_asm) (by k_mem) (by decide) (by exact rfl) ?_))))
  (k_with "call builtin:all" => ((k_here; (with_reducible show wpAny _ _ (call (Value.builtin "all") [Value.ref _]) _ _ _); k_dflt (refine (LSm.all_bools (vs := [_, _, _, _]) (by k_asm) (by k_asm) (by rfl) (l_is (by k_asm) (by k_mem)) (.cons _ (.cons _ (.cons _ (.cons _ .nil)))) ?_))); intros))
  trivial
def JA (led : Led) (i : Nat) (ys : List Value) (nw : Led) : Prop := nw = led ∧ ys = List.replicate i (.bool true)
theorem rows_L3_3 : True := by
  (k_with "compareOp NotEq bool bool" => (k_here; (with_reducible refine ne_bool_same ?_)))
  (k_with "compareOp Eq ref ref" => ((k_here; (with_reducible show wpAny _ _ (compareOp CmpOp.Eq (Value.ref _) (Value.ref _)) _ _ _); k_dflt (refine (eqT (by k_asm) (by k_mem) (by k_mem) (by ktr_units) ?_))); (rename News _ _ _ _ => lQ; have lQ' := cut1 lQ; clear lQ)))
  (k_with "compareOp Eq ref ref" => ((k_here; (with_reducible show wpAny _ _ (compareOp CmpOp.Eq (Value.ref _) (Value.ref _)) _ _ _); k_dflt (refine (eqT_ne (by k_asm) (by k_mem) (by k_mem) (by ktr_units) (by with_reducible assumption) ?_))); (rename News _ _ _ _ => lQ; have lQ' := cut1 lQ; clear lQ)))
  (k_with "exec For Tuple Call cons nil" => (k_here; (rename Fr _ _ _ _ => lF'); (with_unfolding_all refine' for_any lF' ?_; k_whole)))
  (k_with "call ref" => (k_here; (with_reducible show wpAny _ _ (call (Value.ref 154) _) _ _ _); k_dflt (refine use_T (by k_asm) (by k_asm) (by k_asm) (by k_asm) (by k_asm) (by first | exact rfl | assumption) (by first | exact True.intro | k_mem | exact ⟨by k_mem, by k_mem⟩) (by ktr_room) (by ktr_units) (jon_undone _ _ (by assumption) _ _ _ _ _ (by assumption)) ?_; intros; (try dsimp only); (try k_sweep); (try k_fold))))
  trivial
theorem jon_near (w : World) {ns : List Int} {os : List UInt8} (sc o : Addr) (ss vs : List Value) (k k₂ : Nat) (hs : IntsAre ss ns) (hv : AllIs OctIs os vs) (hn : ns.length ≤ 63) (hb : os.length ≤ 60) :
    Con w 166 10 [.ref sc, .ref o] (fun news => (sc, listOf ss.toArray k₂) ∈ news ∧ (o, listOf vs.toArray k) ∈ news) (OutNear os) := con_near w ns hn os hb sc o ss vs k k₂ hs hv

theorem rows_L3_4 : True := by
  (k_with "call ref" => (k_here; (with_reducible show wpAny _ _ (call (Value.ref 166) _) _ _ _); k_dflt (refine use_N (by k_asm) (by k_asm) (by k_asm) (by k_asm) (by k_asm) (by first | exact rfl | assumption) (by first | exact True.intro | k_mem | exact ⟨by k_mem, by k_mem⟩) (by ktr_room) (by ktr_units) (jon_near _ _ _ _ _ _ _ (by assumption) (by assumption) (by omega) (by assumption)) ?_; intros; (try dsimp only); (try k_sweep); (try k_fold))))
  (k_with "call ref" => ((first | (k_here; (with_reducible show wpAny _ _ (call (Value.ref 161) _) _ _ _); k_dflt (refine (use_L (by k_asm) (by k_asm) (by k_asm) (by k_asm) (by k_asm) (by with_reducible assumption) (by k_asm) (by k_asm) (by first | exact rfl | assumption) (con_refused4 _ _ _ _) ?_))) | (k_here; (with_reducible show wpAny _ _ (call (Value.ref 161) _) _ _ _); k_dflt (refine (use_L (by k_asm) (by k_asm) (by k_asm) (by k_asm) (by k_asm) (by with_reducible assumption) (by k_asm) (by k_asm) (by first | exact rfl | assumption) (con_refusedm _ _ _ _) ?_)))); intros; (try dsimp only); (try k_sweep); (try k_fold)))
  (k_with "call type:bytes" => ((k_here; (with_reducible show wpAny _ _ (call (Value.type "bytes") [Value.ref _]) _ _ _); k_dflt (refine (l_bytes (by with_unfolding_all rfl) (by k_asm) (by k_asm) (by k_mem) (by assumption) (by (first | omega | (simp only [List.length_append, List.length_replicate, List.length_take, List.length_drop, List.length_cons, List.length_nil]; omega))) ?_))); intros))
  (k_with "compareOp NotEq ref ref" => ((k_here; (with_reducible show wpAny _ _ (compareOp CmpOp.NotEq (Value.ref _) (Value.ref _)) _ _ _); k_dflt (refine (ne_words (zs := [jfl2 _, jfl4 _]) (by k_asm) (by k_asm) (by k_mem) (by k_mem) (.cons (w_led (by k_mem)) (.cons (w_led (by k_mem)) .nil)) (.cons (w_led (by k_mem)) (.cons (w_led (by k_mem)) .nil)) (by exact rfl) (by ktr_units) ?_))); (rename News _ _ _ _ => lQ; have lQ' := cut1 lQ; clear lQ); (rename News _ _ _ _ => lQ; have lQ' := cut1 lQ; clear lQ); (rename News _ _ _ _ => lQ; have lQ' := cut1 lQ; clear lQ); (rename News _ _ _ _ => lQ; have lQ' := cut1 lQ; clear lQ)))
  (k_with "compareOp NotEq ref ref" => ((k_here; (with_reducible show wpAny _ _ (compareOp CmpOp.NotEq (Value.ref _) (Value.ref _)) _ _ _); k_dflt (refine (ne_words (zs := [⟨0, 0, 0, 0⟩, jfl2 _, jfl4 _, jmix _]) (by k_asm) (by k_asm) (by k_mem) (by k_mem) (.cons (nought_base (by k_asm)) (.cons (w_led (by k_mem)) (.cons (w_led (by k_mem)) (.cons (w_led (by k_mem)) .nil)))) (.cons (nought_led (by k_mem)) (.cons (w_led (by k_mem)) (.cons (w_led (by k_mem)) (.cons (w_led (by k_mem)) .nil)))) (by exact rfl) (by ktr_units) ?_))); (rename News _ _ _ _ => lQ; have lQ' := cut1 lQ; clear lQ); (rename News _ _ _ _ => lQ; have lQ' := cut1 lQ; clear lQ); (rename News _ _ _ _ => lQ; have lQ' := cut1 lQ; clear lQ); (rename News _ _ _ _ => lQ; have lQ' := cut1 lQ; clear lQ)))
  (k_with "compareOp NotEq ref ref" => ((k_here; (with_reducible show wpAny _ _ (compareOp CmpOp.NotEq (Value.ref _) (Value.ref _)) _ _ _); k_dflt (refine (ne_mx0 (by k_asm) (by with_reducible k_mem) (by with_reducible k_mem) (by ktr_units) ?_))); (rename News _ _ _ _ => lQ; have lQ' := cut1 lQ; clear lQ); (rename News _ _ _ _ => lQ; have lQ' := cut1 lQ; clear lQ); (rename News _ _ _ _ => lQ; have lQ' := cut1 lQ; clear lQ)))
  (k_with "subscriptTail Name Slice ref ref" => ((k_here; (with_reducible show wpAny _ _ (subscriptTail _ (PySem.Expr.Slice (some _) (some _) none _) (Value.ref _) (Value.ref _)) _ _ _); k_dflt (refine (l_mid (by k_asm) (by k_asm) (by k_mem) ?_ (by with_unfolding_all rfl) (by kmk_pure)))); intros; rename_i l1; clear l1; (try k_sweep)))
  trivial
theorem off3_cons {I C D T : Addr} {o oI oC oD : Obj} {nw : Led} (h : LCg.Off1 T ((I, oI) :: (C, oC) :: (D, oD) :: nw)) (off : LCg.Off3 I C D nw) : LCg.Off3 I C D ((T, o) :: nw) := LCg.Off3.of fun p hp => by
  rcases List.mem_cons.mp hp with rfl | hp
  · exact ⟨Ne.symm h.1, Ne.symm h.2.1, Ne.symm h.2.2.1⟩
  · exact off.mem p hp
/-- the turns of the four sums; the octets are told by the list of them -/
def JS {os : List UInt8} {vs : List Value} (_ : AllIs OctIs os vs) (led : Led) : Nat → List Value → Led → Prop
  | 0, ys, nw => nw = led ∧ ys = []
  | 1, ys, nw => nw = led ∧ ys = [.ref 52]
  | 2, ys, nw => ∃ T q, nw = (T, t4 (jfl2 os) q) :: led ∧ ys = [.ref 52, .ref T]
  | 3, ys, nw => ∃ T q U r, nw = (U, t4 (jfl4 os) r) :: (T, t4 (jfl2 os) q) :: led ∧ ys = [.ref 52, .ref T, .ref U]
  | _, ys, nw => ∃ T q U r V v, nw = (V, t4 (jmix os) v) :: (U, t4 (jfl4 os) r) :: (T, t4 (jfl2 os) q) :: led ∧ ys = [.ref 52, .ref T, .ref U, .ref V]
theorem kf_zero {P : Params} {h : Heap} (X : (KF P).In h) : h.get? 0 = some (PySem.W.boot_o_0 P) := X 0 _ rfl
theorem h39_none (P : Params) : (Mine.hd.heap_1 P).lookup 0 = none := by kernel_rfl
theorem kf_out {P : Params} {h : Heap} (X : (KF P).In h) : (Mine.hd.heap_1 P).In h := by
  intro a o e
  refine X a o ?_
  unfold KF
  rw [List.lookup_cons]
  by_cases ha : a = 0
  · subst ha
    rw [h39_none] at e
    cases e
  · have : (a == 0) = false := by simpa using ha
    rw [this]
    exact e
theorem law_post (ns : List Int) : PySem.Challenge.rw_np0174_01.row.claim.post [ofPy (PyData.list (ns.map PyData.int))] (.bool true) [ofPy (PyData.list (ns.map PyData.int))] = true := postW_of (by wrow_shape) (by wtm_val) (beq_self_eq_true _)
theorem lw : PySem.Challenge.rw_np0174_01.Holds := by
  have hfill : PySem.Challenge.rw_np0174_01 = PySem.Challenge.rw_np0174_01 → Mine.hd.heap_1 = Mine.hd.heap_1 → True := by
    k_fill
    intros
    trivial
  clear hfill
  w_on
  refine holds_law h_said fun sd => ?_
  refine holds_open (q := Mine.hd.view_1) (loose := []) (Xt := fun s => xlAt Mine.hd.view_1 [] s && recOk (RowW.records (OpenRow.toRowW PySem.Challenge.rw_np0174_01.row)) s) (XP := XL Mine.hd.view_1 []) (Yf := Hook.obs HK) (Ya := Hook.val HK) (YP := Hook.says HK) (N := 2394) ?hl (Hook.of HK) (Hook.keeps HK) (fun s e => xl_of s (Bool.and_eq_true_iff.mp e).1) XL.keeps (by rfl) (by rfl) (by rfl) (fun s e => recFacts_of (Bool.and_eq_true_iff.mp e).2) (by rfl) (by first | assumption | decide +kernel) (by decide +kernel) ⟨rfl, rfl, rfl, rfl, rfl, by decide +kernel⟩ ?hw ?hc
  case hl => exact h_left
  case hw => w_witness2
  clear sd
  w_strict (
    intro w s₀ s₁ mg mb G Y fa o pm cd doc dV kV ho hd hcd hD hmg hg args vals as hpre hlay hrd hwl hlo
    have KX0 := kIn_of Y
    have O0 := kf_zero KX0
    have KX := kf_out KX0
    clear KX0 Y
    k_behind G ho hd hcd hD hmg hpre hlay hrd hwl hlo cd
    (all_goals try k_fold)
    k_steps
    (with_reducible rename Fr _ _ _ _ => lF)
    (with_reducible rename News _ _ _ _ => lN)
    (with_reducible rename AllIs _ _ _ => lO)
    k_dflt (refine halt (blk_range (n := 4) (by rfl) (by k_asm) (by decide) (by decide) (by rw [PySem.sizeLine_eq]; omega) (by decide) (by rfl) (by rfl) lF lN (JS lO _) ⟨rfl, rfl⟩ ?_ ?_))
    -- T<
    · rintro i t ys nw I oI C oC D m₂ h tk s₂ E' hi hJ hC h1 F₁ N₁ off ne
      clear lF lN
      rcases i with _ | _ | _ | _ | i
      · obtain ⟨rfl, rfl⟩ := hJ
        have e : (0 : Int) + ((0 : Nat) : Int) * 1 = 0 := by decide
        rw [e] at h1
        k_steps
        (try dsimp only)
        exact halt ⟨_, _, _, rfl, by k_asm, by k_asm, off, trivial, rfl, rfl⟩
      · obtain ⟨rfl, rfl⟩ := hJ
        have e : (0 : Int) + ((0 + 1 : Nat) : Int) * 1 = 1 := by decide
        rw [e] at h1
        k_steps
        (try dsimp only)
        (with_reducible rename News _ _ _ _ => lN)
        (refine' halt ⟨_, _, _, rfl, ?F9, drop lN ?s9, off3_cons ?o9 off, trivial, ⟨_, _, rfl, rfl⟩⟩; (case o9 => with_reducible assumption); (case F9 => k_asm); (case s9 => kcf_all))
      · obtain ⟨T, q, rfl, rfl⟩ := hJ
        have e : (0 : Int) + ((0 + 1 + 1 : Nat) : Int) * 1 = 2 := by decide
        rw [e] at h1
        k_steps
        (try dsimp only)
        (with_reducible rename News _ _ _ _ => lN)
        (refine' halt ⟨_, _, _, rfl, ?F9, drop lN ?s9, off3_cons ?o9 off, trivial, ⟨_, _, _, _, rfl, rfl⟩⟩; (case o9 => with_reducible assumption); (case F9 => k_asm); (case s9 => kcf_all))
      · obtain ⟨T, q, U, r, rfl, rfl⟩ := hJ
        have e : (0 : Int) + ((0 + 1 + 1 + 1 : Nat) : Int) * 1 = 3 := by decide
        rw [e] at h1
        k_steps
        (try dsimp only)
        (with_reducible rename News _ _ _ _ => lN)
        (refine' halt ⟨_, _, _, rfl, ?F9, drop lN ?s9, off3_cons ?o9 off, trivial, ⟨_, _, _, _, _, _, rfl, rfl⟩⟩; (case o9 => with_reducible assumption); (case F9 => k_asm); (case s9 => kcf_all))
      · omega
    -- T>
    · rintro ys nw ⟨T, q, U, r, V, v, rfl, rfl⟩
      refine back_none fun D h tk F₁ N₁ o1 => ?_
      clear lF lN
      k_steps
      (with_reducible rename Fr _ _ _ _ => lF)
      (with_reducible rename News _ _ _ _ => lN)
      (with_reducible rename RowsIn _ _ => lR)
      (with_reducible rename RowsOk _ _ => lK)
      (with_reducible rename RowsL _ _ _ _ => lD)
      refine halt (for_list (by rfl) lF lN lD.out (fun _ _ nw => nw = _) rfl ?_ ?_ ?_)
      · rintro i m nw rfl
        exact lD.out
      -- U<
      · rintro i v m₁ nw h tk I oI hv rfl F₁ N₁ off
        obtain ⟨⟨T, l, os2, vs2, b, n2, k2⟩, hr, rfl⟩ := row_at hv
        obtain ⟨r1, r2⟩ := lR _ hr
        obtain ⟨r3, r4, r5⟩ := lK _ hr
        dsimp only [NRow.tup, NRow.lis] at r1 r2 r3 r4 r5
        replace r4 := Nat.le_trans r4 (by decide : 61 ≤ 64)
        clear lF lN lR lK lD
        cases b with
        | false =>
          clear r5
          k_steps
          (with_reducible rename News _ _ _ _ => lN)
          (refine' tnext ?F9 lN _ ?I9 ?s9 off rfl; (case F9 => k_asm); (case I9 => k_mem); (case s9 => (intro p hp; repeat (first | exact hp | refine List.mem_cons_of_mem _ ?_))))
        | true =>
          have hne := jmix_told (by assumption) (r5 rfl)
          clear r5
          k_steps
          (with_reducible rename News _ _ _ _ => lN)
          (refine' tnext ?F9 lN _ ?I9 ?s9 off rfl; (case F9 => k_asm); (case I9 => k_mem); (case s9 => (intro p hp; repeat (first | exact hp | refine List.mem_cons_of_mem _ ?_))))
      -- U>
      · rintro m₁ nw h tk rfl F₁ N₁
        clear lF lN lR lK lD
        k_steps
        (with_reducible rename Fr _ _ _ _ => lF)
        (with_reducible rename News _ _ _ _ => lN)
        k_dflt (refine halt (blk_range (n := 4) (by rfl) (by k_asm) (by decide) (by decide) (by rw [PySem.sizeLine_eq]; omega) (by decide) (by rfl) (by rfl) lF lN (JA _) ⟨rfl, rfl⟩ ?_ ?_))
        · rintro i t ys nw I oI C oC D m₂ h tk s₂ E' hi ⟨rfl, hJ⟩ hC h1 F₁ N₁ off ne
          subst hJ
          clear lF lN
          rcases i with _ | _ | _ | _ | i
          · have e : (0 : Int) + ((0 : Nat) : Int) * 1 = 0 := by decide
            rw [e] at h1
            k_steps
            (try dsimp only)
            (with_reducible rename News _ _ _ _ => lN)
            (refine' halt ⟨_, _, _, rfl, ?F9, drop lN ?s9, off, trivial, rfl, rfl⟩; (case F9 => k_asm); (case s9 => (intro p hp; repeat (first | exact hp | refine List.mem_cons_of_mem _ ?_))))
          · have e : (0 : Int) + ((0 + 1 : Nat) : Int) * 1 = 1 := by decide
            rw [e] at h1
            k_steps
            (try dsimp only)
            (with_reducible rename News _ _ _ _ => lN)
            (refine' halt ⟨_, _, _, rfl, ?F9, drop lN ?s9, off, trivial, rfl, rfl⟩; (case F9 => k_asm); (case s9 => (intro p hp; repeat (first | exact hp | refine List.mem_cons_of_mem _ ?_))))
          · have e : (0 : Int) + ((0 + 1 + 1 : Nat) : Int) * 1 = 2 := by decide
            rw [e] at h1
            k_steps
            (try dsimp only)
            (with_reducible rename News _ _ _ _ => lN)
            (refine' halt ⟨_, _, _, rfl, ?F9, drop lN ?s9, off, trivial, rfl, rfl⟩; (case F9 => k_asm); (case s9 => (intro p hp; repeat (first | exact hp | refine List.mem_cons_of_mem _ ?_))))
          · have e : (0 : Int) + ((0 + 1 + 1 + 1 : Nat) : Int) * 1 = 3 := by decide
            rw [e] at h1
            k_steps
            (try dsimp only)
            (with_reducible rename News _ _ _ _ => lN)
            (refine' halt ⟨_, _, _, rfl, ?F9, drop lN ?s9, off, trivial, rfl, rfl⟩; (case F9 => k_asm); (case s9 => (intro p hp; repeat (first | exact hp | refine List.mem_cons_of_mem _ ?_))))
          · omega
        · rintro ys nw ⟨rfl, hJ⟩
          replace hJ : ys = [.bool true, .bool true, .bool true, .bool true] := hJ
          subst hJ
          refine back_none fun D h tk F₁ N₁ o1 => ?_
          clear lF lN
          k_steps
          (rw [show ([true, true, true, true].all id) = true from rfl])
          (with_reducible rename Fr _ _ _ _ => lF)
          refine' goodW_bool lF ?g9 (raisesW_false ?n9) ?p9 ?o9
          case g9 => assumption
          case n9 => wrow_none_raised
          case p9 => exact law_post _
          case o9 => rfl)
end
end Mine
theorem PySem.Challenge.cw_np0174_01_holds : PySem.Challenge.rw_np0174_01.Holds := by
  exact Mine.lw
