import PyProof.Rows.All
import Wide.All
import OpenK.AllK
import Wide.FinOn
import Lean
import PySem.Challenge.RW_nt0089_01
open PySem PySem.Spec PySem.Calls PySem.W PyProof.Rows
set_option Elab.async false

namespace Nt89
set_option maxRecDepth 100000 in
set_option maxHeartbeats 8000000 in
open_top hd for PySem.Challenge.rw_nt0089_01
end Nt89

namespace Nt89
theorem fill0 : PySem.Challenge.rw_nt0089_01 = PySem.Challenge.rw_nt0089_01 ∧ Nt89.hd.heap_39 = Nt89.hd.heap_39 := by
  w_top off
  k_fill
  exact ⟨rfl, rfl⟩

section
variable {prog : Program} {w : World} {A : Around} {E : Value → Shared → Prop} {s : Shared} {h₀ : Heap} {L D : Addr} {news : List (Addr × Obj)} {n : Nat} {a b k : Int} {ta tb t u : Tok}
theorem read0 {value slice : PySem.Expr} {Q : Value → Shared → Prop} (N : News h₀ L s.heap news) (hm : (D, listOf #[.int a ta, .int b tb] n) ∈ news) (hk : k = 0) (h : ∀ t, Q (.int a t) s)
    (hs : subscripted slice false (.ref D) (.int k u) = operate [.ref D, .int k u] (getItem (.ref D) (.int k u)) := by with_unfolding_all rfl) :
    wpAny (model prog w) A (subscriptTail value slice (.ref D) (.int k u)) Q E s := by
  subst hk
  exact ksa_sub (vs := [.int a ta, .int b tb]) (ns := [a, b]) (n := n) N hm (.cons a ta (.cons b tb .nil)) (by decide) (by simp) (by decide) h hs
theorem read1 {value slice : PySem.Expr} {Q : Value → Shared → Prop} (N : News h₀ L s.heap news) (hm : (D, listOf #[.int a ta, .int b tb] n) ∈ news) (hk : k = 1) (h : ∀ t, Q (.int b t) s)
    (hs : subscripted slice false (.ref D) (.int k u) = operate [.ref D, .int k u] (getItem (.ref D) (.int k u)) := by with_unfolding_all rfl) :
    wpAny (model prog w) A (subscriptTail value slice (.ref D) (.int k u)) Q E s := by
  subst hk
  exact ksa_sub (vs := [.int a ta, .int b tb]) (ns := [a, b]) (n := n) N hm (.cons a ta (.cons b tb .nil)) (by decide) (by simp) (by decide) h hs
end
theorem np {a b : Int} (h0 : 0 < b) (h1 : b ≤ 4294967296) : Builtin.divisionGoesByPylong a b = false := by
  refine PyProof.noPylong_of_log2 ?_
  have h : b.natAbs < 2 ^ 40 := by omega
  have := (Nat.log2_lt (by omega)).mpr h
  omega
theorem bits64 {a : Int} (h0 : 0 ≤ a) (h1 : a < 2147483647) : Builtin.Int.intBits a ≤ 64 := by
  refine intBits_le_iff.mpr ?_
  omega
local macro_rules | `(tactic| k_all) => `(tactic| assumption)
local macro_rules | `(tactic| walk_at "subscriptTail Name Constant ref int") => `(tactic| (k_here; k_dflt (first
  | (refine' read0 ?k1 ?k2 ?k4 ?_ ?k3; (case k4 => decide); (case k1 => k_asm); (case k2 => k_mem); (case k3 => with_unfolding_all rfl); k_whole; intro _)
  | (refine' read1 ?k1 ?k2 ?k4 ?_ ?k3; (case k4 => decide); (case k1 => k_asm); (case k2 => k_mem); (case k3 => with_unfolding_all rfl); k_whole; intro _))))
local macro_rules | `(tactic| walk_at "binaryOp FloorDiv int int") => `(tactic| (k_here; with_reducible refine floordiv_int ?k1 ?_ (Or.inl (np ?k2 ?k3)); (case k1 => omega); (case k2 => omega); (case k3 => omega)))
local macro_rules | `(tactic| walk_at "binaryOp Mult int int") => `(tactic| (k_here; with_reducible refine mul_int ?_ (IntMulOk.of_left (bits64 ?k2 ?k3)); (case k2 => exact fmod_lo _ (by decide)); (case k3 => exact fmod_hi _ (by decide))))

set_option maxRecDepth 100000 in
set_option maxHeartbeats 4000000 in
theorem take1 {prog : Program} {w : World} {p : Program} {loose : List Str} {mean : ExcName → Option Value} {mg mb : Str → Option Value}
    {src : Addr} {n : Nat} {rest : List (Addr × Obj)} (hrest : ∀ p ∈ rest, p.1 ≠ src) {d x top : Int} {td tx tk : Tok} (hd0 : 0 ≤ d) (ht : 0 < top)
    (ht1 : top ≤ 4294967296)
    (dp un : Nat) (gd : Option (List Code)) (cn : Str) (cs : Scope) (a : Addr) (ccd : Value) (cl : List (Str × Addr)) (outer : List Env) (A₀ : Around) (base h₀ : Heap) (L : Addr) (m : Str → Option Value) (s : Shared) (Q E : Value → Shared → Prop)
    (B : Below A₀ base outer h₀) (F : Fr h₀ L s.heap m) (X : (Nt89.hd.heap_39 w.params).In h₀) (N : News h₀ L s.heap ((src, listOf #[.int d td, .int x tx] n) :: rest)) (T : Top p loose mean mg mb h₀) (hk : cs.kind = .function)
    (hd : dp + 1 < recursionLimit) (hu : un + 8 < cLine)
    (hret : ∀ (v d' x' : Int) (t td' tx' : Tok) (h' : Heap) (tk' : Nat), Fr h₀ L h' m → News h₀ L h' ((src, listOf #[.int d' td', .int x' tx'] n) :: rest) → 0 ≤ v → v < top → 0 ≤ d' → Q (.int v t) { s with heap := h', toks := tk' }) :
    wpAny (model prog w) (ktrTop dp un gd cn cs L a ccd cl outer) (call (.ref 118) [.ref src, .int top tk]) Q E s := by
  refine wpAny_call ?_
  k_dflt ktr_enter
  k_steps
  all_goals (
    refine' hret _ _ _ _ _ _ _ _ ?f ?n (fmod_lo _ ht) (fmod_hi _ ht) ?z
    (case f => k_asm)
    (case n => k_asm)
    (case z => first | exact hd0 | exact Int.fdiv_nonneg hd0 (Int.le_of_lt ht)))

section
variable {src : Addr} {o o' : Obj}
theorem upd_in : ∀ {l l' : List (Addr × Obj)}, Upd src o o' l l' → (src, o) ∈ l
  | _, _, .head _ => .head _
  | _, _, .tail _ h => .tail _ (upd_in h)
theorem upd_out : ∀ {l l' : List (Addr × Obj)}, Upd src o o' l l' → ∀ q ∈ l', q = (src, o') ∨ (q ∈ l ∧ q.1 ≠ src)
  | _, _, .head hn => fun q hq => by
    rcases List.mem_cons.mp hq with rfl | h
    · exact .inl rfl
    · exact .inr ⟨.tail _ h, hn q h⟩
  | _, _, .tail hp h => fun q hq => by
    rcases List.mem_cons.mp hq with rfl | h'
    · exact .inr ⟨.head _, hp⟩
    · rcases upd_out h q h' with e | ⟨e1, e2⟩
      · exact .inl e
      · exact .inr ⟨.tail _ e1, e2⟩
end
def others (src : Addr) (l : List (Addr × Obj)) : List (Addr × Obj) := l.filter fun q => !(Nat.beq q.1 src)
theorem others_ne {src : Addr} {l : List (Addr × Obj)} : ∀ q ∈ others src l, q.1 ≠ src := fun q hq e => by
  have h := (List.mem_filter.mp hq).2
  rw [e] at h
  simp at h
theorem others_mem {src : Addr} {l : List (Addr × Obj)} {q : Addr × Obj} (h : q ∈ l) (hn : q.1 ≠ src) : q ∈ others src l := by
  refine List.mem_filter.mpr ⟨h, ?_⟩
  cases hb : Nat.beq q.1 src with
  | false => rfl
  | true => exact absurd (Nat.eq_of_beq_eq_true hb) hn
theorem news_in {h₀ h : Heap} {L src : Addr} {o o' : Obj} {l l' : List (Addr × Obj)} (U : Upd src o o' l l') (N : News h₀ L h l) : News h₀ L h ((src, o) :: others src l) := fun q hq => by
  rcases List.mem_cons.mp hq with rfl | h'
  · exact N _ (upd_in U)
  · exact N _ (List.mem_filter.mp h').1
theorem news_out {h₀ h : Heap} {L src : Addr} {o o' : Obj} {l l' : List (Addr × Obj)} (U : Upd src o o' l l') (N : News h₀ L h ((src, o') :: others src l)) : News h₀ L h l' := fun q hq => by
  rcases upd_out U q hq with rfl | ⟨e1, e2⟩
  · exact N _ (.head _)
  · exact N _ (.tail _ (others_mem e1 e2))

theorem news_tail {h₀ h : Heap} {L : Addr} {q : Addr × Obj} {l : List (Addr × Obj)} (N : News h₀ L h (q :: l)) : News h₀ L h l := fun p hp => N p (.tail _ hp)
/-- the list of two ints that the law draws from -/
abbrev srcObj (d x : Int) (td tx : Tok) (n : Nat) : Obj := listOf #[.int d td, .int x tx] n

theorem takeU {prog : Program} {w : World} {p : Program} {loose : List Str} {mean : ExcName → Option Value} {mg mb : Str → Option Value}
    {src : Addr} {n : Nat} {news : List (Addr × Obj)} {nf : Obj → List (Addr × Obj)} {d x top : Int} {td tx tk : Tok}
    {dp un : Nat} {gd : Option (List Code)} {cn : Str} {cs : Scope} {a : Addr} {ccd : Value} {cl : List (Str × Addr)} {outer : List Env} {A₀ : Around} {base h₀ : Heap} {L : Addr} {m : Str → Option Value} {s : Shared} {Q E : Value → Shared → Prop}
    (B : Below A₀ base outer h₀) (F : Fr h₀ L s.heap m) (X : (Nt89.hd.heap_39 w.params).In h₀) (N : News h₀ L s.heap news) (T : Top p loose mean mg mb h₀) (hk : cs.kind = .function)
    (U : ∀ o', Upd src (srcObj d x td tx n) o' news (nf o')) (hd0 : 0 ≤ d) (ht : 0 < top) (ht1 : top ≤ 4294967296)
    (hd : dp + 1 < recursionLimit) (hu : un + 8 < cLine)
    (hret : ∀ (v d' x' : Int) (t td' tx' : Tok) (h' : Heap) (tk' : Nat), Fr h₀ L h' m → News h₀ L h' (nf (srcObj d' x' td' tx' n)) → 0 ≤ v → v < top → 0 ≤ d' → Q (.int v t) { s with heap := h', toks := tk' }) :
    wpAny (model prog w) (ktrTop dp un gd cn cs L a ccd cl outer) (call (.ref 118) [.ref src, .int top tk]) Q E s :=
  take1 (rest := others src news) others_ne hd0 ht ht1 _ _ _ _ _ _ _ _ _ _ _ _ _ _ _ _ _ B F X (news_in (U default) N) T hk hd hu
    fun v d' x' t td' tx' h' tk' F' N' h1 h2 h3 => hret v d' x' t td' tx' h' tk' F' (news_out (U _) N') h1 h2 h3

local macro_rules | `(tactic| walk_at "call ref") => `(tactic| (k_here; (with_reducible show wpAny _ _ (call (Value.ref 118) [Value.ref _, Value.int _ _]) _ _ _); k_dflt (
  refine' takeU ?kB ?kF ?kX ?kN ?kT ?kK ?kU ?k1 ?k2 ?k3 ?kd ?ku ?_
  (case kB => k_asm)
  (case kF => k_asm)
  (case kX => k_asm)
  (case kN => k_asm)
  (case kT => k_asm)
  (case kK => first | exact rfl | assumption)
  (case kU => (intro o'; k_upd))
  (case k1 => assumption)
  (case k2 => first | assumption | decide | omega)
  (case k3 => first | assumption | decide | omega)
  (case kd => ktr_room)
  (case ku => ktr_units)
  k_whole
  intro v' d' x' t' td' tx' h' tk' F' N' hv' hw' hd'
  (try dsimp only)
  (try k_fold)
  (try k_sweep))))


theorem p256_pos (k : Int) : 0 < (256 : Int) ^ k.toNat := Int.pow_pos (by decide)
theorem p256_le {k : Int} (h : k ≤ 4) : (256 : Int) ^ k.toNat ≤ 4294967296 := by
  have h' : k.toNat ≤ 4 := by omega
  have : (256 : Nat) ^ k.toNat ≤ 256 ^ 4 := Nat.pow_le_pow_right (by decide) h'
  have e : ((256 : Int) ^ k.toNat) = ((256 ^ k.toNat : Nat) : Int) := by rw [Int.natCast_pow]; rfl
  rw [e]
  omega
set_option maxRecDepth 100000 in
set_option maxHeartbeats 4000000 in
theorem number1 {prog : Program} {w : World} {p : Program} {loose : List Str} {mean : ExcName → Option Value} {mg mb : Str → Option Value}
    {src : Addr} {n : Nat} {rest : List (Addr × Obj)} (hrest : ∀ p ∈ rest, p.1 ≠ src) {d x k : Int} {td tx tk : Tok} (hd0 : 0 ≤ d) (hk0 : 0 ≤ k) (hk1 : k ≤ 4)
    (dp un : Nat) (gd : Option (List Code)) (cn : Str) (cs : Scope) (a : Addr) (ccd : Value) (cl : List (Str × Addr)) (outer : List Env) (A₀ : Around) (base h₀ : Heap) (L : Addr) (m : Str → Option Value) (s : Shared) (Q E : Value → Shared → Prop)
    (B : Below A₀ base outer h₀) (F : Fr h₀ L s.heap m) (X : (Nt89.hd.heap_39 w.params).In h₀) (N : News h₀ L s.heap ((src, srcObj d x td tx n) :: rest)) (T : Top p loose mean mg mb h₀) (hk : cs.kind = .function)
    (hd : dp + 2 < recursionLimit) (hu : un + 16 < cLine)
    (hret : ∀ (v d' x' : Int) (t td' tx' : Tok) (h' : Heap) (tk' : Nat), Fr h₀ L h' m → News h₀ L h' ((src, srcObj d' x' td' tx' n) :: rest) → 0 ≤ d' → Q (.int v t) { s with heap := h', toks := tk' }) :
    wpAny (model prog w) (ktrTop dp un gd cn cs L a ccd cl outer) (call (.ref 125) [.ref src, .int k tk]) Q E s := by
  have hp0 := p256_pos k
  have hp1 := p256_le hk1
  refine wpAny_call ?_
  k_dflt ktr_enter
  k_steps
  all_goals (
    refine' hret _ _ _ _ _ _ _ _ ?f ?n ?z
    (case f => k_asm)
    (case n => exact news_tail (by assumption))
    (case z => assumption))

theorem numberU {prog : Program} {w : World} {p : Program} {loose : List Str} {mean : ExcName → Option Value} {mg mb : Str → Option Value}
    {src : Addr} {n : Nat} {news : List (Addr × Obj)} {nf : Obj → List (Addr × Obj)} {d x k : Int} {td tx tk : Tok}
    {dp un : Nat} {gd : Option (List Code)} {cn : Str} {cs : Scope} {a : Addr} {ccd : Value} {cl : List (Str × Addr)} {outer : List Env} {A₀ : Around} {base h₀ : Heap} {L : Addr} {m : Str → Option Value} {s : Shared} {Q E : Value → Shared → Prop}
    (B : Below A₀ base outer h₀) (F : Fr h₀ L s.heap m) (X : (Nt89.hd.heap_39 w.params).In h₀) (N : News h₀ L s.heap news) (T : Top p loose mean mg mb h₀) (hk : cs.kind = .function)
    (U : ∀ o', Upd src (srcObj d x td tx n) o' news (nf o')) (hd0 : 0 ≤ d) (hk0 : 0 ≤ k) (hk1 : k ≤ 4)
    (hd : dp + 2 < recursionLimit) (hu : un + 16 < cLine)
    (hret : ∀ (v d' x' : Int) (t td' tx' : Tok) (h' : Heap) (tk' : Nat), Fr h₀ L h' m → News h₀ L h' (nf (srcObj d' x' td' tx' n)) → 0 ≤ d' → Q (.int v t) { s with heap := h', toks := tk' }) :
    wpAny (model prog w) (ktrTop dp un gd cn cs L a ccd cl outer) (call (.ref 125) [.ref src, .int k tk]) Q E s :=
  number1 (rest := others src news) others_ne hd0 hk0 hk1 _ _ _ _ _ _ _ _ _ _ _ _ _ _ _ _ _ B F X (news_in (U default) N) T hk hd hu
    fun v d' x' t td' tx' h' tk' F' N' h1 => hret v d' x' t td' tx' h' tk' F' (news_out (U _) N') h1

/-- k octets of a number, the high one first -/
def octL (k x : Int) : List Int := (KTBy.little k.toNat (x.fmod (256 ^ k.toNat))).reverse
theorem octL_length (k x : Int) : (octL k x).length = k.toNat := by
  unfold octL
  rw [List.length_reverse, KTBy.little_length]

set_option maxRecDepth 100000 in
set_option maxHeartbeats 4000000 in
theorem put1 {prog : Program} {w : World} {p : Program} {loose : List Str} {mean : ExcName → Option Value} {mg mb : Str → Option Value}
    {news : List (Addr × Obj)} {x k : Int} {tx tk : Tok} (hk0 : 1 ≤ k) (hk1 : k ≤ 4)
    (dp un : Nat) (gd : Option (List Code)) (cn : Str) (cs : Scope) (a : Addr) (ccd : Value) (cl : List (Str × Addr)) (outer : List Env) (A₀ : Around) (base h₀ : Heap) (L : Addr) (m : Str → Option Value) (s : Shared) (Q E : Value → Shared → Prop)
    (B : Below A₀ base outer h₀) (F : Fr h₀ L s.heap m) (X : (Nt89.hd.heap_39 w.params).In h₀) (N : News h₀ L s.heap news) (T : Top p loose mean mg mb h₀) (hk : cs.kind = .function)
    (hd : dp + 1 < recursionLimit) (hu : un + 8 < cLine)
    (hret : ∀ (t : Tok) (b : Array UInt8) (h' : Heap) (tk' : Nat), Fr h₀ L h' m → News h₀ L h' news → KBw.bInts b = octL k x → Q (.bytes b t) { s with heap := h', toks := tk' }) :
    wpAny (model prog w) (ktrTop dp un gd cn cs L a ccd cl outer) (call (.ref 53) [.int x tx, .int k tk]) Q E s := by
  have hc : k = 1 ∨ k = 2 ∨ k = 3 ∨ k = 4 := by omega
  rcases hc with rfl | rfl | rfl | rfl
  all_goals (
    refine wpAny_call ?_
    k_dflt ktr_enter
    k_steps
    refine' hret _ _ _ _ ?f ?n ?z
    (case f => k_asm)
    (case n => k_asm)
    (case z => assumption))

end Nt89

namespace Nt89
theorem fill4 : PySem.Challenge.rw_nt0089_01 = PySem.Challenge.rw_nt0089_01 ∧ Nt89.hd.heap_39 = Nt89.hd.heap_39 := by
  w_top off
  k_fill
  exact ⟨rfl, rfl⟩
theorem b8 (y : Int) : (((y.fmod 256).toNat.toUInt8.toNat : Nat) : Int) = y % 256 := by
  rw [Int.fmod_eq_emod_of_nonneg y (by decide : (0 : Int) ≤ 256)]
  have h1 : ((y % 256).toNat.toUInt8).toNat = (y % 256).toNat := by
    show (UInt8.ofNat (y % 256).toNat).toNat = _
    rw [UInt8.toNat_ofNat']
    omega
  rw [h1]
  omega
theorem fm (y : Int) : y.fmod 256 = y % 256 := Int.fmod_eq_emod_of_nonneg y (by decide)
theorem fd (y : Int) : y.fdiv 256 = y / 256 := Int.fdiv_eq_ediv_of_nonneg y (by decide)
theorem oct1 (x : Int) : octL 1 x = [x % 256] := by
  show [x.fmod 256 % 256] = _
  rw [fm, show x % 256 % 256 = x % 256 by omega]
theorem oct2 (x : Int) : octL 2 x = [x / 256 % 256, x % 256] := by
  show [x.fmod 65536 / 256 % 256, x.fmod 65536 % 256] = _
  rw [Int.fmod_eq_emod_of_nonneg x (by decide : (0 : Int) ≤ 65536), show x % 65536 / 256 % 256 = x / 256 % 256 by omega, show x % 65536 % 256 = x % 256 by omega]
theorem oct3 (x : Int) : octL 3 x = [x / 256 / 256 % 256, x / 256 % 256, x % 256] := by
  show [x.fmod 16777216 / 256 / 256 % 256, x.fmod 16777216 / 256 % 256, x.fmod 16777216 % 256] = _
  rw [Int.fmod_eq_emod_of_nonneg x (by decide : (0 : Int) ≤ 16777216), show x % 16777216 / 256 / 256 % 256 = x / 256 / 256 % 256 by omega, show x % 16777216 / 256 % 256 = x / 256 % 256 by omega, show x % 16777216 % 256 = x % 256 by omega]
theorem oct4 (x : Int) : octL 4 x = [x / 256 / 256 / 256 % 256, x / 256 / 256 % 256, x / 256 % 256, x % 256] := by
  show [x.fmod 4294967296 / 256 / 256 / 256 % 256, x.fmod 4294967296 / 256 / 256 % 256, x.fmod 4294967296 / 256 % 256, x.fmod 4294967296 % 256] = _
  rw [Int.fmod_eq_emod_of_nonneg x (by decide : (0 : Int) ≤ 4294967296), show x % 4294967296 / 256 / 256 / 256 % 256 = x / 256 / 256 / 256 % 256 by omega, show x % 4294967296 / 256 / 256 % 256 = x / 256 / 256 % 256 by omega, show x % 4294967296 / 256 % 256 = x / 256 % 256 by omega, show x % 4294967296 % 256 = x % 256 by omega]
theorem made1 (x : Int) : KBw.bInts #[(x.fmod 256).toNat.toUInt8] = octL 1 x := by
  rw [oct1]
  show [_] = _
  dsimp only
  rw [b8]
theorem made2 (x : Int) : KBw.bInts #[((x.fdiv 256).fmod 256).toNat.toUInt8, (x.fmod 256).toNat.toUInt8] = octL 2 x := by
  rw [oct2]
  show [_, _] = _
  dsimp only
  rw [b8, b8, fd]
theorem made3 (x : Int) : KBw.bInts #[(((x.fdiv 256).fdiv 256).fmod 256).toNat.toUInt8, ((x.fdiv 256).fmod 256).toNat.toUInt8, (x.fmod 256).toNat.toUInt8] = octL 3 x := by
  rw [oct3]
  show [_, _, _] = _
  dsimp only
  rw [b8, b8, b8, fd, fd]
theorem made4 (x : Int) : KBw.bInts #[((((x.fdiv 256).fdiv 256).fdiv 256).fmod 256).toNat.toUInt8, (((x.fdiv 256).fdiv 256).fmod 256).toNat.toUInt8, ((x.fdiv 256).fmod 256).toNat.toUInt8, (x.fmod 256).toNat.toUInt8] = octL 4 x := by
  rw [oct4]
  show [_, _, _, _] = _
  dsimp only
  rw [b8, b8, b8, b8, fd, fd, fd]
section
theorem off_of {l : List (Addr × Obj)} {x : Addr} (h : ∀ q ∈ l, q.1 < x) : ∀ q ∈ l, q.1 ≠ x := fun q hq => Nat.ne_of_lt (h q hq)
local macro_rules | `(tactic| walk_at "UnrEnd") => `(tactic| refine UnrEnd.intro (by assumption) (by assumption) _ (fun p hp => List.Mem.tail _ hp) (off_of (by assumption)) ?_)
set_option maxRecDepth 100000 in
set_option maxHeartbeats 4000000 in
theorem octets1 {prog : Program} {w : World} {p : Program} {loose : List Str} {mean : ExcName → Option Value} {mg mb : Str → Option Value}
    {news : List (Addr × Obj)} {x k : Int} {tx tk : Tok} (hk0 : 1 ≤ k) (hk1 : k ≤ 4)
    (dp un : Nat) (gd : Option (List Code)) (cn : Str) (cs : Scope) (a : Addr) (ccd : Value) (cl : List (Str × Addr)) (outer : List Env) (A₀ : Around) (base h₀ : Heap) (L : Addr) (m : Str → Option Value) (s : Shared) (Q E : Value → Shared → Prop)
    (B : Below A₀ base outer h₀) (F : Fr h₀ L s.heap m) (X : (Nt89.hd.heap_39 w.params).In h₀) (N : News h₀ L s.heap news) (T : Top p loose mean mg mb h₀) (hk : cs.kind = .function)
    (hd : dp + 1 < recursionLimit) (hu : un + 8 < cLine)
    (hret : ∀ (t : Tok) (b : Array UInt8) (h' : Heap) (tk' : Nat), Fr h₀ L h' m → News h₀ L h' news → KBw.bInts b = octL k x → Q (.bytes b t) { s with heap := h', toks := tk' }) :
    wpAny (model prog w) (ktrTop dp un gd cn cs L a ccd cl outer) (call (.ref 132) [.int x tx, .int k tk]) Q E s := by
  have hc : k = 1 ∨ k = 2 ∨ k = 3 ∨ k = 4 := by omega
  rcases hc with rfl | rfl | rfl | rfl
  all_goals (
    refine wpAny_call ?_
    k_dflt ktr_enter
    k_steps
    refine' hret _ _ _ _ ?f ?n ?z
    (case f => k_asm)
    (case n => k_asm)
    (case z => first | exact made1 _ | exact made2 _ | exact made3 _ | exact made4 _))
end
end Nt89

namespace Nt89
theorem fill5 : PySem.Challenge.rw_nt0089_01 = PySem.Challenge.rw_nt0089_01 ∧ Nt89.hd.heap_39 = Nt89.hd.heap_39 := by
  w_top off
  k_fill
  exact ⟨rfl, rfl⟩
open Builtin.Int (intBits)
def wt (ns : List Int) : Nat := (ns.map intBits).sum
theorem wt_append (a b : List Int) : wt (a ++ b) = wt a + wt b := by
  unfold wt
  rw [List.map_append, List.sum_append]
theorem wt_one (n : Int) : wt [n] = intBits n := by
  unfold wt
  simp
theorem wt_lay : ∀ ns : List Int, wt ns ≤ PyData.weightAll (ns.map PyData.int)
  | [] => Nat.le_refl _
  | n :: r => by
    have h := wt_lay r
    show intBits n + wt r ≤ PyData.weight (.int n) + 1 + PyData.weightAll (r.map PyData.int)
    have e : PyData.weight (.int n) = intBits n := rfl
    omega
theorem wt_le {ns : List Int} (h : PyData.layable0 (.list (ns.map PyData.int)) = true) : wt ns ≤ 1048576 :=
  Nat.le_trans (wt_lay ns) (PyData.weightAll_of_list h)
def PoolInv (pre : List Int) (d : Int) : Prop := 0 ≤ d ∧ intBits d ≤ wt pre
theorem pool_start : PoolInv [] 0 := ⟨Int.le_refl _, Nat.zero_le _⟩
theorem pool_keep {pre : List Int} {d n : Int} (h : PoolInv pre d) : PoolInv (pre ++ [n]) d := ⟨h.1, by have := h.2; rw [wt_append]; omega⟩
theorem pool_step {pre : List Int} {d n z : Int} (h : PoolInv pre d) (h0 : 0 ≤ z) (h1 : z.natAbs ≤ n.natAbs) : PoolInv (pre ++ [n]) (d * z + z) := by
  have e : d * z + z = (d + 1) * z := by rw [Int.add_mul, Int.one_mul]
  refine ⟨?_, ?_⟩
  · rw [e]
    exact Int.mul_nonneg (by have := h.1; omega) h0
  · refine intBits_le_iff.mpr ?_
    rw [e, Int.natAbs_mul, wt_append, wt_one, Nat.pow_add]
    have a1 := intBits_le_iff.mp h.2
    have a2 : n.natAbs < 2 ^ intBits n := intBits_le_iff.mp (Nat.le_refl _)
    have a3 : (d + 1).natAbs ≤ 2 ^ wt pre := by have := h.1; omega
    have a4 : z.natAbs < 2 ^ intBits n := by omega
    exact Nat.lt_of_le_of_lt (Nat.mul_le_mul_right _ a3) (Nat.mul_lt_mul_of_pos_left a4 (Nat.two_pow_pos _))
theorem pool_mul {ns pre post : List Int} {d n z : Int} (h : PoolInv pre d) (hl : PyData.layable0 (.list (ns.map PyData.int)) = true) (e : ns = pre ++ n :: post) (h1 : z.natAbs ≤ n.natAbs) : IntMulOk d z := by
  have w := wt_le hl
  rw [e, wt_append] at w
  have w2 : wt (n :: post) = intBits n + wt post := rfl
  have hz : intBits z ≤ intBits n := intBits_le_of_natAbs h1 (Nat.le_refl _)
  exact IntMulOk.of_le h.2 hz (by omega)

theorem pool_nonneg {pre : List Int} {d : Int} (h : PoolInv pre d) : 0 ≤ d := h.1
theorem news_skip {h₀ h : Heap} {L : Addr} {q r : Addr × Obj} {l : List (Addr × Obj)} (N : News h₀ L h (q :: r :: l)) : News h₀ L h (q :: l) := fun p hp => by
  rcases List.mem_cons.mp hp with rfl | h'
  · exact N _ (.head _)
  · exact N _ (.tail _ (.tail _ h'))
theorem allLt_all {P : Prop} {x : Addr} {l : List (Addr × Obj)} (h : P ∧ AllLt x l) : ∀ q ∈ l, q.1 < x := ktn_ltOf h.2

section
local macro_rules | `(tactic| walk_at "binaryOp Mult int int") => `(tactic| (k_here; with_reducible refine mul_int ?_ (pool_mul (by assumption) (by assumption) (by assumption) ?k2); (case k2 => omega)))
set_option maxRecDepth 100000 in
set_option maxHeartbeats 4000000 in
theorem pool1 {prog : Program} {w : World} {p : Program} {loose : List Str} {mean : ExcName → Option Value} {mg mb : Str → Option Value}
    {news : List (Addr × Obj)} {l : Addr} {vs : List Value} {ns : List Int} (hi : IntsAre vs ns) (hb : PyData.layable0 (.list (ns.map PyData.int)) = true)
    (dp un : Nat) (gd : Option (List Code)) (cn : Str) (cs : Scope) (a : Addr) (ccd : Value) (cl : List (Str × Addr)) (outer : List Env) (A₀ : Around) (base h₀ : Heap) (L : Addr) (m : Str → Option Value) (s : Shared) (Q E : Value → Shared → Prop)
    (hl : base.IsList l vs.toArray)
    (B : Below A₀ base outer h₀) (F : Fr h₀ L s.heap m) (X : (Nt89.hd.heap_39 w.params).In h₀) (N : News h₀ L s.heap news) (T : Top p loose mean mg mb h₀) (hk : cs.kind = .function)
    (hd : dp + 1 < recursionLimit) (hu : un + 8 < cLine)
    (hret : ∀ (d x : Int) (td tx : Tok) (l' : Addr) (h' : Heap) (tk' : Nat), Fr h₀ L h' m → News h₀ L h' ((l', srcObj d x td tx 0) :: news) → (∀ q ∈ news, q.1 < l') → 0 ≤ d → Q (.ref l') { s with heap := h', toks := tk' }) :
    wpAny (model prog w) (ktrTop dp un gd cn cs L a ccd cl outer) (call (.ref 111) [.ref l]) Q E s := by
  k_with_none
  k_with "pyIter ref" => k_state (fun pre d (m : Int) => PoolInv pre d) "digits" "mixed"
  k_with "state" => (first | exact pool_start | exact pool_keep (by assumption) | exact pool_step (by assumption) (by omega) (by omega))
  refine wpAny_call ?_
  k_dflt cell_enter
  k_steps
  refine' hret _ _ _ _ _ _ _ ?f ?n ?o ?z
  (case f => k_asm)
  (case n => exact news_skip (by assumption))
  (case o => exact allLt_all (by assumption))
  (case z => exact pool_nonneg (by assumption))
end
end Nt89

namespace Nt89
set_option maxRecDepth 100000
theorem noI_bytes : typeLookup (.type "bytes") (dunderI "add") = pure none := by rw [typeLookup_type, builtinLookup_eq_fast]; kernel_rfl
theorem int_no_bytes : typeLookup (.type "int") "__bytes__" = pure none := by rw [typeLookup_type, builtinLookup_eq_fast]; kernel_rfl
theorem bytes_bytes : typeLookup (.type "bytes") "__bytes__" = pure (some (.builtin "bytes.__bytes__")) := by rw [typeLookup_type, builtinLookup_eq_fast]; kernel_rfl
section
variable {prog : Program} {w : World} {A : Around} {E : Value → Shared → Prop} {s : Shared} {b c : Array UInt8} {t u : Tok} {n : Int} {Q : Value → Shared → Prop}
theorem iadd_bytes (hsz : b.size + c.size ≤ 16777216) (h : ∀ t' k, Q (.bytes (b ++ c) t') { s with toks := k }) : wpAny (model prog w) A (inplaceOp .Add (.bytes b t) (.bytes c u)) Q E s := by
  refine iconcat_gives (typeIs_bytes s b t) (typeIs_bytes s c u) noI_bytes KBy.noFill_bytes_add KBy.seq_bytes_add FB.slot_bytes_add FB.entry_bytes_add (FB.args_bytes_add_2 _ _) (KBy.gives_bytes_add (KBy.tooLong_not hsz)) ?_
  by_cases hb : b.isEmpty = true
  · rw [if_pos hb]
    have e : b = #[] := Array.isEmpty_iff.1 hb
    have h' := h u s.toks
    rw [e, Array.empty_append] at h'
    exact h'
  · rw [if_neg hb]
    by_cases hc : c.isEmpty = true
    · rw [if_pos hc]
      have e : c = #[] := Array.isEmpty_iff.1 hc
      have h' := h t s.toks
      rw [e, Array.append_empty] at h'
      exact h'
    · rw [if_neg hc]
      exact ⟨by rw [Array.size_append, sizeLine_eq]; exact hsz, h s.toks (s.toks + 1)⟩
theorem iadd_K {ks ls : List Int} (hb : KBw.bInts b = ks) (hc : KBw.bInts c = ls) (hsz : ks.length + ls.length ≤ 16777216) (h : ∀ t' k, KBw.bInts (b ++ c) = ks ++ ls → Q (.bytes (b ++ c) t') { s with toks := k }) : wpAny (model prog w) A (inplaceOp .Add (.bytes b t) (.bytes c u)) Q E s :=
  iadd_bytes (by rw [← KBw.ints_length b, ← KBw.ints_length c, hb, hc]; exact hsz) fun t' k => h t' k (KBw.ints_app hb hc)

theorem bytes_int (h0 : 0 ≤ n) (h1 : n ≤ 1000) (hQ : ∀ t' k, Q (.bytes (Array.replicate n.toNat 0) t') { s with toks := k }) : wpAny (model prog w) A (call (.type "bytes") [.int n t]) Q E s := by
  refine callType_codes (Q₁ := fun obj s₁ => s₁.TypeIs obj "bytes" ∧ Q obj s₁) F.bm_called (F.bm_typeCall _) F.entry_object_init ?_ fun obj s₁ h₁ =>
    ⟨h₁.1, F.args_object_init_2 obj _, object_init_meets F.bm_called.init.lookup F.bm_called.made (by decide) prog w A.in1 _ s₁ ⟨h₁.1, rfl, h₁.2⟩⟩
  refine codeAny_of_tree ?_
  show wpAny _ A.in1.in1 (do checkBuiltinCall "bytes.__new__" ⟨[.type "bytes", .int n t], []⟩; again (.builtin "bytes.__new__" ⟨[.type "bytes", .int n t], []⟩)) _ _ s
  refine wpAny_bind (wpAny_of_eq (F.bm_newCall _) (wpAny_pure ⟨plainId_quiet F.bm_plain _, codeAny_builtin F.bm_entry ?_⟩))
  rw [Around.under_plainId F.bm_plain _]
  unfold Builtin.«bytes.__new__»
  refine wpAny_bind (wpAny_of_eq (a := true) rfl ?_)
  refine KFB.if_not rfl ?_
  refine wpAny_bind (wpAny_of_eq F.bm_sub ?_)
  refine KFB.if_not rfl ?_
  refine wpAny_bind (wpAny_of_eq (F.bm_bind _) ?_)
  refine wpAny_bind (wpAny_of_eq (a := ()) rfl ?_)
  refine wpAny_bind (wpAny_of_eq (a := ()) rfl ?_)
  refine KFB.if_not rfl ?_
  refine wpAny_bind (wpAny_specialOf (T := "int") (typeIs_int _ _ _) int_no_bytes ?_)
  refine wpAny_bind (wpAny_of_eq (a := false) rfl ?_)
  refine KFB.if_not rfl ?_
  refine wpAny_bind (wpAny_specialOf (T := "int") (typeIs_int _ _ _) F.slot_int_index.lookup ?_)
  refine KFB.if_not rfl ?_
  refine wpAny_bind (wpAny_attempt (wpAny_of_eq (rfl : asIndex (.int n t) = pure n) ?_))
  dsimp only
  refine KFB.if_not (by simp only [Builtin.Bytes.fitsIndex, Bool.not_eq_false', Bool.and_eq_true, decide_eq_true_eq]; omega) ?_
  refine wpAny_ite (KBy.ite_no (by omega) ?_)
  refine wpAny_ite (KBy.ite_no (by omega) ?_)
  refine KFB.if_not (KBy.tooLong_not (by omega)) ?_
  refine wpAny_bind (wpAny_rule ?_)
  refine wpAny_bind (wpAny_mkBytes ?_ (by rw [Array.size_replicate, sizeLine_eq]; omega))
  show wpAny _ _ (if (Value.type "bytes" == Value.type "bytes") = true then _ else _) _ _ _
  refine KFB.if_so (by decide) ?_
  first
    | exact wpAny_pure ⟨typeIs_bytes _ _ _, hQ _ _⟩
    | exact wpAny_bind (wpAny_pure (wpAny_pure ⟨typeIs_bytes _ _ _, hQ _ _⟩))
theorem bytes_same (hQ : ∀ t' k, Q (.bytes b t') { s with toks := k }) : wpAny (model prog w) A (call (.type "bytes") [.bytes b t]) Q E s := by
  refine callType_codes (Q₁ := fun obj s₁ => s₁.TypeIs obj "bytes" ∧ Q obj s₁) F.bm_called (F.bm_typeCall _) F.entry_object_init ?_ fun obj s₁ h₁ =>
    ⟨h₁.1, F.args_object_init_2 obj _, object_init_meets F.bm_called.init.lookup F.bm_called.made (by decide) prog w A.in1 _ s₁ ⟨h₁.1, rfl, h₁.2⟩⟩
  refine codeAny_of_tree ?_
  show wpAny _ A.in1.in1 (do checkBuiltinCall "bytes.__new__" ⟨[.type "bytes", .bytes b t], []⟩; again (.builtin "bytes.__new__" ⟨[.type "bytes", .bytes b t], []⟩)) _ _ s
  refine wpAny_bind (wpAny_of_eq (F.bm_newCall _) (wpAny_pure ⟨plainId_quiet F.bm_plain _, codeAny_builtin F.bm_entry ?_⟩))
  rw [Around.under_plainId F.bm_plain _]
  unfold Builtin.«bytes.__new__»
  refine wpAny_bind (wpAny_of_eq (a := true) rfl ?_)
  refine KFB.if_not rfl ?_
  refine wpAny_bind (wpAny_of_eq F.bm_sub ?_)
  refine KFB.if_not rfl ?_
  refine wpAny_bind (wpAny_of_eq (F.bm_bind _) ?_)
  refine wpAny_bind (wpAny_of_eq (a := ()) rfl ?_)
  refine wpAny_bind (wpAny_of_eq (a := ()) rfl ?_)
  refine KFB.if_not rfl ?_
  refine wpAny_bind (wpAny_specialOf (T := "bytes") (typeIs_bytes _ _ _) bytes_bytes ?_)
  dsimp only
  refine wpAny_bind (wpAny_rule ?_)
  refine wpAny_bind (wpAny_typeOf (typeIs_bytes _ _ _) ?_)
  refine KFB.if_so rfl ?_
  show wpAny _ _ (if (Value.type "bytes" == Value.type "bytes") = true then _ else _) _ _ _
  refine KFB.if_so (by decide) ?_
  first
    | exact wpAny_pure ⟨typeIs_bytes _ _ _, hQ t s.toks⟩
    | exact wpAny_bind (wpAny_pure (wpAny_pure ⟨typeIs_bytes _ _ _, hQ t s.toks⟩))
end
end Nt89

namespace Nt89
set_option maxRecDepth 100000
open PySem.Builtin PySem.Builtin.Bytes
theorem slot_join : Slot "bytes" "join" "bytes.join" :=
  .of (owner := "bytes") (n := "join") (by rw [typeLookup_type, builtinLookup_eq_fast]; kernel_rfl) (by decide +kernel) (by decide +kernel) (by decide +kernel)
    (by first | exact .inl (by decide +kernel) | exact .inr (by decide +kernel)) (by rw [isSubtype_type]; kernel_rfl)
theorem type_join : typeOf (.builtin "bytes.join") = pure (.type "method_descriptor") := by show builtinType _ = _; rw [builtinType_eq_fast]; kernel_rfl
theorem entry_join : entryFor table "bytes.join" = some Builtin.«bytes.join» := by first | exact entryFor_of_fast (by kernel_rfl) | exact entryFor_of_tree (by kernel_rfl)
theorem args_join (a b : Value) : argsOk "bytes.join" ⟨[a, b], []⟩ := by unfold argsOk; kernel_rfl
section
variable {prog : Program} {w : World} {M : Model} {A : Around} {E : Value → Shared → Prop} {s : Shared} {b0 b1 b2 b3 b4 : Array UInt8} {t t0 t1 t2 t3 t4 : Tok} {l : Addr} {Q : Value → Shared → Prop}
theorem method_join {b : Array UInt8} {pl : Sem Bool} {Q : Value × List Value → Shared → Prop} (h : Q (.builtin "bytes.join", [.bytes b t]) s) : wpAny M A (getMethod (.bytes b t) (PySem.Str.ofString "join") pl) Q E s := by
  exact KBd.method_of (.bytes b t) (typeIs_bytes _ _ _) slot_join type_join (fun a e => nomatch e) h
theorem take_bytes {b : Array UInt8} {id : String} : takeBufferQuiet? id (.bytes b t) 0 = pure (some (b, none)) := by
  unfold takeBufferQuiet? takeBuffer?
  rw [KBy.special_eq KBy.look_buffer, KBy.own_buffer]
  have e : ∀ full, buffer? id (.bytes b t) full = pure (some b) := by
    intro full
    unfold buffer?
    rw [KBy.special_eq KBy.look_buffer, KBy.own_buffer, KBy.own_release]
    cases full <;> kernel_rfl
  simp only [pure_bind, e]
  kernel_rfl
theorem join_letGo : ∀ (taken : List (Value × Option Value)) (keep : List Value) {Q : Unit → Shared → Prop}, (∀ q ∈ taken, q.2 = none) → Q () s → wpAny M A (joinLetGo taken keep) Q E s
  | [], _, _, _, h => wpAny_pure h
  | (x, wv) :: r, keep, Q, hn, h => by
    have e : wv = none := hn (x, wv) (.head _)
    subst e
    show wpAny _ _ (letGo _ _ >>= fun _ => joinLetGo r keep) _ _ s
    exact wpAny_bind (wpAny_letGo (join_letGo r keep (fun q hq => hn q (.tail _ hq)) h))
theorem join5 {n : Nat} {o : Obj} (ho : s.heap.get? l = some o) (hc : o.cls = .type "list") (hd : o.data = .seq #[.bytes b0 t0, .bytes b1 t1, .bytes b2 t2, .bytes b3 t3, .bytes b4 t4] n)
    (hz : b0.size + b1.size + b2.size + b3.size + b4.size ≤ 1000)
    (h : ∀ t' k, Q (.bytes (b0 ++ b1 ++ b2 ++ b3 ++ b4) t') { s with toks := k }) : wpAny (model prog w) A (call (.builtin "bytes.join") [.bytes #[] t, .ref l]) Q E s := by
  refine wpAny_call_entry slot_join (typeIs_bytes s _ t) entry_join ?_ (args_join _ _)
  show wpAny _ _ (selfAndOne (s!"{Kind.bytes.name}.join") _ >>= fun x => _) _ _ s
  refine wpAny_bind (wpAny_of_eq (a := (.bytes #[] t, .ref l)) rfl ?_)
  show wpAny _ _ (joinItems (.ref l) >>= fun x => _) _ _ s
  refine wpAny_bind ?_
  unfold joinItems
  refine wpAny_bind (wpAny_typeOf (T := "list") ⟨o, ho, hc⟩ ?_)
  refine KFB.if_so (by decide) ?_
  refine wpAny_pure ?_
  refine wpAny_bind (wpAny_seqItems ho hd ?_)
  refine KFB.if_so rfl ?_
  show wpAny _ _ (forIn [:5] (#[], []) _ >>= fun r => _) _ _ s
  rw [Std.Legacy.Range.forIn_eq_forIn_range']
  show wpAny _ _ (forIn [0, 1, 2, 3, 4] (#[], []) _ >>= fun r => _) _ _ s
  refine wpAny_bind ?_
  iterate 5
    show wpAny _ _ (forIn (_ :: _) _ _) _ _ _
    rw [List.forIn_cons]
    refine wpAny_bind ?_
    refine wpAny_bind (wpAny_seqItems ho hd ?_)
    refine KFB.if_not rfl ?_
    refine wpAny_bind (wpAny_holding (wpAny_of_eq take_bytes ?_))
    refine wpAny_bind (wpAny_seqItems ho hd ?_)
    refine KFB.if_not rfl ?_
    refine wpAny_pure ?_
  show wpAny _ _ (forIn [] _ _) _ _ _
  rw [List.forIn_nil]
  refine wpAny_pure ?_
  show wpAny _ _ (payload (.bytes #[] t) >>= fun sep => _) _ _ s
  refine wpAny_bind (wpAny_of_eq (a := #[]) rfl ?_)
  have hj : joined #[] [b0, b1, b2, b3, b4] = b0 ++ b1 ++ b2 ++ b3 ++ b4 := by
    simp [joined, List.zipIdx]
  have hs : (b0 ++ b1 ++ b2 ++ b3 ++ b4).size ≤ sizeLine := by
    simp only [Array.size_append, sizeLine_eq]
    omega
  refine KFB.if_not (KBy.tooLong_not (by show (0 + b0.size + b1.size + b2.size + b3.size + b4.size) ≤ _; omega)) ?_
  show wpAny _ _ (mkBytes (joined #[] [b0, b1, b2, b3, b4]) >>= fun r => _) _ _ s
  rw [hj]
  refine wpAny_bind (wpAny_mkBytes ?_ hs)
  refine wpAny_bind (wpAny_holding (wpAny_point ?_))
  show wpAny _ _ (joinLetGo [(.bytes b0 t0, none), (.bytes b1 t1, none), (.bytes b2 t2, none), (.bytes b3 t3, none), (.bytes b4 t4, none)] _ >>= fun _ => _) _ _ _
  refine wpAny_bind (join_letGo _ _ (by simp) ?_)
  exact wpAny_pure ⟨_, rfl, h _ _⟩
theorem join5_K {h₀ : Heap} {L : Addr} {news : List (Addr × Obj)} {n : Nat} {k0 k1 k2 k3 k4 : List Int} {o : Obj} (N : News h₀ L s.heap news) (hm : (l, o) ∈ news) (hc : o.cls = .type "list") (hd : o.data = .seq #[.bytes b0 t0, .bytes b1 t1, .bytes b2 t2, .bytes b3 t3, .bytes b4 t4] n)
    (h0 : KBw.bInts b0 = k0) (h1 : KBw.bInts b1 = k1) (h2 : KBw.bInts b2 = k2) (h3 : KBw.bInts b3 = k3) (h4 : KBw.bInts b4 = k4) (hz : k0.length + k1.length + k2.length + k3.length + k4.length ≤ 1000)
    (h : ∀ b t' k, KBw.bInts b = k0 ++ k1 ++ k2 ++ k3 ++ k4 → Q (.bytes b t') { s with toks := k }) : wpAny (model prog w) A (call (.builtin "bytes.join") [.bytes #[] t, .ref l]) Q E s := by
  refine join5 (N _ hm).1 hc hd ?_ fun t' k => h _ t' k ?_
  · rw [← KBw.ints_length b0, ← KBw.ints_length b1, ← KBw.ints_length b2, ← KBw.ints_length b3, ← KBw.ints_length b4, h0, h1, h2, h3, h4]
    exact hz
  · exact KBw.ints_app (KBw.ints_app (KBw.ints_app (KBw.ints_app h0 h1) h2) h3) h4
end
end Nt89

namespace Nt89
set_option maxRecDepth 100000
open PySem.Builtin PySem.Builtin.ObjectAttr
/-! An exception class whose base is an own exception class with an own __init__: made, filled, raised, left, caught. -/
section
variable {prog : Program} {w : World} {A : Around} {E : Value → Shared → Prop} {h : Heap} {g : Array GenState} {d : Drawn} {t : Nat} {os : OsState}
variable {nm q : Str} {C D N : Addr} {bs bmB : List Value} {hdct : Bool} {sn : List Str} {sub : List Value} {ab : Bool} {col : Option Bool} {dd : Option Addr} {k0 k1 k2 k3 k5 : Option Value} {B newId initId : String}
theorem tail_has {X : String} {b : Bool} (hb : bmB.contains (.type X) = b) : (Value.ref C :: Value.ref D :: bmB).contains (.type X) = b := by
  rw [List.contains_cons, List.contains_cons, hb]
  rfl

theorem check_new2 {M : Model} (F : ExcBaseFacts B newId initId bmB) {rest : List Value} {Q : Unit → Shared → Prop} (hC : h.get? C = some (excClassObj nm q C N bs (.ref D :: bmB) hdct sn sub ab col dd k0 k1 k2 k3 k5 newId))
    (hq : Q () ⟨h, g, d, t, os⟩) : wpAny M A (checkBuiltinCall newId ⟨.ref C :: rest, []⟩) Q E ⟨h, g, d, t, os⟩ := by
  have hcont : (Value.ref C :: Value.ref D :: bmB).contains (.type B) = true := tail_has F.hasB
  have hstar := F.noStar
  simp only [checkBuiltinCall, F.newKind, F.newSplit, F.newRow]
  repeat (first | refine wpAny_loadPart_at hC ?_ | (refine wpAny_isSubtype_exc hC ?_; rw [hcont]) | refine wpAny_staticBase_exc hC ?_ | refine wpAny_madeBy_exc hC ?_ | simp only [bne_self_eq_false, Bool.false_eq_true, if_false] | wp_step)
  exact hq

theorem code_new2 {R : Result → Shared → Prop} (F : ExcBaseFacts B newId initId bmB) {rest : List Value} (hC : h.get? C = some (excClassObj nm q C N bs (.ref D :: bmB) hdct sn sub ab col dd k0 k1 k2 k3 k5 newId))
    (hq : R (.ok (.ret (.ref (h.objs.size + 1)))) ⟨(h.push { cls := .type "tuple", data := .seq rest.toArray }).push
      { cls := .ref C, data := .fields #[.ref h.objs.size, .none, .none, .none, .bool false, .none] }, g, d, t, os⟩) (hrest : rest.length ≤ sizeLine := by size_fits) :
    codeAny (model prog w) A (.builtin newId ⟨.ref C :: rest, []⟩) R ⟨h, g, d, t, os⟩ := by
  have hends := F.ends
  have hcB : (Value.ref C :: Value.ref D :: bmB).contains (.type B) = true := tail_has F.hasB
  have hcA : (Value.ref C :: Value.ref D :: bmB).contains (.type "AttributeError") = false := tail_has F.noAttr
  have hcN : (Value.ref C :: Value.ref D :: bmB).contains (.type "NameError") = false := tail_has F.noName
  refine codeAny_builtinAt F.entry ?_
  unfold Builtin.«BaseException.__new__»
  refine PySem.wpAt_bind ?_
  show PySem.wpAt _ _ _ (stack >>= _) _ _ _
  refine PySem.wpAt_bind (PySem.wpAt_stack fun p below => PySem.wpAt_of_wpAny ?_)
  wp_walk
  refine PySem.wpAt_of_wpAny ?_
  rw [F.owner]
  repeat (first | with_reducible refine wpAny_madeHere_exc F.canon hC ?_ | with_reducible refine wpAny_loadPart_at hC ?_ | (with_reducible refine wpAny_isSubtype_exc hC ?_; first | rw [hcB] | rw [hcA] | rw [hcN]) | wp_step)
  show R _ _
  rw [Heap.size_push]
  exact hq

theorem type_call2 {K : Frag} (F : ExcBaseFacts B newId initId bmB) {rest : List Value} {fI : Addr} {Q : Fin → Shared → Prop}
    (hC : h.get? C = some (excClassObj nm q C N bs (.ref D :: bmB) hdct sn sub ab col dd k0 k1 k2 k3 k5 newId)) (X : K.In h) (hi : findIn K (.ref C) "__init__" = some (some (.ref fI)))
    (hf : typeIn K (.ref fI) = some (.type "function"))
    (hq : ∀ h' e, Heap.MadeExcOf h h' e (.ref C) rest →
      wpAny (model prog w) A (call (.ref fI) (.ref e :: rest)) (fun r s' => r = .none ∧ Q (.done (.ret (.ref e))) s') E ⟨h', g, d, t, os⟩) (hrest : rest.length ≤ sizeLine := by size_fits) :
    wpAny (model prog w) A (Builtin.«type.__call__» ⟨.ref C :: rest, []⟩) Q E ⟨h, g, d, t, os⟩ := by
  repeat (first | with_reducible refine wpAny_loadPart_at hC ?_ | with_reducible refine wpAny_madeBy_exc hC ?_ | wp_step)
  refine codeAny_call_builtin_code (Code.quiet_builtin _ F.quiet) (check_new2 F hC ?_)
  refine code_new2 F hC ?_ hrest
  show wpAny _ _ _ _ _ _
  have kp : ∀ b o, h.get? b = some o → ((h.push { cls := .type "tuple", data := .seq rest.toArray }).push { cls := .ref C, data := .fields #[.ref h.objs.size, .none, .none, .none, .bool false, .none] }).get? b = some o :=
    fun b o e => Heap.get?_push_of_some _ (Heap.get?_push_of_some _ e)
  have hC₁ := kp _ _ hC
  have X₁ := X.keeps kp
  have hget : ((h.push { cls := .type "tuple", data := .seq rest.toArray }).push
      { cls := .ref C, data := .fields #[.ref h.objs.size, .none, .none, .none, .bool false, .none] }).get? (h.objs.size + 1) = some
      { cls := .ref C, data := .fields #[.ref h.objs.size, .none, .none, .none, .bool false, .none] } := by heap_get
  have hcC : (Value.ref C :: Value.ref D :: bmB).contains (.ref C) = true := by simp
  unfold isInstance
  repeat (first | with_reducible refine wpAny_loadPart_at hget ?_ | (with_reducible refine wpAny_isSubtype_exc hC₁ ?_; rw [hcC]) | wp_step)
  show wpAny _ _ (typeLookup (.ref C) _) _ _ _
  refine (looks_findIn X₁ hi).here ?_
  refine wpAny_holding (wpAny_bind ?_)
  refine (bind_fn X₁ (.ref (h.objs.size + 1)) hf).here ?_
  refine wpAny_bind (wpAny_mono (hq _ (h.objs.size + 1) ⟨kp, Heap.get?_none_of_le (Nat.le_succ _), h.objs.size, hget, Heap.get?_none_of_le (Nat.le_refl _), ?_⟩) (fun r s' hr => ?_) fun _ _ x => x)
  · exact Heap.get?_push_of_some _ (Heap.get?_push_at rfl rfl)
  · obtain ⟨rfl, hQ⟩ := hr
    wp_walk
    exact hQ

theorem call_exc2 {K : Frag} (F : ExcBaseFacts B newId initId bmB) {rest : List Value} {fI : Addr} {Q : Value → Shared → Prop}
    (hC : h.get? C = some (excClassObj nm q C N bs (.ref D :: bmB) hdct sn sub ab col dd k0 k1 k2 k3 k5 newId)) (X : K.In h) (hi : findIn K (.ref C) "__init__" = some (some (.ref fI)))
    (hf : typeIn K (.ref fI) = some (.type "function"))
    (hq : ∀ h' e, Heap.MadeExcOf h h' e (.ref C) rest →
      wpAny (model prog w) (A.under (.builtin "type.__call__" ⟨.ref C :: rest, []⟩)) (call (.ref fI) (.ref e :: rest)) (fun r s' => r = .none ∧ Q (.ref e) s') E ⟨h', g, d, t, os⟩) (hrest : rest.length ≤ sizeLine := by size_fits) :
    wpAny (model prog w) A (call (.ref C) rest) Q E ⟨h, g, d, t, os⟩ := by
  have f1 := tc_lookup
  have f2 := tc_bind (.ref C)
  have hT : (⟨h, g, d, t, os⟩ : Shared).TypeIs (.ref C) "type" := ⟨_, hC, rfl⟩
  refine wpAny_call (codeAny_of_tree ?_)
  show wpAny _ _ (callAny (.ref C) _) _ _ _
  repeat (any_goals (first | assumption | with_reducible refine wpAny_loadPart_at hC ?_ | wp_step))
  refine ⟨rfl, ?_⟩
  refine codeAny_call_builtin_at (Code.quiet_builtin _ (by decide +kernel)) entry_typeCall (wpAny_check_type_call_sub hC (type_call2 (hrest := hrest) F hC X hi hf fun h' e hm => ?_))
  exact hq h' e hm
end
end Nt89

namespace Nt89
set_option maxRecDepth 100000
open PySem.Builtin PySem.Builtin.ObjectAttr
/-- an exception object with its args tuple at t -/
abbrev excObj (C t : Addr) (od : Option Addr) : Obj := { cls := .ref C, dict := od, data := .fields #[.ref t, .none, .none, .none, .bool false, .none] }
section
variable {prog : Program} {w : World} {M : Model} {A : Around} {E : Value → Shared → Prop} {s : Shared} {K : Frag} {C D x t : Addr} {bmB : List Value} {cd : ClassData} {name : Str} {v : Value} {B : String}
theorem looks_mro {h : Heap} (X : K.In h) (hc : clsIn K C = some cd) : Looks M h (mroOf (.ref C)) cd.mro := (looks_clsIn X hc).andThen .now

theorem exc_store {Q : Unit → Shared → Prop} (X : K.In s.heap) (hx : s.heap.get? x = some (excObj C t none))
    (hc : clsIn K C = some cd) (hm : cd.mro = .ref C :: .ref D :: bmB) (hdict : cd.hasDict = true) (SF : StoreFacts B bmB "object.__setattr__" "object")
    (hs : findIn K (.ref C) "__setattr__" = some (some (.builtin "object.__setattr__"))) (ht : takerIn K C name = some none)
    (h : ∀ h' tk' d, (∀ b o, b ≠ x → s.heap.get? b = some o → h'.get? b = some o) → h'.get? x = some (excObj C t (some d)) → Q () { s with heap := h', toks := tk' }) :
    wpAny (model prog w) A (setAttr (.ref x) name v) Q E s := by
  have I : InstAt s.heap x (excObj C t none) C none := ⟨hx, rfl, rfl, trivial⟩
  refine set_plain X I hs ?_
  have S0 := PySem.F.store_object
  have hasO : cd.mro.contains (.type "object") = true := by
    rw [hm, List.contains_cons, List.contains_cons, SF.hasOwner]
    rfl
  have ne : cd.mro.isEmpty = false := by rw [hm]; rfl
  have X1 : K.In ({ s with toks := s.toks + 1 } : Shared).heap := X
  have hx1 : ({ s with toks := s.toks + 1 } : Shared).heap.get? x = some (excObj C t none) := hx
  have I1 : InstAt ({ s with toks := s.toks + 1 } : Shared).heap x (excObj C t none) C none := I
  have sub : Looks (model prog w) ({ s with toks := s.toks + 1 } : Shared).heap (isInstance (.ref x) (.type "object")) true := I1.type.andThen (looks_mroIn X1 (by unfold mroIn; rw [hc, Option.bind_some, if_neg (by rw [ne]; decide), hasO]))
  refine codeAny_call_builtin S0.slot.plain S0.entry (@check_slot (model prog w) _ _ { s with toks := s.toks + 1 } "object.__setattr__" "object" "__setattr__" (.ref x) [.str name s.toks, v] [] _ S0.kind S0.split sub (S0.args (.ref x) (.str name s.toks) v) ?_)
  obtain ⟨attr, ha, hr⟩ := Option.bind_eq_some_iff.mp ht
  have L3 : Looks (model prog w) ({ s with toks := s.toks + 1 } : Shared).heap (storeTaker? attr) none := by
    cases attr with
    | none => exact .now
    | some a =>
      obtain ⟨b, hb, hb2⟩ := Option.map_eq_some_iff.mp hr
      refine (looks_takesIn X1 hb).andThen ?_
      cases b
      · exact .now
      · cases hb2
  rw [osa_eq, refuse_eq]
  refine wpAny_bind (wpAny_bind (I1.type.here (wpAny_bind ((looks_mro X1 hc).here ?_))))
  rw [hm, refuseLoop_ref, refuseLoop_ref, SF.passes]
  refine wpAny_pure (wpAny_bind (I1.type.here (wpAny_bind ((looks_findIn X1 ha).here (wpAny_bind (L3.here ?_))))))
  show wpAny _ _ (storeInOwnDict (.ref x) (.ref C) (.str name s.toks) name v _) _ _ _
  refine wpAny_bind (wpAny_pure (wpAny_bind (wpAny_bind (wpAny_loadPart hx1 (wpAny_bind ((looks_clsIn X1 hc).here ?_))))))
  rw [hdict]
  refine KFB.if_not rfl ?_
  refine KFB.if_not rfl ?_
  refine wpAny_bind (wpAny_alloc ?_)
  have hx2 : (s.heap.push { cls := .type "dict", data := .dict #[] }).get? x = some (excObj C t none) := Heap.get?_push_of_some _ hx
  have hxs : x ≠ s.heap.objs.size := Nat.ne_of_lt (Heap.lt_size hx)
  refine wpAny_bind (wpAny_update hx2 ?_)
  refine wpAny_pure ?_
  have hgd : ((s.heap.push { cls := .type "dict", data := .dict #[] }).update x fun o => { cls := o.cls, dict := some s.heap.objs.size, data := o.data, slots := o.slots }).get? s.heap.objs.size
      = some { cls := .type "dict", data := .dict #[] } :=
    (Heap.get?_update_ne _ _ _ _ hxs.symm).trans (Heap.get?_push_at rfl rfl)
  have hnd : ((s.heap.push { cls := .type "dict", data := .dict #[] }).update x fun o => { cls := o.cls, dict := some s.heap.objs.size, data := o.data, slots := o.slots }).Ns s.heap.objs.size (fun _ => none) :=
    ⟨_, #[], _, hgd, rfl, fun e he => absurd he (by simp), fun _ => rfl⟩
  have hx3 : ((s.heap.push { cls := .type "dict", data := .dict #[] }).update x fun o => { cls := o.cls, dict := some s.heap.objs.size, data := o.data, slots := o.slots }).get? x = some (excObj C t (some s.heap.objs.size)) :=
    Heap.get?_update_self _ hx2 rfl
  show wpAny _ _ (storeInDict s.heap.objs.size (.str name s.toks) name v) _ _ _
  unfold storeInDict newKeyGuard
  refine wpAny_bind (wpAny_pure (wpAny_bind (wpAny_nsSet1 (Heap.Ns1.of_empty hnd) fun h' hn' hs' => ?_)))
  obtain ⟨oD, esD, epD, hoD, hdD, hcD⟩ := hn'.count (Within.cons name v Within.nil)
  refine wpAny_bind (wpAny_lookBehind hoD (by rw [hdD]; exact pastItsLine_dict (Nat.le_trans hcD (by rw [List.length_cons, List.length_nil, sizeLine_eq]; omega))) ?_)
  refine wpAny_pure (h h' _ s.heap.objs.size (fun b o hb e => ?_) ?_)
  · exact (hs'.2 b (Nat.ne_of_lt (Heap.lt_size e))).trans ((Heap.get?_update_ne _ _ _ _ hb).trans (Heap.get?_push_of_some _ e))
  · exact (hs'.2 x hxs).trans hx3

def RaiseOk (K : Frag) (C : Addr) (E : Value → Shared → Prop) (v : Value) (s₁ : Shared) : Prop :=
  ∃ e t od, v = .ref e ∧ K.In s₁.heap ∧ s₁.heap.get? e = some (excObj C t od) ∧ E (.ref e) s₁
theorem raise_rule {e : Expr} {env : Env} {pos : Pos} {Q : Flow → Shared → Prop} {h₀ : Heap} (_X : K.In h₀) (hh : A.handled = none) (hb : subIn K (.ref C) (.type "BaseException") = some true)
    (hty : typeIn K (.ref C) = some (.type "type"))
    (h : wpAny M A (eval e env) (RaiseOk K C E) E s) : wpAny M A (exec (.Raise (some e) none pos) env) Q E s := by
  rw [arm_exec_Raise]
  refine wpAny_bind (wpAny_standAt ?_)
  show wpAny _ _ (raiseStmt env (some (eval e env >>= fun v => standAt pos >>= fun _ => pure v)) none) _ _ _
  unfold raiseStmt
  refine wpAny_bind (wpAny_bind (wpAny_mono h (fun v s₁ hv => ?_) fun _ _ y => y))
  obtain ⟨e, t, od, rfl, X, he, hE⟩ := hv
  refine wpAny_bind (wpAny_standAt (wpAny_pure ?_))
  have T : Looks M s₁.heap (typeOf (.ref e)) (.ref C) := (Looks.ld he).andThen .now
  have I1 : Looks M s₁.heap (isInstance (.ref e) (.type "BaseException")) true := T.andThen (looks_subIn X hb)
  have I2 : Looks M s₁.heap (isType (.ref e)) false := by
    exact (Looks.ld he).andThen .now
  refine wpAny_bind (wpAny_pure ?_)
  show wpAny _ _ (holding _ (excFromValue (.ref e) _) >>= fun e1 => _) _ _ _
  refine wpAny_bind (wpAny_holding ?_)
  unfold excFromValue isExcClass
  refine wpAny_bind (wpAny_bind (I2.here ?_))
  refine KFB.if_not rfl (wpAny_pure ?_)
  refine KFB.if_not rfl ?_
  refine wpAny_bind (I1.here ?_)
  refine KFB.if_so rfl (wpAny_pure ?_)
  show wpAny _ _ (isType (.ref e) >>= fun b => _) _ _ _
  refine wpAny_bind (I2.here ?_)
  refine KFB.if_not rfl ?_
  refine wpAny_bind ?_
  unfold raisedInstance
  refine wpAny_bind (T.here ?_)
  have TT : Looks M s₁.heap (typeOf (.ref C)) (.type "type") := looks_typeIn X hty
  refine wpAny_bind (TT.here ?_)
  refine KFB.if_so (by decide) (wpAny_pure ?_)
  show wpAny _ _ (setFlight (.ref e) none >>= fun _ => raiseNew (.ref e)) _ _ _
  refine wpAny_bind ?_
  unfold setFlight
  refine wpAny_bind (wpAny_field (x := .none) he rfl rfl ?_)
  refine KFB.if_not (by decide) (wpAny_pure ?_)
  exact wpAny_raiseNew_none hh hE
end
end Nt89

namespace Nt89
set_option maxRecDepth 100000
section
variable {prog : Program} {w : World} {M : Model} {A A₀ : Around} {E : Value → Shared → Prop} {s s' : Shared} {K : Frag} {C D L e t a : Addr} {bmB : List Value} {cd : ClassData} {name : Str} {v : Value} {B newId initId : String}
  {base g h₀ : Heap} {outer : List Env} {m : Str → Option Value} {news : List (Addr × Obj)} {scope : Scope} {ccd : Value}

theorem news_ne {o : Obj} {h : Heap} (N : News h₀ L h news) (he : h.get? e = none) : ∀ q ∈ news, q.1 ≠ e := fun q hq z => by
  have := (N q hq).1
  rw [z, he] at this
  cases this

theorem make_exc_K {nm q : Str} {NS : Addr} {bs : List Value} {hdct : Bool} {sn : List Str} {sub : List Value} {ab : Bool} {col : Option Bool} {dd : Option Addr} {k0 k1 k2 k3 k5 : Option Value} {rest : List Value} {fI : Addr} {Q : Value → Shared → Prop}
    (F : Fr h₀ L s.heap m) (X₀ : K.In h₀) (N : News h₀ L s.heap news) (FB : ExcBaseFacts B newId initId bmB)
    (hC : K.lookup C = some (excClassObj nm q C NS bs (.ref D :: bmB) hdct sn sub ab col dd k0 k1 k2 k3 k5 newId)) (hi : findIn K (.ref C) "__init__" = some (some (.ref fI)))
    (hf : typeIn K (.ref fI) = some (.type "function")) (hrest : rest.length ≤ sizeLine)
    (h : ∀ e t h', Fr h₀ L h' m → News h₀ L h' ((e, excObj C t none) :: news) → (∀ q ∈ news, q.1 ≠ e) →
      wpAny (model prog w) (A.under (.builtin "type.__call__" ⟨.ref C :: rest, []⟩)) (call (.ref fI) (.ref e :: rest)) (fun r s' => r = .none ∧ Q (.ref e) s') E { s with heap := h' }) :
    wpAny (model prog w) A (call (.ref C) rest) Q E s := by
  obtain ⟨hh, gg, d, tk, os⟩ := s
  have X : K.In hh := X₀.keeps F.keep
  refine call_exc2 (hrest := hrest) FB (X _ _ hC) X hi hf fun h' e hm => ?_
  obtain ⟨t, ht, _, _⟩ := hm.there
  obtain ⟨oL, es, ep, hL, r⟩ := F.ns
  refine h e t h' ⟨⟨oL, es, ep, hm.keeps _ _ hL, r⟩, fun b o q => hm.keeps _ _ (F.keep b o q), F.above⟩ (fun p hp => ?_) (news_ne (o := excObj C t none) N hm.new)
  rcases List.mem_cons.mp hp with rfl | hp
  · refine ⟨ht, fun z => ?_, ?_⟩
    · have := hm.new
      rw [show e = L from z, hL] at this
      cases this
    · cases z : h₀.get? e with
      | none => rfl
      | some o =>
        have := hm.new
        rw [F.keep _ _ z] at this
        cases this
  · exact ⟨hm.keeps _ _ (N p hp).1, (N p hp).2⟩

theorem exc_store_K {Q : Unit → Shared → Prop} (F : Fr h₀ L s.heap m) (X₀ : K.In h₀) (N : News h₀ L s.heap ((e, excObj C t none) :: news)) (hne : ∀ q ∈ news, q.1 ≠ e)
    (hc : clsIn K C = some cd) (hm : cd.mro = .ref C :: .ref D :: bmB) (hdict : cd.hasDict = true) (SF : StoreFacts B bmB "object.__setattr__" "object")
    (hs : findIn K (.ref C) "__setattr__" = some (some (.builtin "object.__setattr__"))) (ht : takerIn K C name = some none)
    (h : ∀ h' tk' d, Fr h₀ L h' m → News h₀ L h' ((e, excObj C t (some d)) :: news) → Q () { s with heap := h', toks := tk' }) :
    wpAny (model prog w) A (setAttr (.ref e) name v) Q E s := by
  have Ne := N (e, excObj C t none) (.head _)
  refine exc_store (X₀.keeps F.keep) Ne.1 hc hm hdict SF hs ht fun h' tk' d hk hx => h h' tk' d ?_ fun p hp => ?_
  · obtain ⟨oL, es, ep, hL, r⟩ := F.ns
    refine ⟨⟨oL, es, ep, hk _ _ (Ne.2.1).symm hL, r⟩, fun b o q => hk _ _ (fun z => ?_) (F.keep b o q), F.above⟩
    rw [z, Ne.2.2] at q
    cases q
  · rcases List.mem_cons.mp hp with rfl | hp
    · exact ⟨hx, Ne.2⟩
    · exact ⟨hk _ _ (hne p hp) (N p (.tail _ hp)).1, (N p (.tail _ hp)).2⟩

theorem raiseOk_ {od : Option Addr} {Q : Value → Shared → Prop} (F : Fr h₀ L s.heap m) (X₀ : K.In h₀) (N : News h₀ L s.heap ((e, excObj C t od) :: news)) (h : Q (.ref e) s) : RaiseOk K C Q (.ref e) s :=
  ⟨e, t, od, rfl, X₀.keeps F.keep, (N _ (.head _)).1, h⟩

theorem frames_mem {env : Env} {b : Addr} (hf : env.frame = some L) (hm : b ∈ (env :: outer).filterMap (·.frame)) : b = L ∨ b ∈ outer.filterMap (·.frame) := by
  obtain ⟨e', he, hf'⟩ := List.mem_filterMap.mp hm
  rcases List.mem_cons.mp he with rfl | he
  · exact .inl (Option.some.inj (hf'.symm.trans hf))
  · exact .inr (List.mem_filterMap.mpr ⟨e', he, hf'⟩)

theorem leave_exc {env : Env} {od : Option Addr} {Q : Unit → Shared → Prop} (K : Below A base outer g) (F : Fr g L s'.heap m) (N : News g L s'.heap ((e, excObj C t od) :: news)) (hne : ∀ q ∈ news, q.1 ≠ e)
    (hf : env.frame = some L) (hk : env.scope.kind = .function)
    (hQ : ∀ h', RaisedSN base g outer e (.ref C) news h' → g.UpToSlots h' → Q () { s' with heap := h' }) :
    wpAny M (A.deeper env) (leaving env (.ref e)) Q E s' := by
  have K' := pushX K F hf hk
  have Ne := N (e, excObj C t od) (.head _)
  have st : base.StaysIn (hideAll s'.heap (e :: (env :: outer).filterMap (·.frame))) := fun b o q => hideAll_get _ (K'.stays b o q) fun hm => by
    rcases List.mem_cons.mp hm with z | z
    · have := K.stays b o q
      rw [z, Ne.2.2] at this
      cases this
    · rw [(K'.frames.mem z).1] at q
      cases q
  have sg : ∀ b o, g.get? b = some o → b ∉ outer.filterMap (·.frame) → (hideAll s'.heap (e :: (env :: outer).filterMap (·.frame))).get? b = some o := fun b o q nm => hideAll_get _ (F.keep b o q) fun hm => by
    rcases List.mem_cons.mp hm with z | z
    · rw [z, Ne.2.2] at q
      cases q
    · rcases frames_mem hf z with z | z
      · rw [z, kts_self F] at q
        cases q
      · exact nm z
  have hl : ∀ q ∈ news, (hideAll s'.heap (e :: (env :: outer).filterMap (·.frame))).get? q.1 = some q.2 ∧ g.get? q.1 = none ∧ base.get? q.1 = none := fun q hq => by
    have Nq := N q (.tail _ hq)
    refine ⟨hideAll_get _ Nq.1 fun hm => ?_, Nq.2.2, fresh_of_stays K.stays Nq.2.2⟩
    rcases List.mem_cons.mp hm with z | z
    · exact hne q hq z
    · rcases frames_mem hf z with z | z
      · exact Nq.2.1 z
      · obtain ⟨o, ho, _⟩ := (K.frames.mem z).2
        rw [Nq.2.2] at ho
        cases ho
  have hin : ∀ env' ∈ (env :: outer), ∀ b, env'.frame = some b → b ∈ (e :: (env :: outer).filterMap (·.frame)) := fun env' he b hb => .tail _ (List.mem_filterMap.mpr ⟨env', he, hb⟩)
  refine wpAny_leaving_firstW (a0 := .ref t) K'.stack (funFrames_hide K'.frames hin) hf Ne.1 (fun b o hb => of_hideAll _ hb) (hideAll_none _ (.head _)) rfl rfl rfl fun h' hL => ?_
  obtain ⟨k1, ⟨_, _, k2⟩, k3, k4⟩ := hL
  exact hQ h' ⟨_, .ref t, st, sg, hl, k1, hideAll_none _ (.head _), k2, k3⟩ ((Heap.UpToSlots.of_keeps F.keep).trans k4)
end
end Nt89

namespace Nt89
set_option maxRecDepth 100000
section
variable {prog : Program} {w : World} {A₀ A : Around} {s : Shared} {base h₀ : Heap} {env : Env} {L : Addr} {m : Str → Option Value} {news : List (Addr × Obj)} {K : Frag} {p : Program} {loose : List Str} {mean : ExcName → Option Value} {mg mb : Str → Option Value}
    {R : Result → Shared → Prop} {name qual : Str} {params : Arguments} {body : List Stmt} {scope : Scope} {dV kV doc pm cdv ct oc : Value} {an od : Option Addr} {osl : Array (Option Value)} {f : Addr} {args : Args} {binds : List (Str × Value)}

/-- a def that catches, called from the lowest frame, with cells or without -/
theorem code_try (B : Below A₀ base [] h₀) (F : Fr h₀ L s.heap m) (X₀ : K.In h₀) (N : News h₀ L s.heap news) (T : Top p loose mean mg mb h₀) (hA : A.frames = some [env]) (hf : env.frame = some L) (hke : env.scope.kind = .function)
    (ho : K.lookup f = some ⟨oc, od, .func (fnOf name qual params body scope dV kV doc pm an cdv ct), osl⟩) (hcd : codeIn K cdv qual = true) (hroom : A.depth < recursionLimit)
    (hbind : BindsTo s (fnOf name qual params body scope dV kV doc pm an cdv ct) args binds) (hloc : ∀ y ∈ binds, scope.names.lookup y.1 = some .local)
    (h : ∀ g L' h₁, Fr h₀ L g m → Fr g L' h₁ (fun y => binds.reverse.lookup y) → News g L' h₁ news → Below A base [env] g → K.In g → Top p loose mean mg mb g → KtsDicts ([env].filterMap (·.frame)) g →
      wpAny (model prog w) (A.deeper (envOf qual scope L' f cdv)) (execs body (envOf qual scope L' f cdv))
        (fun fl s' => LeaveS0 ([env].filterMap (·.frame)) h₀ L m g R (match fl with | .ret v => v | _ => .none) s')
        (fun e s' => wpAny (model prog w) (A.deeper (envOf qual scope L' f cdv)) (leaving (envOf qual scope L' f cdv) e) (fun _ s'' => R (.error e) s'') (fun e' s'' => R (.error e') s'') s')
        { s with heap := h₁, toks := s.toks + binds.length })
    (hco : scope.isCoroutine = false) (hgen : scope.isGenerator = false) (hk : scope.kind = .function)
    (hcell : ∀ x ∈ scope.names, x.2 ≠ .cell) : codeAny (model prog w) A (.call (.ref f) args) R s := by
  have X := X₀.keeps F.keep
  obtain ⟨FG, BG, st, _⟩ := groundX (R := R) B F N hA hf hke
  refine codeAny_call_def (fd := fnOf name qual params body scope dV kV doc pm an cdv ct) (body := body) (binds := binds) hroom (X _ _ ho) rfl (T.nolimit.keeps F.keep) (codeRec_of X hcd) rfl hbind hcell hloc (fun h₁ hns hk₁ => ?_) hco hgen hk
  obtain ⟨oL, es, ep, hLg, hLd, hLk, hLf⟩ := FG.ns
  have mem : ∀ b, b ∈ [env].filterMap (·.frame) → b = L := fun b hb => by
    obtain ⟨e', he, hf'⟩ := List.mem_filterMap.mp hb
    rw [List.mem_singleton.mp he, hf] at hf'
    exact (Option.some.inj hf').symm
  refine wpAny_mono (h _ s.heap.objs.size h₁ FG ⟨hns, fun b o e => hk₁ b o (of_hideAll _ e), Nat.le_of_eq (hideAll_size _ _)⟩
    (fun p hp => ⟨hk₁ _ _ (N p hp).1, Nat.ne_of_lt (Heap.lt_size (N p hp).1), hideAll_none _ (List.mem_map_of_mem hp)⟩) BG (X₀.keeps st) (T.keeps st) (fun b hb => by
      rw [mem b hb]
      exact ⟨oL, es, ep, hLg, hLd⟩)) (fun fl s' hl => ?_) fun _ _ y => y
  obtain ⟨g', L', m', news', T', F', N', k⟩ := hl
  have nL₀ : h₀.get? L = none := kts_self F
  obtain ⟨sl, hs⟩ := T'.up hLg
  refine k ⟨⟨_, es, ep, F'.keep _ _ hs, hLd, hLk, hLf⟩, fun b o e => F'.keep b o (T'.other b o (st b o e) (fun q => by
    rw [mem b q, nL₀] at e
    cases e)), F.above⟩ fun p hp => ⟨(N' p hp).1, fun q => ?_, ?_⟩
  · have := (N' p hp).2.2
    rw [q, hs] at this
    cases this
  · cases q : h₀.get? p.1 with
    | none => rfl
    | some o =>
      obtain ⟨sl', hs'⟩ := T'.up (st _ _ q)
      have := (N' p hp).2.2
      rw [hs'] at this
      cases this
end
section
variable {prog : Program} {w : World} {A : Around} {E : Value → Shared → Prop} {s : Shared} {b c : Array UInt8} {t u : Tok} {ks ls : List Int} {Q : Value → Shared → Prop}
theorem toList_of_ints (hb : KBw.bInts b = ks) (hc : KBw.bInts c = ls) : b.toList = c.toList ↔ ks = ls := by
  subst hb hc
  constructor
  · intro e
    show b.toList.map _ = c.toList.map _
    rw [e]
  · intro e
    have inj : ∀ (x y : List UInt8), (x.map fun c => ((c.toNat : Nat) : Int)) = (y.map fun c => ((c.toNat : Nat) : Int)) → x = y := by
      intro x
      induction x with
      | nil =>
        intro y hy
        cases y with
        | nil => rfl
        | cons _ _ => cases hy
      | cons a r ih =>
        intro y hy
        cases y with
        | nil => cases hy
        | cons a' r' =>
          rw [List.map_cons, List.map_cons] at hy
          injection hy with h1 h2
          rw [ih r' h2, UInt8.toNat_inj.mp (Int.ofNat.inj h1)]
    exact inj _ _ e
theorem ne_same (hb : KBw.bInts b = ks) (hc : KBw.bInts c = ls) (e : ks = ls) (h : Q (.bool false) s) : wpAny (model prog w) A (compareOp .NotEq (.bytes b t) (.bytes c u)) Q E s := by
  refine ne_bytes ?_
  have e' : (b.toList != c.toList) = false := by
    rw [(toList_of_ints hb hc).mpr e]
    simp
  rw [e']
  exact h
theorem ne_diff (hb : KBw.bInts b = ks) (hc : KBw.bInts c = ls) (e : ks ≠ ls) (h : Q (.bool true) s) : wpAny (model prog w) A (compareOp .NotEq (.bytes b t) (.bytes c u)) Q E s := by
  refine ne_bytes ?_
  have e' : (b.toList != c.toList) = true := by
    rw [bne_iff_ne]
    exact fun z => e ((toList_of_ints hb hc).mp z)
  rw [e']
  exact h
end
end Nt89

namespace Nt89
theorem fillD1 : PySem.Challenge.rw_nt0089_01 = PySem.Challenge.rw_nt0089_01 ∧ Nt89.hd.heap_39 = Nt89.hd.heap_39 := by
  w_top off
  k_fill
  exact ⟨rfl, rfl⟩
section
variable {prog : Program} {w : World} {A : Around} {E : Value → Shared → Prop} {s : Shared} {value slice : PySem.Expr} {b : Array UInt8} {t : Tok} {h₀ : Heap} {L : Addr} {m : PySem.Str → Option Value} {news : List (Addr × Obj)} {Q : Value → Shared → Prop} {ks : List Int} {i j : Int} {ti tj : Tok}
theorem slice_ij (hF : Fr h₀ L s.heap m) (hN : News h₀ L s.heap news) (hk : KBw.bInts b = ks) (h0 : 0 ≤ i) (h1 : i ≤ j) (h2 : j ≤ ks.length) (hz : ks.length ≤ 1000)
    (h : ∀ h' t' k b', Fr h₀ L h' m → News h₀ L h' news → KBw.bInts b' = (ks.drop i.toNat).take (j - i).toNat → Q (.bytes b' t') { s with heap := h', toks := k })
    (hs : subscripted slice false (.bytes b t) (.ref s.heap.objs.size) = operate [.ref s.heap.objs.size, .bytes b t] (getItem (.bytes b t) (.ref s.heap.objs.size)) := by with_unfolding_all rfl)
    (ht : ∀ r, letTemporaryGo value (.bytes b t) r = pure () := by intro _; with_unfolding_all rfl) :
    wpAny (model prog w) A (subscriptTail value slice (.bytes b t) (.ref s.heap.objs.size)) Q E { s with heap := s.heap.push { cls := .type "slice", data := .fields #[.int i ti, .int j tj, .none] } } := by
  refine KBc.slice_K (lo := some i) (hi := some j) hF hN hk (by constructor) (by constructor) (by omega) (fun h' t' k F' N' e => h h' t' k _ F' N' (e.trans ?_)) hs ht
  obtain ⟨I, rfl⟩ := Int.eq_ofNat_of_zero_le h0
  obtain ⟨J, rfl⟩ := Int.eq_ofNat_of_zero_le (Int.le_trans h0 h1)
  show (ks.drop (clipAt ks.length (I : Int))).take (clipAt ks.length (J : Int) - clipAt ks.length (I : Int)) = _
  rw [clipAt_nat, clipAt_nat]
  have e1 : min I ks.length = I := by omega
  have e2 : min J ks.length = J := by omega
  rw [e1, e2]
  have e3 : ((J : Int) - (I : Int)).toNat = J - I := by omega
  rw [e3, Int.toNat_natCast]
theorem slice_to (hF : Fr h₀ L s.heap m) (hN : News h₀ L s.heap news) (hk : KBw.bInts b = ks) (h1 : 0 ≤ j) (hz : ks.length ≤ 1000)
    (h : ∀ h' t' k b', Fr h₀ L h' m → News h₀ L h' news → KBw.bInts b' = ks.take j.toNat → Q (.bytes b' t') { s with heap := h', toks := k })
    (hs : subscripted slice false (.bytes b t) (.ref s.heap.objs.size) = operate [.ref s.heap.objs.size, .bytes b t] (getItem (.bytes b t) (.ref s.heap.objs.size)) := by with_unfolding_all rfl)
    (ht : ∀ r, letTemporaryGo value (.bytes b t) r = pure () := by intro _; with_unfolding_all rfl) :
    wpAny (model prog w) A (subscriptTail value slice (.bytes b t) (.ref s.heap.objs.size)) Q E { s with heap := s.heap.push { cls := .type "slice", data := .fields #[.none, .int j tj, .none] } } := by
  refine KBc.slice_K (lo := none) (hi := some j) hF hN hk (by constructor) (by constructor) (by omega) (fun h' t' k F' N' e => h h' t' k _ F' N' (e.trans ?_)) hs ht
  obtain ⟨J, rfl⟩ := Int.eq_ofNat_of_zero_le h1
  show (ks.drop 0).take (clipAt ks.length (J : Int) - 0) = _
  rw [clipAt_nat, Nat.sub_zero, List.drop_zero, Int.toNat_natCast]
  by_cases hc : J ≤ ks.length
  · rw [Nat.min_eq_left hc]
  · rw [Nat.min_eq_right (by omega), List.take_of_length_le (Nat.le_refl _), List.take_of_length_le (by omega)]
theorem slice_from (hF : Fr h₀ L s.heap m) (hN : News h₀ L s.heap news) (hk : KBw.bInts b = ks) (h1 : 0 ≤ i) (hz : ks.length ≤ 1000)
    (h : ∀ h' t' k b', Fr h₀ L h' m → News h₀ L h' news → KBw.bInts b' = ks.drop i.toNat → Q (.bytes b' t') { s with heap := h', toks := k })
    (hs : subscripted slice false (.bytes b t) (.ref s.heap.objs.size) = operate [.ref s.heap.objs.size, .bytes b t] (getItem (.bytes b t) (.ref s.heap.objs.size)) := by with_unfolding_all rfl)
    (ht : ∀ r, letTemporaryGo value (.bytes b t) r = pure () := by intro _; with_unfolding_all rfl) :
    wpAny (model prog w) A (subscriptTail value slice (.bytes b t) (.ref s.heap.objs.size)) Q E { s with heap := s.heap.push { cls := .type "slice", data := .fields #[.int i ti, .none, .none] } } := by
  refine KBc.slice_K (lo := some i) (hi := none) hF hN hk (by constructor) (by constructor) (by omega) (fun h' t' k F' N' e => h h' t' k _ F' N' (e.trans ?_)) hs ht
  obtain ⟨I, rfl⟩ := Int.eq_ofNat_of_zero_le h1
  show (ks.drop (clipAt ks.length (I : Int))).take (ks.length - clipAt ks.length (I : Int)) = _
  rw [clipAt_nat, Int.toNat_natCast]
  by_cases hc : I ≤ ks.length
  · rw [Nat.min_eq_left hc, List.take_of_length_le (by rw [List.length_drop]; omega)]
  · rw [Nat.min_eq_right (by omega), Nat.sub_self, List.take_zero, List.drop_eq_nil_of_le (by omega)]
end
end Nt89

namespace Nt89
theorem fillD2 : PySem.Challenge.rw_nt0089_01 = PySem.Challenge.rw_nt0089_01 ∧ Nt89.hd.heap_39 = Nt89.hd.heap_39 := by
  w_top off
  k_fill
  exact ⟨rfl, rfl⟩
section
local macro_rules | `(tactic| walk_at "subscriptTail") => `(tactic| (k_here; (with_reducible show wpAny _ _ (subscriptTail _ (Expr.Slice (some _) (some _) none _) (Value.bytes _ _) (Value.ref _)) _ _ _); (with_reducible rename Fr _ _ _ _ => F'); (with_reducible rename News _ _ _ _ => N'); (refine slice_ij (s := ⟨_, _, _, _, _⟩) F' N' (by assumption) (by omega) (by omega) (by omega) (by assumption) ?_); intro _ _ _ _ F' N' sliceK))
local macro_rules | `(tactic| walk_at "call ref") => `(tactic| (k_here; (with_reducible show wpAny _ _ (call (Value.ref _) [Value.bytes _ _, Value.str _ _]) _ _ _); kfb_any; k_dflt (refine KFB.call_big (by k_asm) (by k_mem) (by assumption) ?z ?_); (case z => (rw [List.length_take]; omega)); intro _ _))
set_option maxRecDepth 100000 in
set_option maxHeartbeats 4000000 in
theorem get1 {prog : Program} {w : World} {p : Program} {loose : List Str} {mean : ExcName → Option Value} {mg mb : Str → Option Value}
    {news : List (Addr × Obj)} {b : Array UInt8} {ks : List Int} {i k : Int} {tb ti tk : Tok} (hb : KBw.bInts b = ks) (hz : ks.length ≤ 1000) (hi0 : 0 ≤ i) (hk0 : 1 ≤ k) (hk1 : k ≤ 4) (hik : i + k ≤ ks.length)
    (dp un : Nat) (gd : Option (List Code)) (cn : Str) (cs : Scope) (a : Addr) (ccd : Value) (cl : List (Str × Addr)) (outer : List Env) (A₀ : Around) (base h₀ : Heap) (L : Addr) (m : Str → Option Value) (s : Shared) (Q E : Value → Shared → Prop)
    (B : Below A₀ base outer h₀) (F : Fr h₀ L s.heap m) (X : (Nt89.hd.heap_39 w.params).In h₀) (N : News h₀ L s.heap news) (T : Top p loose mean mg mb h₀) (hk : cs.kind = .function)
    (hd : dp + 1 < recursionLimit) (hu : un + 8 < cLine)
    (hret : ∀ (t : Tok) (h' : Heap) (tk' : Nat), Fr h₀ L h' m → News h₀ L h' news → Q (.int (KFB.value ((ks.drop i.toNat).take k.toNat)) t) { s with heap := h', toks := tk' }) :
    wpAny (model prog w) (ktrTop dp un gd cn cs L a ccd cl outer) (call (.ref 60) [.bytes b tb, .int i ti, .int k tk]) Q E s := by
  refine wpAny_call ?_
  k_dflt ktr_enter
  k_steps
  have e : (i + k - i).toNat = k.toNat := by omega
  rw [e]
  exact hret _ _ _ (by k_asm) (news_tail (by assumption))
end

theorem item_c {prog : Program} {w : World} {A : Around} {E : Value → Shared → Prop} {s : Shared} {value slice : PySem.Expr} {b : Array UInt8} {t ui : Tok} {Q : Value → Shared → Prop} {ks : List Int} {i : Int}
    (hk : KBw.bInts b = ks) (hfit : ks.length ≤ 1000) (h0 : 0 ≤ i) (h1 : i < (ks.length : Int))
    (h : ∀ c t' k, c = ks.getD i.toNat 0 → 0 ≤ c → c < 256 → Q (.int c t') { s with toks := k })
    (hs : subscripted slice false (.bytes b t) (.int i ui) = operate [.bytes b t, .int i ui] (getItem (.bytes b t) (.int i ui)) := by with_unfolding_all rfl)
    (ht : ∀ r, letTemporaryGo value (.bytes b t) r = pure () := by intro _; with_unfolding_all rfl) : wpAny (model prog w) A (subscriptTail value slice (.bytes b t) (.int i ui)) Q E s :=
  KBw.item_K hk (by omega) h0 h1 (fun t' k a b => h _ t' k rfl a b) hs ht

def magicL : List Int := [112, 97, 103, 101, 98, 97, 115, 101]
/-- the page size that a head tells -/
def pageOf (ks : List Int) : Int := KFB.value ((ks.drop 8).take 2)

section
variable {prog : Program} {w : World} {p : Program} {loose : List Str} {mean : ExcName → Option Value} {mg mb : Str → Option Value}
    {dp un : Nat} {gd : Option (List Code)} {cn : Str} {cs : Scope} {a : Addr} {ccd : Value} {cl : List (Str × Addr)} {outer : List Env} {A₀ : Around} {base h₀ : Heap} {L : Addr} {m : Str → Option Value} {s : Shared} {Q E : Value → Shared → Prop}
theorem getU {news : List (Addr × Obj)} {b : Array UInt8} {ks : List Int} {i k : Int} {tb ti tk : Tok} (hb : KBw.bInts b = ks) (hz : ks.length ≤ 1000) (hi0 : 0 ≤ i) (hk0 : 1 ≤ k) (hk1 : k ≤ 4) (hik : i + k ≤ ks.length)
    (B : Below A₀ base outer h₀) (F : Fr h₀ L s.heap m) (X : (Nt89.hd.heap_39 w.params).In h₀) (N : News h₀ L s.heap news) (T : Top p loose mean mg mb h₀) (hk : cs.kind = .function)
    (hd : dp + 1 < recursionLimit) (hu : un + 8 < cLine)
    (hret : ∀ (v : Int) (t : Tok) (h' : Heap) (tk' : Nat), Fr h₀ L h' m → News h₀ L h' news → v = KFB.value ((ks.drop i.toNat).take k.toNat) → Q (.int v t) { s with heap := h', toks := tk' }) :
    wpAny (model prog w) (ktrTop dp un gd cn cs L a ccd cl outer) (call (.ref 60) [.bytes b tb, .int i ti, .int k tk]) Q E s :=
  get1 hb hz hi0 hk0 hk1 hik _ _ _ _ _ _ _ _ _ _ _ _ _ _ _ _ _ B F X N T hk hd hu fun t h' tk' F' N' => hret _ t h' tk' F' N' rfl
end

section
local macro_rules | `(tactic| walk_at "call ref") => `(tactic| (k_here; (with_reducible show wpAny _ _ (call (Value.ref 60) [Value.bytes _ _, Value.int _ _, Value.int _ _]) _ _ _); k_dflt (
  refine' getU ?kb ?kz ?k1 ?k2 ?k3 ?k4 ?kB ?kF ?kX ?kN ?kT ?kK ?kd ?ku ?_
  (case kb => assumption)
  (case kz => assumption)
  (case kB => k_asm)
  (case kF => k_asm)
  (case kX => k_asm)
  (case kN => k_asm)
  (case kT => k_asm)
  (case kK => first | exact rfl | assumption)
  (case k1 => first | decide | omega)
  (case k2 => first | decide | omega)
  (case k3 => first | decide | omega)
  (case k4 => omega)
  (case kd => ktr_room)
  (case ku => ktr_units)
  k_whole
  intro v' t' h' tk' F' N' getE
  (try simp only [Int.reduceToNat, Int.reduceAdd, Int.reduceMul] at getE)
  (try dsimp only)
  (try k_fold)
  (try k_sweep))))
local macro_rules | `(tactic| walk_at "subscriptTail") => `(tactic| (k_here; (with_reducible show wpAny _ _ (subscriptTail _ (Expr.Slice none (some _) none _) (Value.bytes _ _) (Value.ref _)) _ _ _); (with_reducible rename Fr _ _ _ _ => F'); (with_reducible rename News _ _ _ _ => N'); (refine slice_to (s := ⟨_, _, _, _, _⟩) F' N' (by assumption) (by first | decide | omega) (by assumption) ?_); intro _ _ _ _ F' N' sliceK))
local macro_rules | `(tactic| walk_at "subscriptTail") => `(tactic| (k_here; (with_reducible show wpAny _ _ (subscriptTail _ _ (Value.bytes _ _) (Value.int _ _)) _ _ _); (refine item_c (by assumption) (by assumption) (by first | decide | omega) (by omega) ?_); intro _ _ _ itemE itemL itemH; (try simp only [Int.reduceToNat] at itemE)))
local macro_rules | `(tactic| walk_at "call type:bytes") => `(tactic| (k_here; (with_reducible show wpAny _ _ (call (Value.type "bytes") [Value.bytes _ _]) _ _ _); (refine bytes_same ?_); intro _ _))
local macro_rules | `(tactic| walk_at "compareOp NotEq bytes bytes") => `(tactic| (k_here; k_dflt (first
  | (refine ne_same (by assumption) (rfl : KBw.bInts _ = magicL) (by assumption) ?_)
  | (refine ne_diff (by assumption) (rfl : KBw.bInts _ = magicL) (by assumption) ?_))))
local macro_rules | `(tactic| walk_at "exec Raise some none") => `(tactic| (k_here; k_dflt (refine' raise_rule (C := 44) ?h0 ?h1 ?h2 ?h3 ?_; (case h0 => k_asm); (case h1 => rfl); (case h2 => k_is); (case h3 => k_is); k_whole); (try k_fold)))
local macro_rules | `(tactic| walk_at "call ref") => `(tactic| (k_here; (with_reducible show wpAny _ _ (call (Value.ref 44) [_]) _ _ _); k_dflt (
  refine' make_exc_K (by k_asm) (by k_asm) (by k_asm) PySem.F.excBase_Exception (by k_is) (by k_is) (by k_is) (by size_fits) ?_
  k_whole
  intros
  (try k_sweep))))
local macro_rules | `(tactic| k_room) => `(tactic| ktr_room)
local macro_rules | `(tactic| walk_at "CompSrc") => `(tactic| (k_here; k_dflt (refine LCg.CompSrc.range (by rfl) (by k_asm) (by k_asm) (by assumption) (by first | decide | rfl) (by first | rfl | decide) (by first | size_fits | exact Nat.le_of_ble_eq_true rfl) ?_; intro g'; lcg_lit)))
local macro_rules | `(tactic| walk_at "setAttr ref") => `(tactic| (k_here; k_dflt (
  refine' exc_store_K (by k_asm) (by k_asm) (by k_asm) (by assumption) (by k_is) (by exact rfl) (by exact rfl) PySem.F.store_Exception (by k_is) (by k_is) ?_
  k_whole
  intros
  (try k_sweep))))
local macro_rules | `(tactic| walk_at "RaiseOk") => `(tactic| k_dflt (
  refine' raiseOk_ (by k_asm) (by k_asm) (by k_asm) ?_
  k_whole))
local macro_rules | `(tactic| walk_at "leaving ref") => `(tactic| (k_here; k_dflt (
  refine' leave_exc (by assumption) (by k_asm) (by k_asm) (by assumption) (by exact rfl) (by exact rfl) ?_
  k_whole
  intro h' R' U')))
local macro_rules | `(tactic| walk_at "CompEnd") => `(tactic| refine LCg.CompEnd.intro (by assumption) (by assumption) _ (fun p hp => hp) (by assumption) (by lcg_src) ?_)
theorem raised_sub {base G : Heap} {l : List Env} {e : Addr} {cls : Value} {news news' : List (Addr × Obj)} {h : Heap} (R : RaisedSN base G l e cls news' h) (hs : ∀ p ∈ news, p ∈ news') : RaisedSN base G l e cls news h := by
  obtain ⟨B, a0, r1, r2, r3, r4⟩ := R
  exact ⟨B, a0, r1, r2, fun p hp => r3 p (hs p hp), r4⟩
set_option maxRecDepth 100000 in
set_option maxHeartbeats 8000000 in
theorem bad1 {prog : Program} {w : World} {p : Program} {loose : List Str} {mean : ExcName → Option Value} {mg mb : Str → Option Value}
    {news : List (Addr × Obj)} {b : Array UInt8} {ks : List Int} {tb : Tok} (hb : KBw.bInts b = ks) (hz : ks.length ≤ 1000) (hbad : ks.length < 32)
    (dp un : Nat) (gd : Option (List Code)) (cn : Str) (cs : Scope) (a : Addr) (ccd : Value) (cl : List (Str × Addr)) (outer : List Env) (A₀ : Around) (base h₀ : Heap) (L : Addr) (m : Str → Option Value) (s : Shared) (Q E : Value → Shared → Prop)
    (B : Below A₀ base outer h₀) (F : Fr h₀ L s.heap m) (X : (Nt89.hd.heap_39 w.params).In h₀) (N : News h₀ L s.heap news) (T : Top p loose mean mg mb h₀) (hk : cs.kind = .function)
    (hd : dp + 3 < recursionLimit) (hu : un + 24 < cLine)
    (hE : ∀ (g : Heap) (e : Addr) (h' : Heap) (tk' : Nat), Fr h₀ L g m → RaisedSN base g (envX cn cs L a ccd cl :: outer) e (.ref 44) news h' → g.UpToSlots h' → E (.ref e) { s with heap := h', toks := tk' }) :
    wpAny (model prog w) (ktrTop dp un gd cn cs L a ccd cl outer) (call (.ref 94) [.bytes b tb]) Q E s := by
  refine wpAny_call ?_
  k_dflt (
    refine' code_defC ?k1 ?k2 ?k3 ?k4 ?k5 ?kA ?kF ?kK ?k6 ?k7 ?k8 ?k9 ?kB ?kD ?_ ?c2 ?c3 ?c4
    (case kA => exact rfl)
    (case kF => exact rfl)
    (case kK => assumption)
    (case k1 => k_asm)
    (case k2 => k_asm)
    (case k3 => k_asm)
    (case k4 => k_asm)
    (case k5 => k_asm)
    (case k6 => k_is)
    (case k7 => k_is)
    (case k8 => ktr_room)
    (case k9 => exact BindsTo.of_eq rfl)
    (case kB => exact rfl)
    (case kD => decide +kernel)
    (case c2 => exact rfl)
    (case c3 => exact rfl)
    (case c4 => exact rfl)
    k_whole
    intro g' L' h' tk' cells' FG' F' N' Y' B' X' T' l1
    k_cells Y'
    (try simp only [List.cons_append, List.nil_append] at N')
    (try dsimp only)
    (try k_fold))
  k_steps
  all_goals first
    | (refine' hE _ _ _ _ ?f (raised_sub ?r ?s) ?u; (case f => assumption); (case r => assumption); (case u => assumption); (case s => (intro p hp; repeat (first | exact hp | apply List.Mem.tail))))
    | (exfalso; omega)

set_option maxRecDepth 100000 in
set_option maxHeartbeats 8000000 in
theorem bad2 {prog : Program} {w : World} {p : Program} {loose : List Str} {mean : ExcName → Option Value} {mg mb : Str → Option Value}
    {news : List (Addr × Obj)} {b : Array UInt8} {ks : List Int} {tb : Tok} (hb : KBw.bInts b = ks) (hz : ks.length ≤ 1000) (hlen : 32 ≤ ks.length) (hmg : ks.take 8 ≠ magicL)
    (dp un : Nat) (gd : Option (List Code)) (cn : Str) (cs : Scope) (a : Addr) (ccd : Value) (cl : List (Str × Addr)) (outer : List Env) (A₀ : Around) (base h₀ : Heap) (L : Addr) (m : Str → Option Value) (s : Shared) (Q E : Value → Shared → Prop)
    (B : Below A₀ base outer h₀) (F : Fr h₀ L s.heap m) (X : (Nt89.hd.heap_39 w.params).In h₀) (N : News h₀ L s.heap news) (T : Top p loose mean mg mb h₀) (hk : cs.kind = .function)
    (hd : dp + 3 < recursionLimit) (hu : un + 24 < cLine)
    (hE : ∀ (g : Heap) (e : Addr) (h' : Heap) (tk' : Nat), Fr h₀ L g m → RaisedSN base g (envX cn cs L a ccd cl :: outer) e (.ref 44) news h' → g.UpToSlots h' → E (.ref e) { s with heap := h', toks := tk' }) :
    wpAny (model prog w) (ktrTop dp un gd cn cs L a ccd cl outer) (call (.ref 94) [.bytes b tb]) Q E s := by
  refine wpAny_call ?_
  k_dflt (
    refine' code_defC ?k1 ?k2 ?k3 ?k4 ?k5 ?kA ?kF ?kK ?k6 ?k7 ?k8 ?k9 ?kB ?kD ?_ ?c2 ?c3 ?c4
    (case kA => exact rfl)
    (case kF => exact rfl)
    (case kK => assumption)
    (case k1 => k_asm)
    (case k2 => k_asm)
    (case k3 => k_asm)
    (case k4 => k_asm)
    (case k5 => k_asm)
    (case k6 => k_is)
    (case k7 => k_is)
    (case k8 => ktr_room)
    (case k9 => exact BindsTo.of_eq rfl)
    (case kB => exact rfl)
    (case kD => decide +kernel)
    (case c2 => exact rfl)
    (case c3 => exact rfl)
    (case c4 => exact rfl)
    k_whole
    intro g' L' h' tk' cells' FG' F' N' Y' B' X' T' l1
    k_cells Y'
    (try simp only [List.cons_append, List.nil_append] at N')
    (try dsimp only)
    (try k_fold))
  k_steps
  all_goals first
    | (refine' hE _ _ _ _ ?f (raised_sub ?r ?s) ?u; (case f => assumption); (case r => assumption); (case u => assumption); (case s => (intro p hp; repeat (first | exact hp | apply List.Mem.tail))))
    | (exfalso; omega)

/-- an entry of an object's dict under a written name -/
abbrev ent (w : World) (name : String) (q : Tok) (v : Int) (t : Tok) : DictEntry := ⟨PyData.keyHash w.params (Str.ofString name), .str (Str.ofString name) q, .int v t⟩
theorem head_lt {x dx : Addr} {news : List (Addr × Obj)} (h1 : ∀ q ∈ news, q.1 < dx) (h2 : dx < x) : ∀ q ∈ ((dx, default) : Addr × Obj) :: news, q.1 < x := fun q hq => by
  rcases List.mem_cons.mp hq with rfl | hq
  · exact h2
  · exact Nat.lt_trans (h1 q hq) h2
set_option maxRecDepth 100000 in
set_option maxHeartbeats 8000000 in
theorem made_head {prog : Program} {w : World} {p : Program} {loose : List Str} {mean : ExcName → Option Value} {mg mb : Str → Option Value}
    {dp un : Nat} {gd : Option (List Code)} {cn : Str} {cs : Scope} {a : Addr} {ccd : Value} {cl : List (Str × Addr)} {outer : List Env} {A₀ : Around} {base h₀ : Heap} {L : Addr} {m : Str → Option Value} {s : Shared} {Q E : Value → Shared → Prop}
    {news : List (Addr × Obj)} {ps v0 v1 v2 v3 v4 c30 c31 : Int} {t0 t1 t2 t3 t4 t5 t6 t7 : Tok}
    (B : Below A₀ base outer h₀) (F : Fr h₀ L s.heap m) (X : (Nt89.hd.heap_39 w.params).In h₀) (N : News h₀ L s.heap news) (T : Top p loose mean mg mb h₀) (hk : cs.kind = .function)
    (hd : dp + 1 < recursionLimit) (hu : un + 8 < cLine)
    (hret : ∀ (x dx : Addr) (q0 q1 q2 q3 q4 q5 q6 q7 : Tok) (h' : Heap) (tk' : Nat), Fr h₀ L h' m →
      News h₀ L h' ((x, instObj 100 dx) :: (dx, dictOf [ent w "page_size" q0 ps t0, ent w "change_counter" q1 v0 t1, ent w "page_count" q2 v1 t2, ent w "free_trunk" q3 v2 t3, ent w "free_count" q4 v3 t4, ent w "schema_cookie" q5 v4 t5, ent w "wal" q6 c30 t6, ent w "user_version" q7 c31 t7] 8) :: news) →
      (∀ q ∈ ((dx, default) : Addr × Obj) :: news, q.1 < x) → (∀ q ∈ news, q.1 < dx) →
      Q (.ref x) { s with heap := h', toks := tk' }) :
    wpAny (model prog w) (ktrTop dp un gd cn cs L a ccd cl outer) (call (.ref 100) [.int ps t0, .int v0 t1, .int v1 t2, .int v2 t3, .int v3 t4, .int v4 t5, .int c30 t6, .int c31 t7]) Q E s := by
  obtain ⟨knd, nms, ig, ic⟩ := cs
  have hk' : knd = .function := hk
  subst hk'
  k_steps
  refine' hret _ _ _ _ _ _ _ _ _ _ _ _ ?zf ?zn ?zl ?zm
  (case zf => k_asm)
  (case zn => k_asm)
  (case zl => exact head_lt (by assumption) (by assumption))
  (case zm => assumption)
local macro_rules | `(tactic| walk_at "call ref") => `(tactic| (k_here; (with_unfolding_all show wpAny _ _ (call (Value.ref 100) [Value.int _ _, Value.int _ _, Value.int _ _, Value.int _ _, Value.int _ _, Value.int _ _, Value.int _ _, Value.int _ _]) _ _ _); k_dflt (
  refine' made_head (by k_asm) (by k_asm) (by k_asm) (by k_asm) (by k_asm) (by first | exact rfl | assumption) (by ktr_room) (by ktr_units) ?_
  k_whole
  intros
  rename_i l1 l2
  (try k_lt l1)
  (try k_lt l2)
  (try dsimp only)
  (try k_fold)
  (try k_sweep))))
theorem news_keep2 {h₀ h : Heap} {L : Addr} {a b c d : Addr × Obj} {l : List (Addr × Obj)} (N : News h₀ L h (a :: b :: c :: d :: l)) : News h₀ L h (a :: b :: l) := fun p hp => by
  rcases List.mem_cons.mp hp with rfl | hp
  · exact N _ (.head _)
  · rcases List.mem_cons.mp hp with rfl | hp
    · exact N _ (.tail _ (.head _))
    · exact N _ (.tail _ (.tail _ (.tail _ (.tail _ hp))))
theorem allLt_3 {P R : Prop} {x : Addr} {l : List (Addr × Obj)} (h : P ∧ R ∧ AllLt x l) : ∀ q ∈ l, q.1 < x := ktn_ltOf h.2.2
set_option maxRecDepth 100000 in
set_option maxHeartbeats 8000000 in
theorem long1 {prog : Program} {w : World} {p : Program} {loose : List Str} {mean : ExcName → Option Value} {mg mb : Str → Option Value}
    {news : List (Addr × Obj)} {b : Array UInt8} {ks : List Int} {tb : Tok} (hb : KBw.bInts b = ks) (hz : ks.length ≤ 1000) (hlen : 32 ≤ ks.length) (hmg : ks.take 8 = magicL)
    (dp un : Nat) (gd : Option (List Code)) (cn : Str) (cs : Scope) (a : Addr) (ccd : Value) (cl : List (Str × Addr)) (outer : List Env) (A₀ : Around) (base h₀ : Heap) (L : Addr) (m : Str → Option Value) (s : Shared) (Q E : Value → Shared → Prop)
    (B : Below A₀ base outer h₀) (F : Fr h₀ L s.heap m) (X : (Nt89.hd.heap_39 w.params).In h₀) (N : News h₀ L s.heap news) (T : Top p loose mean mg mb h₀) (hk : cs.kind = .function)
    (hd : dp + 3 < recursionLimit) (hu : un + 24 < cLine)
    (hret : 64 ≤ KFB.value ((ks.drop 8).take 2) → KFB.value ((ks.drop 8).take 2) ≤ 32768 → ks.getD 30 0 ≤ 1 → ∀ (x dx : Addr) (ps v0 v1 v2 v3 v4 c30 c31 : Int) (q0 q1 q2 q3 q4 q5 q6 q7 t0 t1 t2 t3 t4 t5 t6 t7 : Tok) (h' : Heap) (tk' : Nat), Fr h₀ L h' m →
      News h₀ L h' ((x, instObj 100 dx) :: (dx, dictOf [ent w "page_size" q0 ps t0, ent w "change_counter" q1 v0 t1, ent w "page_count" q2 v1 t2, ent w "free_trunk" q3 v2 t3, ent w "free_count" q4 v3 t4, ent w "schema_cookie" q5 v4 t5, ent w "wal" q6 c30 t6, ent w "user_version" q7 c31 t7] 8) :: news) →
      (∀ q ∈ news, q.1 < dx) → dx < x → ps = KFB.value ((ks.drop 8).take 2) → v0 = KFB.value ((ks.drop 10).take 4) → v1 = KFB.value ((ks.drop 14).take 4) → v2 = KFB.value ((ks.drop 18).take 4) → v3 = KFB.value ((ks.drop 22).take 4) → v4 = KFB.value ((ks.drop 26).take 4) → c30 = ks.getD 30 0 → c31 = ks.getD 31 0 →
      Q (.ref x) { s with heap := h', toks := tk' })
    (hE : (KFB.value ((ks.drop 8).take 2) < 64 ∨ 32768 < KFB.value ((ks.drop 8).take 2) ∨ 1 < ks.getD 30 0) → ∀ (g : Heap) (e : Addr) (h' : Heap) (tk' : Nat), Fr h₀ L g m → RaisedSN base g (envX cn cs L a ccd cl :: outer) e (.ref 44) news h' → g.UpToSlots h' → E (.ref e) { s with heap := h', toks := tk' }) :
    wpAny (model prog w) (ktrTop dp un gd cn cs L a ccd cl outer) (call (.ref 94) [.bytes b tb]) Q E s := by
  refine wpAny_call ?_
  k_dflt (
    refine' code_defC ?k1 ?k2 ?k3 ?k4 ?k5 ?kA ?kF ?kK ?k6 ?k7 ?k8 ?k9 ?kB ?kD ?_ ?c2 ?c3 ?c4
    (case kA => exact rfl)
    (case kF => exact rfl)
    (case kK => assumption)
    (case k1 => k_asm)
    (case k2 => k_asm)
    (case k3 => k_asm)
    (case k4 => k_asm)
    (case k5 => k_asm)
    (case k6 => k_is)
    (case k7 => k_is)
    (case k8 => ktr_room)
    (case k9 => exact BindsTo.of_eq rfl)
    (case kB => exact rfl)
    (case kD => decide +kernel)
    (case c2 => exact rfl)
    (case c3 => exact rfl)
    (case c4 => exact rfl)
    k_whole
    intro g' L' h' tk' cells' FG' F' N' Y' B' X' T' l1
    k_cells Y'
    (try simp only [List.cons_append, List.nil_append] at N')
    (try dsimp only)
    (try k_fold))
  k_steps
  all_goals first
    | (refine' hE ?zp _ _ _ _ ?f (raised_sub ?r ?s) ?u; (case zp => omega); (case f => assumption); (case r => assumption); (case u => assumption); (case s => (intro p hp; repeat (first | exact hp | apply List.Mem.tail))))
    | (refine' hret ?zp1 ?zp2 ?zp3 _ _ _ _ _ _ _ _ _ _ _ _ _ _ _ _ _ _ _ _ _ _ _ _ _ _ _ _ ?f ?n ?o1 ?o2 ?e0 ?e1 ?e2 ?e3 ?e4 ?e5 ?e6 ?e7
       (case zp1 => omega)
       (case zp2 => omega)
       (case zp3 => omega)
       (case f => k_asm)
       (case n => exact news_keep2 (by assumption))
       (case o1 => exact allLt_3 (by assumption))
       (case o2 => first | assumption | exact And.left (by assumption))
       (case e0 => assumption)
       (case e1 => assumption)
       (case e2 => assumption)
       (case e3 => assumption)
       (case e4 => assumption)
       (case e5 => assumption)
       (case e6 => assumption)
       (case e7 => assumption))
    | (exfalso; omega)
end
end Nt89

namespace Nt89
theorem fillD5 : PySem.Challenge.rw_nt0089_01 = PySem.Challenge.rw_nt0089_01 ∧ Nt89.hd.heap_39 = Nt89.hd.heap_39 := by
  w_top off
  k_fill
  exact ⟨rfl, rfl⟩
theorem good1 {prog : Program} {w : World} {p : Program} {loose : List Str} {mean : ExcName → Option Value} {mg mb : Str → Option Value}
    {news : List (Addr × Obj)} {b : Array UInt8} {ks : List Int} {tb : Tok} (hb : KBw.bInts b = ks) (hz : ks.length ≤ 1000) (hlen : 32 ≤ ks.length) (hmg : ks.take 8 = magicL) (hp0 : 64 ≤ KFB.value ((ks.drop 8).take 2)) (hp1 : KFB.value ((ks.drop 8).take 2) ≤ 32768) (hw : ks.getD 30 0 ≤ 1)
    (dp un : Nat) (gd : Option (List Code)) (cn : Str) (cs : Scope) (a : Addr) (ccd : Value) (cl : List (Str × Addr)) (outer : List Env) (A₀ : Around) (base h₀ : Heap) (L : Addr) (m : Str → Option Value) (s : Shared) (Q E : Value → Shared → Prop)
    (B : Below A₀ base outer h₀) (F : Fr h₀ L s.heap m) (X : (Nt89.hd.heap_39 w.params).In h₀) (N : News h₀ L s.heap news) (T : Top p loose mean mg mb h₀) (hk : cs.kind = .function)
    (hd : dp + 3 < recursionLimit) (hu : un + 24 < cLine)
    (hret : ∀ (x dx : Addr) (ps v0 v1 v2 v3 v4 c30 c31 : Int) (q0 q1 q2 q3 q4 q5 q6 q7 t0 t1 t2 t3 t4 t5 t6 t7 : Tok) (h' : Heap) (tk' : Nat), Fr h₀ L h' m →
      News h₀ L h' ((x, instObj 100 dx) :: (dx, dictOf [ent w "page_size" q0 ps t0, ent w "change_counter" q1 v0 t1, ent w "page_count" q2 v1 t2, ent w "free_trunk" q3 v2 t3, ent w "free_count" q4 v3 t4, ent w "schema_cookie" q5 v4 t5, ent w "wal" q6 c30 t6, ent w "user_version" q7 c31 t7] 8) :: news) →
      (∀ q ∈ news, q.1 < dx) → dx < x → ps = KFB.value ((ks.drop 8).take 2) → v0 = KFB.value ((ks.drop 10).take 4) → v1 = KFB.value ((ks.drop 14).take 4) → v2 = KFB.value ((ks.drop 18).take 4) → v3 = KFB.value ((ks.drop 22).take 4) → v4 = KFB.value ((ks.drop 26).take 4) → c30 = ks.getD 30 0 → c31 = ks.getD 31 0 →
      Q (.ref x) { s with heap := h', toks := tk' }) :
    wpAny (model prog w) (ktrTop dp un gd cn cs L a ccd cl outer) (call (.ref 94) [.bytes b tb]) Q E s := by
  exact long1 hb hz hlen hmg dp un gd cn cs a ccd cl outer A₀ base h₀ L m s Q E B F X N T hk hd hu (fun _ _ _ => hret) (fun h => by exfalso; omega)
/-- a head that unpack refuses -/
def BadHead (ks : List Int) : Prop :=
  ks.length < 32 ∨ (32 ≤ ks.length ∧ ks.take 8 ≠ magicL) ∨ (32 ≤ ks.length ∧ ks.take 8 = magicL ∧ KFB.value ((ks.drop 8).take 2) < 64) ∨ (32 ≤ ks.length ∧ ks.take 8 = magicL ∧ 32768 < KFB.value ((ks.drop 8).take 2)) ∨
    (32 ≤ ks.length ∧ ks.take 8 = magicL ∧ 64 ≤ KFB.value ((ks.drop 8).take 2) ∧ KFB.value ((ks.drop 8).take 2) ≤ 32768 ∧ 1 < ks.getD 30 0)
theorem badU {prog : Program} {w : World} {p : Program} {loose : List Str} {mean : ExcName → Option Value} {mg mb : Str → Option Value}
    {news : List (Addr × Obj)} {b : Array UInt8} {ks : List Int} {tb : Tok} (hb : KBw.bInts b = ks) (hz : ks.length ≤ 1000) (hbad : BadHead ks)
    {dp un : Nat} {gd : Option (List Code)} {cn : Str} {cs : Scope} {a : Addr} {ccd : Value} {cl : List (Str × Addr)} {outer : List Env} {A₀ : Around} {base h₀ : Heap} {L : Addr} {m : Str → Option Value} {s : Shared} {Q E : Value → Shared → Prop}
    (B : Below A₀ base outer h₀) (F : Fr h₀ L s.heap m) (X : (Nt89.hd.heap_39 w.params).In h₀) (N : News h₀ L s.heap news) (T : Top p loose mean mg mb h₀) (hk : cs.kind = .function)
    (hd : dp + 3 < recursionLimit) (hu : un + 24 < cLine)
    (hE : ∀ (g : Heap) (e : Addr) (h' : Heap) (tk' : Nat), Fr h₀ L g m → RaisedSN base g (envX cn cs L a ccd cl :: outer) e (.ref 44) news h' → g.UpToSlots h' → E (.ref e) { s with heap := h', toks := tk' }) :
    wpAny (model prog w) (ktrTop dp un gd cn cs L a ccd cl outer) (call (.ref 94) [.bytes b tb]) Q E s := by
  rcases hbad with h1 | ⟨h1, h2⟩ | ⟨h1, h2, h3⟩ | ⟨h1, h2, h3⟩ | ⟨h1, h2, h3, h4, h5⟩
  · exact bad1 hb hz h1 _ _ _ _ _ _ _ _ _ _ _ _ _ _ _ _ _ B F X N T hk hd hu hE
  · exact bad2 hb hz h1 h2 _ _ _ _ _ _ _ _ _ _ _ _ _ _ _ _ _ B F X N T hk hd hu hE
  · exact long1 hb hz h1 h2 _ _ _ _ _ _ _ _ _ _ _ _ _ _ _ _ _ B F X N T hk hd hu (fun _ _ _ => by exfalso; omega) (fun _ => hE)
  · exact long1 hb hz h1 h2 _ _ _ _ _ _ _ _ _ _ _ _ _ _ _ _ _ B F X N T hk hd hu (fun _ _ _ => by exfalso; omega) (fun _ => hE)
  · exact long1 hb hz h1 h2 _ _ _ _ _ _ _ _ _ _ _ _ _ _ _ _ _ B F X N T hk hd hu (fun _ _ _ => by exfalso; omega) (fun _ => hE)
section
local macro_rules | `(tactic| walk_at "call ref") => `(tactic| (k_here; (with_reducible show wpAny _ _ (call (Value.ref 94) [Value.bytes _ _]) _ _ _); k_dflt (
  refine' badU ?kb ?kz ?ky ?kB ?kF ?kX ?kN ?kT ?kK ?kd ?ku ?_
  (case kb => assumption)
  (case kz => assumption)
  (case ky => assumption)
  (case kB => k_asm)
  (case kF => k_asm)
  (case kX => k_asm)
  (case kN => k_asm)
  (case kT => k_asm)
  (case kK => first | exact rfl | assumption)
  (case kd => ktr_room)
  (case ku => ktr_units)
  k_whole
  intro G' e' h' tk' FG' R' U'
  (try dsimp only))))
set_option maxRecDepth 100000 in
set_option maxHeartbeats 8000000 in
theorem refused1 {prog : Program} {w : World} {p : Program} {loose : List Str} {mean : ExcName → Option Value} {mg mb : Str → Option Value}
    {news : List (Addr × Obj)} {b : Array UInt8} {ks : List Int} {tb : Tok} (hb : KBw.bInts b = ks) (hz : ks.length ≤ 1000) (hbad : BadHead ks)
    (dp un : Nat) (gd : Option (List Code)) (cn : Str) (cs : Scope) (a : Addr) (ccd : Value) (cl : List (Str × Addr)) (A₀ : Around) (base h₀ : Heap) (L : Addr) (m : Str → Option Value) (s : Shared) (Q E : Value → Shared → Prop)
    (XB : (Nt89.hd.heap_39 w.params).In base) (TB : Top p loose mean mg mb base)
    (B : Below A₀ base [] h₀) (F : Fr h₀ L s.heap m) (X : (Nt89.hd.heap_39 w.params).In h₀) (N : News h₀ L s.heap news) (T : Top p loose mean mg mb h₀) (hk : cs.kind = .function)
    (hd : dp + 4 < recursionLimit) (hu : un + 32 < cLine)
    (hret : ∀ (h' : Heap) (tk' : Nat), Fr h₀ L h' m → News h₀ L h' news → Q (.bool true) { s with heap := h', toks := tk' }) :
    wpAny (model prog w) (ktrTop dp un gd cn cs L a ccd cl []) (call (.ref 139) [.bytes b tb]) Q E s := by
  refine wpAny_call ?_
  k_dflt (
    refine' code_try ?k1 ?k2 ?k3 ?k4 ?k5 ?kA ?kF ?kK ?k6 ?k7 ?k8 ?k9 ?kB ?_ ?c2 ?c3 ?c4 ?c5
    (case kA => exact rfl)
    (case kF => exact rfl)
    (case kK => assumption)
    (case k1 => k_asm)
    (case k2 => k_asm)
    (case k3 => k_asm)
    (case k4 => k_asm)
    (case k5 => k_asm)
    (case k6 => k_is)
    (case k7 => k_is)
    (case k8 => ktr_room)
    (case k9 => exact BindsTo.of_eq rfl)
    (case c5 => decide)
    (case kB => exact locs rfl)
    (case c2 => exact rfl)
    (case c3 => exact rfl)
    (case c4 => exact rfl)
    k_whole
    intro g' L' h' FG' F' N' B' X' T' D'
    (try dsimp only)
    (try k_fold))
  k_steps
  all_goals exact hret _ _ (by k_asm) (by k_asm)
end
end Nt89

namespace Nt89
theorem fillD6 : PySem.Challenge.rw_nt0089_01 = PySem.Challenge.rw_nt0089_01 ∧ Nt89.hd.heap_39 = Nt89.hd.heap_39 := by
  w_top off
  k_fill
  exact ⟨rfl, rfl⟩
/-- the thirty-two octets of a head -/
def headL (ps v0 v1 v2 v3 v4 c30 c31 : Int) : List Int := magicL ++ octL 2 ps ++ octL 4 v0 ++ octL 4 v1 ++ octL 4 v2 ++ octL 4 v3 ++ octL 4 v4 ++ octL 1 c30 ++ octL 1 c31
theorem magic_ints : KBw.bInts #[112, 97, 103, 101, 98, 97, 115, 101] = magicL := rfl
section
variable {prog : Program} {w : World} {p : Program} {loose : List Str} {mean : ExcName → Option Value} {mg mb : Str → Option Value}
    {dp un : Nat} {gd : Option (List Code)} {cn : Str} {cs : Scope} {a : Addr} {ccd : Value} {cl : List (Str × Addr)} {outer : List Env} {A₀ : Around} {base h₀ : Heap} {L : Addr} {m : Str → Option Value} {s : Shared} {Q E : Value → Shared → Prop}
theorem putU {news : List (Addr × Obj)} {x k : Int} {tx tk : Tok} (hk0 : 1 ≤ k) (hk1 : k ≤ 4)
    (B : Below A₀ base outer h₀) (F : Fr h₀ L s.heap m) (X : (Nt89.hd.heap_39 w.params).In h₀) (N : News h₀ L s.heap news) (T : Top p loose mean mg mb h₀) (hk : cs.kind = .function)
    (hd : dp + 1 < recursionLimit) (hu : un + 8 < cLine)
    (hret : ∀ (t : Tok) (b : Array UInt8) (h' : Heap) (tk' : Nat), Fr h₀ L h' m → News h₀ L h' news → KBw.bInts b = octL k x → Q (.bytes b t) { s with heap := h', toks := tk' }) :
    wpAny (model prog w) (ktrTop dp un gd cn cs L a ccd cl outer) (call (.ref 53) [.int x tx, .int k tk]) Q E s :=
  put1 hk0 hk1 _ _ _ _ _ _ _ _ _ _ _ _ _ _ _ _ _ B F X N T hk hd hu hret
theorem octU {news : List (Addr × Obj)} {x k : Int} {tx tk : Tok} (hk0 : 1 ≤ k) (hk1 : k ≤ 4)
    (B : Below A₀ base outer h₀) (F : Fr h₀ L s.heap m) (X : (Nt89.hd.heap_39 w.params).In h₀) (N : News h₀ L s.heap news) (T : Top p loose mean mg mb h₀) (hk : cs.kind = .function)
    (hd : dp + 1 < recursionLimit) (hu : un + 8 < cLine)
    (hret : ∀ (t : Tok) (b : Array UInt8) (h' : Heap) (tk' : Nat), Fr h₀ L h' m → News h₀ L h' news → KBw.bInts b = octL k x → Q (.bytes b t) { s with heap := h', toks := tk' }) :
    wpAny (model prog w) (ktrTop dp un gd cn cs L a ccd cl outer) (call (.ref 132) [.int x tx, .int k tk]) Q E s :=
  octets1 hk0 hk1 _ _ _ _ _ _ _ _ _ _ _ _ _ _ _ _ _ B F X N T hk hd hu hret
end
theorem unrEnd_T {L I : Addr} {o : Obj} {rest : (Str → Option Value) → List (Addr × Obj) → Prop} {s₁ : Shared} {h₀ h' : Heap} {tk : Nat} {m' : Str → Option Value} {q : Addr × Obj} {l : List (Addr × Obj)} (F : Fr h₀ L h' m') (N : News h₀ L h' ((I, o) :: q :: l))
    (off : ∀ p ∈ q :: l, p.1 < I) (r : q ∈ q :: l → rest m' (q :: l)) : UnrEndW h₀ L s₁ [(I, o)] rest { s₁ with heap := h', toks := tk } :=
  ⟨h', tk, m', q :: l, rfl, F, N, fun p hp p' hp' e => by
    rw [List.mem_singleton.mp hp'] at e
    exact Nat.ne_of_lt (off p hp) e, r (.head _)⟩
section
local macro_rules | `(tactic| walk_at "call ref") => `(tactic| (k_here; (with_reducible show wpAny _ _ (call (Value.ref 53) [Value.int _ _, Value.int _ _]) _ _ _); k_dflt (
  refine' putU (by first | decide | omega) (by first | decide | omega) (by k_asm) (by k_asm) (by k_asm) (by k_asm) (by k_asm) (by first | exact rfl | assumption) (by ktr_room) (by ktr_units) ?_
  k_whole
  intros
  (try dsimp only)
  (try k_fold)
  (try k_sweep))))
local macro_rules | `(tactic| walk_at "binaryOp Add bytes bytes") => `(tactic| (k_here; k_dflt (
  refine' KBa.add_K (by first | assumption | exact magic_ints) (by assumption) (by (simp only [List.length_append, octL_length, Int.reduceToNat, List.length_cons, List.length_nil, magicL] <;> omega)) ?_
  intro _ _ bytesE)))
local macro_rules | `(tactic| walk_at "inplaceOp Add bytes bytes") => `(tactic| (k_here; k_dflt (
  refine' iadd_K (by assumption) (by assumption) (by (simp only [List.length_append, octL_length, Int.reduceToNat, List.length_cons, List.length_nil, magicL] <;> omega)) ?_
  intro _ _ bytesE)))
local macro_rules | `(tactic| walk_at "pyIter ref") => `(tactic| (k_here; (with_reducible show wpAny _ _ (pyIter (Value.ref _)) (fun it s₂ => TurnsAt _ _ _ _ _ _ _ _ _ it s₂) _ _); (with_reducible rename Fr _ _ _ _ => F'); (with_reducible rename News _ _ _ _ => N'); (with_unfolding_all refine iter_tupTurns (vs := [.int _ _, .int _ _, .int _ _, .int _ _, .int _ _]) (by rfl) F' N' (.head _) (by rfl) (by rfl) ?_); intro i' offT))
local macro_rules | `(tactic| walk_at "UnrEndW") => `(tactic| (refine unrEnd_T (by assumption) (by assumption) (by assumption) (fun hm' => ⟨⟨hm', trivial⟩, ?_⟩)))
set_option maxRecDepth 100000 in
set_option maxHeartbeats 8000000 in
theorem pack1 {prog : Program} {w : World} {p : Program} {loose : List Str} {mean : ExcName → Option Value} {mg mb : Str → Option Value}
    {news : List (Addr × Obj)} {x dx : Addr} {ps v0 v1 v2 v3 v4 c30 c31 : Int} {q0 q1 q2 q3 q4 q5 q6 q7 t0 t1 t2 t3 t4 t5 t6 t7 : Tok}
    (dp un : Nat) (gd : Option (List Code)) (cn : Str) (cs : Scope) (a : Addr) (ccd : Value) (cl : List (Str × Addr)) (outer : List Env) (A₀ : Around) (base h₀ : Heap) (L : Addr) (m : Str → Option Value) (s : Shared) (Q E : Value → Shared → Prop)
    (B : Below A₀ base outer h₀) (F : Fr h₀ L s.heap m) (X : (Nt89.hd.heap_39 w.params).In h₀)
    (N : News h₀ L s.heap ((x, instObj 100 dx) :: (dx, dictOf [ent w "page_size" q0 ps t0, ent w "change_counter" q1 v0 t1, ent w "page_count" q2 v1 t2, ent w "free_trunk" q3 v2 t3, ent w "free_count" q4 v3 t4, ent w "schema_cookie" q5 v4 t5, ent w "wal" q6 c30 t6, ent w "user_version" q7 c31 t7] 8) :: news))
    (T : Top p loose mean mg mb h₀) (hk : cs.kind = .function)
    (hd : dp + 2 < recursionLimit) (hu : un + 16 < cLine)
    (hret : ∀ (t : Tok) (b : Array UInt8) (h' : Heap) (tk' : Nat), Fr h₀ L h' m →
      News h₀ L h' ((x, instObj 100 dx) :: (dx, dictOf [ent w "page_size" q0 ps t0, ent w "change_counter" q1 v0 t1, ent w "page_count" q2 v1 t2, ent w "free_trunk" q3 v2 t3, ent w "free_count" q4 v3 t4, ent w "schema_cookie" q5 v4 t5, ent w "wal" q6 c30 t6, ent w "user_version" q7 c31 t7] 8) :: news) →
      KBw.bInts b = headL ps v0 v1 v2 v3 v4 c30 c31 → Q (.bytes b t) { s with heap := h', toks := tk' }) :
    wpAny (model prog w) (ktrTop dp un gd cn cs L a ccd cl outer) (call (.ref 89) [.ref x]) Q E s := by
  refine wpAny_call ?_
  k_dflt ktr_enter
  k_steps
  exact hret _ _ _ _ (by k_asm) (news_tail (by assumption)) (by assumption)
end
end Nt89

namespace Nt89
section
variable {ps v0 v1 v2 v3 v4 c30 c31 : Int}
theorem headE : headL ps v0 v1 v2 v3 v4 c30 c31 = [112, 97, 103, 101, 98, 97, 115, 101, ps / 256 % 256, ps % 256,
    v0 / 256 / 256 / 256 % 256, v0 / 256 / 256 % 256, v0 / 256 % 256, v0 % 256, v1 / 256 / 256 / 256 % 256, v1 / 256 / 256 % 256, v1 / 256 % 256, v1 % 256,
    v2 / 256 / 256 / 256 % 256, v2 / 256 / 256 % 256, v2 / 256 % 256, v2 % 256, v3 / 256 / 256 / 256 % 256, v3 / 256 / 256 % 256, v3 / 256 % 256, v3 % 256,
    v4 / 256 / 256 / 256 % 256, v4 / 256 / 256 % 256, v4 / 256 % 256, v4 % 256, c30 % 256, c31 % 256] := by
  unfold headL
  rw [oct1, oct1, oct2, oct4, oct4, oct4, oct4, oct4]
  rfl
theorem headL_length : (headL ps v0 v1 v2 v3 v4 c30 c31).length = 32 := by
  rw [headE]
  rfl
theorem head_magic (z : List Int) : (headL ps v0 v1 v2 v3 v4 c30 c31 ++ z).take 8 = magicL := by
  rw [headE]
  rfl
theorem head_ps (z : List Int) : ((headL ps v0 v1 v2 v3 v4 c30 c31 ++ z).drop 8).take 2 = octL 2 ps := by
  rw [headE, oct2]
  rfl
theorem head_v0 (z : List Int) : ((headL ps v0 v1 v2 v3 v4 c30 c31 ++ z).drop 10).take 4 = octL 4 v0 := by
  rw [headE, oct4]
  rfl
theorem head_v1 (z : List Int) : ((headL ps v0 v1 v2 v3 v4 c30 c31 ++ z).drop 14).take 4 = octL 4 v1 := by
  rw [headE, oct4]
  rfl
theorem head_v2 (z : List Int) : ((headL ps v0 v1 v2 v3 v4 c30 c31 ++ z).drop 18).take 4 = octL 4 v2 := by
  rw [headE, oct4]
  rfl
theorem head_v3 (z : List Int) : ((headL ps v0 v1 v2 v3 v4 c30 c31 ++ z).drop 22).take 4 = octL 4 v3 := by
  rw [headE, oct4]
  rfl
theorem head_v4 (z : List Int) : ((headL ps v0 v1 v2 v3 v4 c30 c31 ++ z).drop 26).take 4 = octL 4 v4 := by
  rw [headE, oct4]
  rfl
theorem head_c30 (z : List Int) : (headL ps v0 v1 v2 v3 v4 c30 c31 ++ z).getD 30 0 = c30 % 256 := by
  rw [headE]
  rfl
theorem head_c31 (z : List Int) : (headL ps v0 v1 v2 v3 v4 c30 c31 ++ z).getD 31 0 = c31 % 256 := by
  rw [headE]
  rfl
theorem val1 (x : Int) : KFB.value (octL 1 x) = x.fmod 256 := by
  rw [oct1, fm]
  show 0 * 256 + _ = _
  omega
theorem val2 (x : Int) : KFB.value (octL 2 x) = x.fmod 65536 := by
  rw [oct2, Int.fmod_eq_emod_of_nonneg x (by decide : (0 : Int) ≤ 65536)]
  show (0 * 256 + _) * 256 + _ = _
  omega
theorem val3 (x : Int) : KFB.value (octL 3 x) = x.fmod 16777216 := by
  rw [oct3, Int.fmod_eq_emod_of_nonneg x (by decide : (0 : Int) ≤ 16777216)]
  show ((0 * 256 + _) * 256 + _) * 256 + _ = _
  omega
theorem val4 (x : Int) : KFB.value (octL 4 x) = x.fmod 4294967296 := by
  rw [oct4, Int.fmod_eq_emod_of_nonneg x (by decide : (0 : Int) ≤ 4294967296)]
  show (((0 * 256 + _) * 256 + _) * 256 + _) * 256 + _ = _
  omega
theorem val_oct {k x : Int} (h0 : 1 ≤ k) (h1 : k ≤ 4) : KFB.value (octL k x) = x.fmod (256 ^ k.toNat) := by
  have hc : k = 1 ∨ k = 2 ∨ k = 3 ∨ k = 4 := by omega
  rcases hc with rfl | rfl | rfl | rfl
  · exact val1 x
  · exact val2 x
  · exact val3 x
  · exact val4 x
theorem val2_small {x : Int} (h0 : 0 ≤ x) (h1 : x < 65536) : KFB.value (octL 2 x) = x := by
  rw [val2, Int.fmod_eq_emod_of_nonneg x (by decide : (0 : Int) ≤ 65536)]
  omega
theorem oct1_small {x : Int} (h0 : 0 ≤ x) (h1 : x < 256) : octL 1 x = [x] := by
  rw [oct1, show x % 256 = x by omega]
/-- the value of k octets between an octet and more -/
theorem val_mid {k x y : Int} {z : List Int} (h0 : 1 ≤ k) (h1 : k ≤ 4) : KFB.value ((([y] ++ octL k x ++ z).drop (Int.toNat 1)).take k.toNat) = x.fmod (256 ^ k.toNat) := by
  show KFB.value ((octL k x ++ z).take k.toNat) = _
  rw [List.take_left' (octL_length k x), val_oct h0 h1]
/-- the due octets are the head -/
theorem due_eq {m : Int} (h0 : 0 ≤ m) (h1 : m < 256) : headL ps v0 v1 v2 v3 v4 m c31 = magicL ++ octL 2 ps ++ (octL 4 v0 ++ octL 4 v1 ++ octL 4 v2 ++ octL 4 v3 ++ octL 4 v4) ++ [m] ++ octL 1 c31 := by
  unfold headL
  rw [oct1_small h0 h1]
  simp only [List.append_assoc]
/-- the page sizes that the law builds heads with -/
def PageOk (p : Int) : Prop := 64 ≤ p ∧ p ≤ 32768
/-- the page sizes that unpack refuses -/
def PageBad (p : Int) : Prop := 0 ≤ p ∧ p < 65536 ∧ (p < 64 ∨ 32768 < p)
theorem bh_short {ks : List Int} (h : ks.length < 32) : BadHead ks := .inl h
theorem bh_cut : BadHead ((headL ps v0 v1 v2 v3 v4 c30 c31).take (Int.toNat 31)) := .inl (by
  rw [List.length_take, headL_length]
  decide)
theorem bh_none : BadHead [] := .inl (by decide)
theorem bh_magic {i : Int} (h0 : 0 ≤ i) (h1 : i < 8) : BadHead ((headL ps v0 v1 v2 v3 v4 c30 c31).take i.toNat ++ [90] ++ (headL ps v0 v1 v2 v3 v4 c30 c31).drop (i + 1).toNat) := by
  refine .inr (.inl ?_)
  have hc : i = 0 ∨ i = 1 ∨ i = 2 ∨ i = 3 ∨ i = 4 ∨ i = 5 ∨ i = 6 ∨ i = 7 := by omega
  rw [headE]
  rcases hc with rfl | rfl | rfl | rfl | rfl | rfl | rfl | rfl
  all_goals (
    refine ⟨Nat.le_of_ble_eq_true rfl, ?_⟩
    show [_, _, _, _, _, _, _, _] ≠ magicL
    unfold magicL
    decide)
theorem bh_mode {v : Int} (hp : PageOk ps) (h0 : 0 ≤ v) : BadHead ((headL ps v0 v1 v2 v3 v4 c30 c31).take (Int.toNat 30) ++ [2 + v] ++ [97]) := by
  refine .inr (.inr (.inr (.inr ?_)))
  have e1 : ((((headL ps v0 v1 v2 v3 v4 c30 c31).take (Int.toNat 30) ++ [2 + v] ++ [97]).drop 8).take 2) = octL 2 ps := by
    rw [headE, oct2]
    rfl
  rw [e1, val2_small (by have := hp.1; omega) (by have := hp.2; omega), headE]
  refine ⟨Nat.le_of_ble_eq_true rfl, rfl, hp.1, hp.2, ?_⟩
  show 1 < 2 + v
  omega
theorem bh_page {q : Int} (hq : PageBad q) : BadHead ((headL ps v0 v1 v2 v3 v4 c30 c31).take (Int.toNat 8) ++ octL 2 q ++ (headL ps v0 v1 v2 v3 v4 c30 c31).drop (Int.toNat 10)) := by
  have e1 : ((((headL ps v0 v1 v2 v3 v4 c30 c31).take (Int.toNat 8) ++ octL 2 q ++ (headL ps v0 v1 v2 v3 v4 c30 c31).drop (Int.toNat 10)).drop 8).take 2) = octL 2 q := by
    rw [headE, oct2]
    rfl
  have e2 : 32 ≤ ((headL ps v0 v1 v2 v3 v4 c30 c31).take (Int.toNat 8) ++ octL 2 q ++ (headL ps v0 v1 v2 v3 v4 c30 c31).drop (Int.toNat 10)).length := by
    rw [headE, oct2]
    exact Nat.le_of_ble_eq_true rfl
  have e3 : ((headL ps v0 v1 v2 v3 v4 c30 c31).take (Int.toNat 8) ++ octL 2 q ++ (headL ps v0 v1 v2 v3 v4 c30 c31).drop (Int.toNat 10)).take 8 = magicL := by
    rw [headE, oct2]
    rfl
  obtain ⟨h0, h1, h2⟩ := hq
  have e4 : KFB.value ((((headL ps v0 v1 v2 v3 v4 c30 c31).take (Int.toNat 8) ++ octL 2 q ++ (headL ps v0 v1 v2 v3 v4 c30 c31).drop (Int.toNat 10)).drop 8).take 2) = q := by rw [e1, val2_small h0 h1]
  rcases h2 with h2 | h2
  · exact .inr (.inr (.inl ⟨e2, e3, by rw [e4]; exact h2⟩))
  · exact .inr (.inr (.inr (.inl ⟨e2, e3, by rw [e4]; exact h2⟩)))
end
end Nt89

namespace Nt89
theorem fillD7 : PySem.Challenge.rw_nt0089_01 = PySem.Challenge.rw_nt0089_01 ∧ Nt89.hd.heap_39 = Nt89.hd.heap_39 := by
  w_top off
  k_fill
  exact ⟨rfl, rfl⟩
section
variable {prog : Program} {w : World} {p : Program} {loose : List Str} {mean : ExcName → Option Value} {mg mb : Str → Option Value}
    {dp un : Nat} {gd : Option (List Code)} {cn : Str} {cs : Scope} {a : Addr} {ccd : Value} {cl : List (Str × Addr)} {outer : List Env} {A₀ : Around} {base h₀ : Heap} {L : Addr} {m : Str → Option Value} {s : Shared} {Q E : Value → Shared → Prop}
theorem packU {news : List (Addr × Obj)} {x dx : Addr} {ps v0 v1 v2 v3 v4 c30 c31 : Int} {q0 q1 q2 q3 q4 q5 q6 q7 t0 t1 t2 t3 t4 t5 t6 t7 : Tok}
    (B : Below A₀ base outer h₀) (F : Fr h₀ L s.heap m) (X : (Nt89.hd.heap_39 w.params).In h₀)
    (N : News h₀ L s.heap ((x, instObj 100 dx) :: (dx, dictOf [ent w "page_size" q0 ps t0, ent w "change_counter" q1 v0 t1, ent w "page_count" q2 v1 t2, ent w "free_trunk" q3 v2 t3, ent w "free_count" q4 v3 t4, ent w "schema_cookie" q5 v4 t5, ent w "wal" q6 c30 t6, ent w "user_version" q7 c31 t7] 8) :: news))
    (T : Top p loose mean mg mb h₀) (hk : cs.kind = .function)
    (hd : dp + 2 < recursionLimit) (hu : un + 16 < cLine)
    (hret : ∀ (t : Tok) (b : Array UInt8) (h' : Heap) (tk' : Nat), Fr h₀ L h' m →
      News h₀ L h' ((x, instObj 100 dx) :: (dx, dictOf [ent w "page_size" q0 ps t0, ent w "change_counter" q1 v0 t1, ent w "page_count" q2 v1 t2, ent w "free_trunk" q3 v2 t3, ent w "free_count" q4 v3 t4, ent w "schema_cookie" q5 v4 t5, ent w "wal" q6 c30 t6, ent w "user_version" q7 c31 t7] 8) :: news) →
      KBw.bInts b = headL ps v0 v1 v2 v3 v4 c30 c31 → Q (.bytes b t) { s with heap := h', toks := tk' }) :
    wpAny (model prog w) (ktrTop dp un gd cn cs L a ccd cl outer) (call (.ref 89) [.ref x]) Q E s :=
  pack1 _ _ _ _ _ _ _ _ _ _ _ _ _ _ _ _ _ B F X N T hk hd hu hret
theorem goodU {news : List (Addr × Obj)} {b : Array UInt8} {tb : Tok} {ps v0 v1 v2 v3 v4 c30 c31 : Int} {z : List Int} (hb : KBw.bInts b = headL ps v0 v1 v2 v3 v4 c30 c31 ++ z) (hz : z.length ≤ 2) (hp : PageOk ps) (h0 : 0 ≤ c30) (h1 : c30 < 2)
    (B : Below A₀ base outer h₀) (F : Fr h₀ L s.heap m) (X : (Nt89.hd.heap_39 w.params).In h₀) (N : News h₀ L s.heap news) (T : Top p loose mean mg mb h₀) (hk : cs.kind = .function)
    (hd : dp + 3 < recursionLimit) (hu : un + 24 < cLine)
    (hret : ∀ (x dx : Addr) (q0 q1 q2 q3 q4 q5 q6 q7 t0 t1 t2 t3 t4 t5 t6 t7 : Tok) (h' : Heap) (tk' : Nat), Fr h₀ L h' m →
      News h₀ L h' ((x, instObj 100 dx) :: (dx, dictOf [ent w "page_size" q0 ps t0, ent w "change_counter" q1 (v0.fmod 4294967296) t1, ent w "page_count" q2 (v1.fmod 4294967296) t2, ent w "free_trunk" q3 (v2.fmod 4294967296) t3, ent w "free_count" q4 (v3.fmod 4294967296) t4, ent w "schema_cookie" q5 (v4.fmod 4294967296) t5, ent w "wal" q6 c30 t6, ent w "user_version" q7 (c31.fmod 256) t7] 8) :: news) →
      (∀ q ∈ ((dx, default) : Addr × Obj) :: news, q.1 < x) → (∀ q ∈ news, q.1 < dx) →
      Q (.ref x) { s with heap := h', toks := tk' }) :
    wpAny (model prog w) (ktrTop dp un gd cn cs L a ccd cl outer) (call (.ref 94) [.bytes b tb]) Q E s := by
  have eP := val2_small (x := ps) (by have := hp.1; omega) (by have := hp.2; omega)
  refine good1 hb ?_ ?_ (head_magic z) ?_ ?_ ?_ _ _ _ _ _ _ _ _ _ _ _ _ _ _ _ _ _ B F X N T hk hd hu fun x dx ps' w0 w1 w2 w3 w4 d30 d31 q0 q1 q2 q3 q4 q5 q6 q7 t0 t1 t2 t3 t4 t5 t6 t7 h' tk' F' N' o1 o2 e0 e1 e2 e3 e4 e5 e6 e7 => ?_
  · rw [List.length_append, headL_length]
    omega
  · rw [List.length_append, headL_length]
    omega
  · rw [head_ps, eP]
    exact hp.1
  · rw [head_ps, eP]
    exact hp.2
  · rw [head_c30]
    omega
  · rw [head_ps, eP] at e0
    rw [head_v0, val4] at e1
    rw [head_v1, val4] at e2
    rw [head_v2, val4] at e3
    rw [head_v3, val4] at e4
    rw [head_v4, val4] at e5
    rw [head_c30, show c30 % 256 = c30 by omega] at e6
    rw [head_c31, ← fm] at e7
    subst e0 e1 e2 e3 e4 e5 e6 e7
    refine hret x dx q0 q1 q2 q3 q4 q5 q6 q7 t0 t1 t2 t3 t4 t5 t6 t7 h' tk' F' N' (fun q hq => ?_) o1
    rcases List.mem_cons.mp hq with rfl | hq
    · exact o2
    · exact Nat.lt_trans (o1 q hq) o2
theorem refusedU {news : List (Addr × Obj)} {b : Array UInt8} {ks : List Int} {tb : Tok} (hb : KBw.bInts b = ks) (hz : ks.length ≤ 1000) (hbad : BadHead ks)
    (XB : (Nt89.hd.heap_39 w.params).In base) (TB : Top p loose mean mg mb base)
    (B : Below A₀ base [] h₀) (F : Fr h₀ L s.heap m) (X : (Nt89.hd.heap_39 w.params).In h₀) (N : News h₀ L s.heap news) (T : Top p loose mean mg mb h₀) (hk : cs.kind = .function)
    (hd : dp + 4 < recursionLimit) (hu : un + 32 < cLine)
    (hret : ∀ (h' : Heap) (tk' : Nat), Fr h₀ L h' m → News h₀ L h' news → Q (.bool true) { s with heap := h', toks := tk' }) :
    wpAny (model prog w) (ktrTop dp un gd cn cs L a ccd cl []) (call (.ref 139) [.bytes b tb]) Q E s :=
  refused1 hb hz hbad _ _ _ _ _ _ _ _ _ _ _ _ _ _ _ _ XB TB B F X N T hk hd hu hret
end
set_option maxRecDepth 100000 in
set_option maxHeartbeats 8000000 in
theorem page_yes {prog : Program} {w : World} {p : Program} {loose : List Str} {mean : ExcName → Option Value} {mg mb : Str → Option Value}
    {dp un : Nat} {gd : Option (List Code)} {cn : Str} {cs : Scope} {a : Addr} {ccd : Value} {cl : List (Str × Addr)} {outer : List Env} {A₀ : Around} {base h₀ : Heap} {L : Addr} {m : Str → Option Value} {s : Shared} {Q E : Value → Shared → Prop}
    {news : List (Addr × Obj)} {x : Int} {tx : Tok} (hx : PageOk x)
    (B : Below A₀ base outer h₀) (F : Fr h₀ L s.heap m) (X : (Nt89.hd.heap_39 w.params).In h₀) (N : News h₀ L s.heap news) (T : Top p loose mean mg mb h₀) (hk : cs.kind = .function)
    (hd : dp + 1 < recursionLimit) (hu : un + 8 < cLine)
    (hret : ∀ (h' : Heap) (tk' : Nat), Fr h₀ L h' m → News h₀ L h' news → Q (.bool true) { s with heap := h', toks := tk' }) :
    wpAny (model prog w) (ktrTop dp un gd cn cs L a ccd cl outer) (call (.ref 67) [.int x tx]) Q E s := by
  obtain ⟨h1, h2⟩ := hx
  refine wpAny_call ?_
  k_dflt ktr_enter
  k_steps
  all_goals first
    | (rw [decide_eq_true (by omega)]; exact hret _ _ (by k_asm) (by k_asm))
    | (exfalso; omega)
set_option maxRecDepth 100000 in
set_option maxHeartbeats 8000000 in
theorem page_no {prog : Program} {w : World} {p : Program} {loose : List Str} {mean : ExcName → Option Value} {mg mb : Str → Option Value}
    {dp un : Nat} {gd : Option (List Code)} {cn : Str} {cs : Scope} {a : Addr} {ccd : Value} {cl : List (Str × Addr)} {outer : List Env} {A₀ : Around} {base h₀ : Heap} {L : Addr} {m : Str → Option Value} {s : Shared} {Q E : Value → Shared → Prop}
    {news : List (Addr × Obj)} {x : Int} {tx : Tok} (hx : PageBad x)
    (B : Below A₀ base outer h₀) (F : Fr h₀ L s.heap m) (X : (Nt89.hd.heap_39 w.params).In h₀) (N : News h₀ L s.heap news) (T : Top p loose mean mg mb h₀) (hk : cs.kind = .function)
    (hd : dp + 1 < recursionLimit) (hu : un + 8 < cLine)
    (hret : ∀ (h' : Heap) (tk' : Nat), Fr h₀ L h' m → News h₀ L h' news → Q (.bool false) { s with heap := h', toks := tk' }) :
    wpAny (model prog w) (ktrTop dp un gd cn cs L a ccd cl outer) (call (.ref 67) [.int x tx]) Q E s := by
  obtain ⟨h1, h2, h3⟩ := hx
  rcases h3 with h3 | h3
  all_goals (
    refine wpAny_call ?_
    k_dflt ktr_enter
    k_steps
    all_goals first
      | exact hret _ _ (by k_asm) (by k_asm)
      | (rw [decide_eq_false (by omega)]; exact hret _ _ (by k_asm) (by k_asm))
      | (exfalso; omega))
section
variable {prog : Program} {w : World} {A : Around} {E : Value → Shared → Prop} {s : Shared} {h₀ : Heap} {L D : Addr} {news : List (Addr × Obj)} {n : Nat} {i v0 v1 v2 v3 v4 : Int} {t0 t1 t2 t3 t4 u : Tok} {value slice : PySem.Expr} {Q : Value → Shared → Prop}
theorem page_pick (h0 : 0 ≤ i) (h1 : i < 4) : PageOk (([64, 128, 512, 32768] : List Int).getD i.toNat 0) := by
  have hc : i = 0 ∨ i = 1 ∨ i = 2 ∨ i = 3 := by omega
  rcases hc with rfl | rfl | rfl | rfl
  all_goals exact ⟨by decide, by decide⟩
theorem bad_pick (h0 : 0 ≤ i) (h1 : i < 5) : PageBad (([0, 1, 63, 32769, 65535] : List Int).getD i.toNat 0) := by
  have hc : i = 0 ∨ i = 1 ∨ i = 2 ∨ i = 3 ∨ i = 4 := by omega
  rcases hc with rfl | rfl | rfl | rfl | rfl
  all_goals exact ⟨by decide, by decide, by decide⟩
theorem pick_page (N : News h₀ L s.heap news) (hm : (D, listOf #[.int 64 t0, .int 128 t1, .int 512 t2, .int 32768 t3] n) ∈ news) (h0 : 0 ≤ i) (h1 : i < 4) (h : ∀ v t, PageOk v → Q (.int v t) s)
    (hs : subscripted slice false (.ref D) (.int i u) = operate [.ref D, .int i u] (getItem (.ref D) (.int i u)) := by with_unfolding_all rfl) :
    wpAny (model prog w) A (subscriptTail value slice (.ref D) (.int i u)) Q E s :=
  ksa_sub (vs := [.int 64 t0, .int 128 t1, .int 512 t2, .int 32768 t3]) (ns := [64, 128, 512, 32768]) (n := n) N hm (.cons _ t0 (.cons _ t1 (.cons _ t2 (.cons _ t3 .nil)))) h0 (by simp; omega) (by omega) (fun t => h _ t (page_pick h0 h1)) hs
theorem pick_bad (N : News h₀ L s.heap news) (hm : (D, listOf #[.int 0 t0, .int 1 t1, .int 63 t2, .int 32769 t3, .int 65535 t4] n) ∈ news) (h0 : 0 ≤ i) (h1 : i < 5) (h : ∀ v t, PageBad v → Q (.int v t) s)
    (hs : subscripted slice false (.ref D) (.int i u) = operate [.ref D, .int i u] (getItem (.ref D) (.int i u)) := by with_unfolding_all rfl) :
    wpAny (model prog w) A (subscriptTail value slice (.ref D) (.int i u)) Q E s :=
  ksa_sub (vs := [.int 0 t0, .int 1 t1, .int 63 t2, .int 32769 t3, .int 65535 t4]) (ns := [0, 1, 63, 32769, 65535]) (n := n) N hm (.cons _ t0 (.cons _ t1 (.cons _ t2 (.cons _ t3 (.cons _ t4 .nil))))) h0 (by simp; omega) (by omega) (fun t => h _ t (bad_pick h0 h1)) hs
theorem nth5 (N : News h₀ L s.heap news) (hm : (D, listOf #[.int v0 t0, .int v1 t1, .int v2 t2, .int v3 t3, .int v4 t4] n) ∈ news) (h0 : 0 ≤ i) (h1 : i < 5) (h : ∀ v t, v = ([v0, v1, v2, v3, v4] : List Int).getD i.toNat 0 → Q (.int v t) s)
    (hs : subscripted slice false (.ref D) (.int i u) = operate [.ref D, .int i u] (getItem (.ref D) (.int i u)) := by with_unfolding_all rfl) :
    wpAny (model prog w) A (subscriptTail value slice (.ref D) (.int i u)) Q E s :=
  ksa_sub (vs := [.int v0 t0, .int v1 t1, .int v2 t2, .int v3 t3, .int v4 t4]) (ns := [v0, v1, v2, v3, v4]) (n := n) N hm (.cons _ t0 (.cons _ t1 (.cons _ t2 (.cons _ t3 (.cons _ t4 .nil))))) h0 (by simp; omega) (by omega) (fun t => h _ t rfl) hs
end
end Nt89

namespace Nt89
section
variable {prog : Program} {w : World} {A : Around} {E : Value → Shared → Prop} {s : Shared} {h₀ : Heap} {L a b : Addr} {news : List (Addr × Obj)} {oa ob : Obj} {n k : Nat} {x0 x1 x2 : Int} {t0 t1 t2 u0 u1 u2 : Tok} {Q : Value → Shared → Prop}
theorem ne_tup3 (N : News h₀ L s.heap news) (ha : (a, oa) ∈ news) (ca : oa.cls = .type "tuple") (da : oa.data = .seq #[.int x0 t0, .int x1 t1, .int x2 t2] n)
    (hb : (b, ob) ∈ news) (cb : ob.cls = .type "tuple") (db : ob.data = .seq #[.int x0 u0, .int x1 u1, .int x2 u2] k) (hu : A.units + 64 < cLine) (h : Q (.bool false) s) :
    wpAny (model prog w) A (compareOp .NotEq (.ref a) (.ref b)) Q E s := by
  refine ne_dataH (reads_tuple_at (News.get N ha) ca da (ReadsAll.cons (Reads.int _ _) (ReadsAll.cons (Reads.int _ _) (ReadsAll.cons (Reads.int _ _) ReadsAll.nil)))) (reads_tuple_at (News.get N hb) cb db (ReadsAll.cons (Reads.int _ _) (ReadsAll.cons (Reads.int _ _) (ReadsAll.cons (Reads.int _ _) ReadsAll.nil)))) rfl rfl hu ?_
  simp only [PyData.eqv, PyData.eqvAll, beq_self_eq_true, Bool.and_true, Bool.not_true]
  exact h
end
end Nt89

namespace Nt89
theorem lit_Z : KBw.bInts #[90] = [90] := rfl
theorem lit_a : KBw.bInts #[97] = [97] := rfl
theorem lit_x : KBw.bInts #[120] = [120] := rfl
theorem lit_y : KBw.bInts #[121] = [121] := rfl
theorem lit_none : KBw.bInts #[] = [] := rfl
theorem lit_one {m : Int} (h0 : 0 ≤ m) (h1 : m < 256) : KBw.bInts #[m.toNat.toUInt8] = [m] := by
  show [((m.toNat.toUInt8.toNat : Nat) : Int)] = [m]
  have e : (m.toNat.toUInt8).toNat = m.toNat := by
    show (UInt8.ofNat m.toNat).toNat = _
    rw [UInt8.toNat_ofNat']
    omega
  rw [e, show ((m.toNat : Nat) : Int) = m by omega]
section
variable {prog : Program} {w : World} {A : Around} {E : Value → Shared → Prop} {s : Shared} {b : Array UInt8} {t : Tok} {n : Int} {Q : Value → Shared → Prop}
theorem bytes_int_K (h0 : 0 ≤ n) (h1 : n < 3) (hQ : ∀ b z t' k, KBw.bInts b = z → z.length ≤ 2 → Q (.bytes b t') { s with toks := k }) : wpAny (model prog w) A (call (.type "bytes") [.int n t]) Q E s :=
  bytes_int h0 (by omega) fun t' k => hQ _ _ t' k rfl (by rw [KBw.ints_length, Array.size_replicate]; omega)
theorem len_head {ps v0 v1 v2 v3 v4 c30 c31 : Int} (hk : KBw.bInts b = headL ps v0 v1 v2 v3 v4 c30 c31) (h : ∀ t' k, Q (.int 32 t') { s with toks := k }) : wpAny (model prog w) A (call (.builtin "len") [.bytes b t]) Q E s :=
  KBw.len_K hk (by rw [headL_length]; decide) (by rw [headL_length]; exact h _ _)
theorem pow32 {u : Tok} (h : ∀ t' k, Q (.int 4294967296 t') { s with toks := k }) : wpAny (model prog w) A (binaryOp .Pow (.int 2 t) (.int 32 u)) Q E s :=
  pow_int_small (by decide) (by decide) (by decide) (h _ _)
theorem pow256 {u : Tok} {k : Int} (h0 : 0 ≤ k) (h1 : k ≤ 1000) (h : ∀ t' j, Q (.int (256 ^ k.toNat) t') { s with toks := j }) : wpAny (model prog w) A (binaryOp .Pow (.int 256 t) (.int k u)) Q E s :=
  pow_int_small h0 (by omega) (by decide) (h _ _)
theorem p256_ne (k : Int) : (256 : Int) ^ k.toNat ≠ 0 := Int.ne_of_gt (p256_pos k)
end
theorem news_tail5 {h₀ h : Heap} {L : Addr} {a b c d e : Addr × Obj} {l : List (Addr × Obj)} (N : News h₀ L h (a :: b :: c :: d :: e :: l)) : News h₀ L h (b :: c :: d :: e :: l) := news_tail N
theorem news_tail3 {h₀ h : Heap} {L : Addr} {a b c : Addr × Obj} {l : List (Addr × Obj)} (N : News h₀ L h (a :: b :: c :: l)) : News h₀ L h (b :: c :: l) := news_tail N
theorem ne_int_same {prog : Program} {w : World} {A : Around} {E : Value → Shared → Prop} {s : Shared} {x : Int} {t u : Tok} {Q : Value → Shared → Prop} (h : Q (.bool false) s) : wpAny (model prog w) A (compareOp .NotEq (.int x t) (.int x u)) Q E s :=
  ne_int (by rw [bne_self_eq_false]; exact h)
theorem law_none {args : List WData} : ∀ cls, PySem.Challenge.rw_nt0089_01.row.toRowW.claim.raises args cls = false := raisesW_false (by wrow_none_raised)
theorem law_true {args : List WData} : PySem.Challenge.rw_nt0089_01.row.toRowW.claim.post args (.bool true) args = true := by wrow_post
/-- two addresses are not the same: hidden from the arithmetic closers -/
def Apart (a b : Nat) : Prop := a ≠ b
theorem Apart.of {a b : Nat} (h : a ≠ b) : Apart a b := h
theorem Apart.ne {a b : Nat} (h : Apart a b) : a ≠ b := h
theorem Apart.ne' {a b : Nat} (h : Apart a b) : b ≠ a := Ne.symm h
theorem Apart.lt {a b : Nat} (h : a < b) : Apart a b := Nat.ne_of_lt h
section
local macro_rules | `(tactic| walk_at "nt_t") => `(tactic| ((try dsimp only); (try k_fold); (try k_sweep)))
local macro_rules | `(tactic| walk_at "nt_K") => `(tactic| first | exact rfl | assumption)
local macro_rules | `(tactic| walk_at "call ref") => `(tactic| (k_here; (with_reducible show wpAny _ _ (call (Value.ref 118) [Value.ref _, Value.int _ _]) _ _ _); k_dflt (
  refine' takeU (by k_asm) (by k_asm) (by k_asm) (by k_asm) (by k_asm) (by walk_at "nt_K") (by (intro o'; k_upd)) (by assumption) (by first | assumption | decide | omega) (by first | assumption | decide | omega) (by ktr_room) (by ktr_units) ?_
  k_whole
  intros
  walk_at "nt_t")))
local macro_rules | `(tactic| walk_at "call ref") => `(tactic| (k_here; (with_reducible show wpAny _ _ (call (Value.ref 125) [Value.ref _, Value.int _ _]) _ _ _); k_dflt (
  refine' numberU (by k_asm) (by k_asm) (by k_asm) (by k_asm) (by k_asm) (by walk_at "nt_K") (by (intro o'; k_upd)) (by assumption) (by first | assumption | decide | omega) (by first | assumption | decide | omega) (by ktr_room) (by ktr_units) ?_
  k_whole
  intros
  walk_at "nt_t")))
local macro_rules | `(tactic| walk_at "call ref") => `(tactic| (k_here; (with_reducible show wpAny _ _ (call (Value.ref 111) [Value.ref _]) _ _ _); k_dflt (
  refine' pool1 ?kI ?kY _ _ _ _ _ _ _ _ _ _ _ _ _ _ _ _ _ ?kL ?kB ?kF ?kX ?kN ?kT ?kK ?kd ?ku ?_
  (case kB => k_asm)
  (case kF => k_asm)
  (case kX => k_asm)
  (case kN => k_asm)
  (case kT => k_asm)
  (case kK => first | exact rfl | assumption)
  (case kL => assumption)
  (case kI => assumption)
  (case kY => assumption)
  (case kd => ktr_room)
  (case ku => ktr_units)
  k_whole
  intros
  rename_i l1 hd'
  (try k_lt l1)
  walk_at "nt_t")))
local macro_rules | `(tactic| walk_at "call ref") => `(tactic| (k_here; (with_reducible show wpAny _ _ (call (Value.ref 53) [Value.int _ _, Value.int _ _]) _ _ _); k_dflt (
  refine' putU (by first | decide | omega) (by first | decide | omega) (by k_asm) (by k_asm) (by k_asm) (by k_asm) (by k_asm) (by walk_at "nt_K") (by ktr_room) (by ktr_units) ?_
  k_whole
  intros
  walk_at "nt_t")))
local macro_rules | `(tactic| walk_at "call ref") => `(tactic| (k_here; (with_reducible show wpAny _ _ (call (Value.ref 132) [Value.int _ _, Value.int _ _]) _ _ _); k_dflt (
  refine' octU (by first | decide | omega) (by first | decide | omega) (by k_asm) (by k_asm) (by k_asm) (by k_asm) (by k_asm) (by walk_at "nt_K") (by ktr_room) (by ktr_units) ?_
  k_whole
  intros
  walk_at "nt_t")))
local macro_rules | `(tactic| walk_at "call ref") => `(tactic| (k_here; (with_reducible show wpAny _ _ (call (Value.ref 60) [Value.bytes _ _, Value.int _ _, Value.int _ _]) _ _ _); k_dflt (
  refine' getU (by assumption) (by (simp only [List.length_append, octL_length, List.length_cons, List.length_nil] <;> omega)) (by first | decide | omega) (by first | decide | omega) (by first | decide | omega) (by (simp only [List.length_append, octL_length, List.length_cons, List.length_nil] <;> omega)) (by k_asm) (by k_asm) (by k_asm) (by k_asm) (by k_asm) (by walk_at "nt_K") (by ktr_room) (by ktr_units) ?_
  k_whole
  intros
  rename_i getE
  have getE2 := Eq.trans getE (val_mid (by omega) (by omega))
  clear getE
  subst getE2
  walk_at "nt_t")))
local macro_rules | `(tactic| walk_at "call ref") => `(tactic| (k_here; (with_reducible show wpAny _ _ (call (Value.ref 67) [Value.int _ _]) _ _ _); k_dflt (first
  | (refine' page_yes (by assumption) (by k_asm) (by k_asm) (by k_asm) (by k_asm) (by k_asm) (by walk_at "nt_K") (by ktr_room) (by ktr_units) ?_; k_whole; intros; walk_at "nt_t")
  | (refine' page_no (by assumption) (by k_asm) (by k_asm) (by k_asm) (by k_asm) (by k_asm) (by walk_at "nt_K") (by ktr_room) (by ktr_units) ?_; k_whole; intros; walk_at "nt_t"))))
local macro_rules | `(tactic| walk_at "call ref") => `(tactic| (k_here; (with_unfolding_all show wpAny _ _ (call (Value.ref 100) [Value.int _ _, Value.int _ _, Value.int _ _, Value.int _ _, Value.int _ _, Value.int _ _, Value.int _ _, Value.int _ _]) _ _ _); k_dflt (
  refine' made_head (by k_asm) (by k_asm) (by k_asm) (by k_asm) (by k_asm) (by walk_at "nt_K") (by ktr_room) (by ktr_units) ?_
  k_whole
  intros
  rename_i l1 l2
  (try k_lt l1)
  (try k_lt l2)
  walk_at "nt_t")))
local macro_rules | `(tactic| walk_at "call ref") => `(tactic| (k_here; (with_unfolding_all show wpAny _ _ (call (Value.ref 89) [Value.ref _]) _ _ _); k_dflt (
  refine' packU (by k_asm) (by k_asm) (by k_asm) (by k_asm) (by k_asm) (by walk_at "nt_K") (by ktr_room) (by ktr_units) ?_
  k_whole
  intros
  rename_i N' bytesE
  replace N' := news_tail (news_tail N')
  walk_at "nt_t")))
local macro_rules | `(tactic| walk_at "call ref") => `(tactic| (k_here; (with_reducible show wpAny _ _ (call (Value.ref 94) [Value.bytes _ _]) _ _ _); k_dflt (
  refine' goodU (by assumption) (by assumption) (by assumption) (by assumption) (by assumption) (by k_asm) (by k_asm) (by k_asm) (by k_asm) (by k_asm) (by walk_at "nt_K") (by ktr_room) (by ktr_units) ?_
  k_whole
  intros
  rename_i l1 l2
  (try k_lt l1)
  (try k_lt l2)
  walk_at "nt_t")))
local macro_rules | `(tactic| walk_at "call ref") => `(tactic| (k_here; (with_reducible show wpAny _ _ (call (Value.ref 139) [Value.bytes _ _]) _ _ _); k_dflt (
  refine' refusedU (by first | (with_reducible assumption) | exact lit_none) (by (simp only [List.length_append, List.length_take, List.length_drop, headL_length, octL_length, List.length_cons, List.length_nil] <;> omega)) (by first | (with_reducible exact bh_cut) | (with_reducible exact bh_none) | ((with_reducible refine bh_magic ?_ ?_) <;> assumption) | ((with_reducible refine bh_mode ?_ ?_) <;> assumption) | ((with_reducible refine bh_page ?_) <;> assumption)) (by k_asm) (by k_asm) (by k_asm) (by k_asm) (by k_asm) (by k_asm) (by k_asm) (by walk_at "nt_K") (by ktr_room) (by ktr_units) ?_
  k_whole
  intros
  walk_at "nt_t")))
local macro_rules | `(tactic| walk_at "CompSrc") => `(tactic| (k_here; k_dflt (first
  | (refine LCg.CompSrc.ledger (by rfl) (by k_asm) (by k_asm) (by k_mem) (by first | size_fits | exact Nat.le_of_ble_eq_true rfl) ?_; intro g'; lcg_lit)
  | (refine LCg.CompSrc.range (by rfl) (by k_asm) (by k_asm) (by assumption) (by first | decide | rfl) (by first | rfl | decide) (by first | size_fits | exact Nat.le_of_ble_eq_true rfl) ?_; intro g'; lcg_lit))))
local macro_rules | `(tactic| walk_at "subscriptTail Name Constant ref int") => `(tactic| (k_here; k_dflt (
  (refine' nth5 ?k1 ?k2 ?k3 ?k4 ?_ ?k5; (case k1 => k_asm); (case k2 => k_mem); (case k3 => decide); (case k4 => decide); (case k5 => with_unfolding_all rfl); k_whole; intro v' t' nthE; simp only [Int.reduceToNat, List.getD_cons_zero, List.getD_cons_succ] at nthE; subst nthE))))
local macro_rules | `(tactic| walk_at "subscriptTail") => `(tactic| (k_here; (with_reducible show wpAny _ _ (subscriptTail _ _ (Value.ref _) (Value.int _ _)) _ _ _); k_dflt (first
  | (refine' pick_page ?k1 ?k2 ?k3 ?k4 ?_ ?k5; (case k1 => k_asm); (case k2 => k_mem); (case k3 => assumption); (case k4 => assumption); (case k5 => with_unfolding_all rfl); k_whole; intro v' t' pageK)
  | (refine' pick_bad ?k1 ?k2 ?k3 ?k4 ?_ ?k5; (case k1 => k_asm); (case k2 => k_mem); (case k3 => assumption); (case k4 => assumption); (case k5 => with_unfolding_all rfl); k_whole; intro v' t' pageK))))
local macro_rules | `(tactic| walk_at "binaryOp Add bytes bytes") => `(tactic| (k_here; k_dflt (
  refine' KBa.add_K (by first | (with_reducible assumption) | exact magic_ints | exact lit_x | exact lit_one (by omega) (by omega)) (by first | (with_reducible assumption) | exact lit_Z | exact lit_a | exact lit_y | exact lit_one (by omega) (by omega)) (by (simp only [List.length_append, List.length_take, List.length_drop, headL_length, octL_length, Int.reduceToNat, List.length_cons, List.length_nil, magicL] <;> omega)) ?_
  intro _ _ bytesE)))
local macro_rules | `(tactic| walk_at "call type:bytes") => `(tactic| (k_here; (with_reducible show wpAny _ _ (call (Value.type "bytes") [Value.int _ _]) _ _ _); (refine bytes_int_K (by assumption) (by assumption) ?_); intro b' z' _ _ bytesE zeroL))
local macro_rules | `(tactic| walk_at "subscriptTail") => `(tactic| (k_here; (with_reducible show wpAny _ _ (subscriptTail _ (Expr.Slice none (some _) none _) (Value.bytes _ _) (Value.ref _)) _ _ _); (with_reducible rename Fr _ _ _ _ => F'); (with_reducible rename News _ _ _ _ => N'); (refine slice_to (s := ⟨_, _, _, _, _⟩) F' N' (by assumption) (by first | decide | omega) (by rw [headL_length]; decide) ?_); intro _ _ _ _ F' N' sliceK))
local macro_rules | `(tactic| walk_at "subscriptTail") => `(tactic| (k_here; (with_reducible show wpAny _ _ (subscriptTail _ (Expr.Slice (some _) none none _) (Value.bytes _ _) (Value.ref _)) _ _ _); (with_reducible rename Fr _ _ _ _ => F'); (with_reducible rename News _ _ _ _ => N'); (refine slice_from (s := ⟨_, _, _, _, _⟩) F' N' (by assumption) (by first | decide | omega) (by rw [headL_length]; decide) ?_); intro _ _ _ _ F' N' sliceK))
local macro_rules | `(tactic| walk_at "compareOp NotEq bytes bytes") => `(tactic| (k_here; k_dflt (
  refine' ne_same (by assumption) (by assumption) (by first | (with_reducible exact rfl) | exact due_eq (by omega) (by omega)) ?_
  (with_reducible rename News _ _ _ _ => N')
  repeat (replace N' := news_tail5 N'))))
local macro_rules | `(tactic| walk_at "call builtin:bytes.join") => `(tactic| (k_here; k_dflt (
  refine' join5_K (by k_asm) (by k_mem) (by exact rfl) (by exact rfl) (by assumption) (by assumption) (by assumption) (by assumption) (by assumption) (by (simp only [octL_length, Int.reduceToNat] <;> omega)) ?_
  intro b' _ _ bytesE)))
local macro_rules | `(tactic| k_ne) => `(tactic| (refine neN ?_; (try dsimp only); (first | exact Apart.ne (by with_reducible assumption) | exact Apart.ne' (by with_reducible assumption) | (with_reducible assumption) | exact Ne.symm (by with_reducible assumption) | exact Nat.ne_of_lt (by with_reducible assumption) | exact Nat.ne_of_gt (by with_reducible assumption) | omega)))
local macro_rules | `(tactic| walk_at "CompEnd") => `(tactic| (k_here; k_dflt ((refine LCg.CompEnd.intro (by assumption) (by assumption) _ (fun p hp => hp) (by lcg_off) (by lcg_src) ?_))))
local macro_rules | `(tactic| walk_at "call builtin:len") => `(tactic| (k_here; (with_reducible show wpAny _ _ (call (Value.builtin "len") [Value.bytes _ _]) _ _ _); k_dflt (refine len_head (by assumption) ?_; intro _ _)))
local macro_rules | `(tactic| walk_at "binaryOp Pow int int") => `(tactic| (k_here; k_dflt (first | (with_reducible refine pow32 ?_) | (refine pow256 (by omega) (by omega) ?_)); intro _ _))
local macro_rules | `(tactic| walk_at "binaryOp Mod int int") => `(tactic| (k_here; k_dflt (refine mod_int ?m1 ?_; (case m1 => first | decide | exact p256_ne _))))
local macro_rules | `(tactic| walk_at "compareOp NotEq ref ref") => `(tactic| (k_here; k_dflt (
  refine' ne_tup3 (by k_asm) (by k_mem) (by exact rfl) (by exact rfl) (by k_mem) (by exact rfl) (by exact rfl) (by ke_room) ?_
  (with_reducible rename News _ _ _ _ => N')
  repeat (replace N' := news_tail3 N'))))
local macro_rules | `(tactic| walk_at "compareOp NotEq ref ref") => `(tactic| (k_here; k_dflt (refine ke_ne_ints (by is_list) (by is_list) (by l_ints) (by l_ints) (by ke_room) ?_); (simp only [eq_self, decide_true, Bool.not_true])))
local macro_rules | `(tactic| walk_at "compareOp NotEq int int") => `(tactic| (k_here; with_reducible refine ne_int_same ?_))
local macro_rules | `(tactic| walk_at "compareOp Eq ref ref") => `(tactic| (k_here; k_dflt (refine ke_eq_ints (by is_list) (by is_list) (by l_ints) (by l_ints) (by ke_room) ?_); (simp only [eq_self, decide_true])))
local macro_rules | `(tactic| walk_at "CompSrcT") => `(tactic| (k_here; k_dflt (
  (refine LCt.CompSrcT.ledger (by rfl) (by k_asm) (by k_asm) (by k_mem) (by first | size_fits | exact Nat.le_of_ble_eq_true rfl) ?_; intro g'; (with_unfolding_all show LCt.CompRestT _ _ _ _ _ _ _ _ _ _ _ _ _ _ _ _ 5 _ _ _)))))
local macro_rules | `(tactic| walk_at "callWith ref") => `(tactic| (k_here; (with_reducible show wpAny _ _ (callWith _ (Value.ref _) _ (backTo _ (starEach [] _)) []) _ _ _); k_dflt ((with_reducible rename Fr _ _ _ _ => F'); refine' callWith_K0 (Frag.In.keeps (by with_reducible assumption) (Fr.keep F')) ?k2 ?_; (case k2 => k_is); k_whole)))
local macro_rules | `(tactic| walk_at "getMethod bytes") => `(tactic| (k_here; k_dflt (refine method_join ?_)))
set_option maxRecDepth 100000 in
set_option maxHeartbeats 8000000 in
theorem law1 : PySem.Challenge.rw_nt0089_01.Holds := Nt89.hd (by
  k_go0
  all_goals try k_fold
  repeat' (first
    | (with_reducible rename @LT.lt Nat instLTNat _ _ ∧ _ => z'; have a' := And.left z'; have b' := And.right z'; clear z')
    | (with_reducible rename (@Ne Nat _ _ ∧ @Ne Nat _ _ ∧ @Ne Nat _ _) ∧ _ => z'; have a' := And.left z'; have b' := And.right z'; clear z')
    | (with_reducible rename @Ne Nat _ _ ∧ _ => z'; have a' := Apart.of (And.left z'); have b' := And.right z'; clear z')
    | (with_reducible rename @Ne Nat _ _ => z'; have a' := Apart.of z'; clear z')
    | (k_unfold; (try dsimp only))
    | (k_end; (refine' goodW_bool (b := true) ?zf ?zg law_none law_true); (case zf => with_reducible assumption); (case zg => first | (with_reducible assumption) | assumption))
    | (k_end; wrow_close) | walk1 | (dsimp only; walk1) | (leave1; walk_say "STEP leave1"; try dsimp only) | fail "no step")
  all_goals (try k_data))
end
end Nt89

theorem PySem.Challenge.cw_nt0089_01_holds : PySem.Challenge.rw_nt0089_01.Holds := by
  exact Nt89.law1

