import PyProof.Rows.All
import Wide.All
import OpenK.AllK
import Wide.FinOn
import Lean
import PySem.Challenge.RW_ot0001_01
open PySem PySem.W PyProof.Rows
set_option Elab.async false
set_option maxRecDepth 100000
set_option maxHeartbeats 8000000
set_option compiler.extract_closed false
namespace Mine
section
open_top hd for PySem.Challenge.rw_ot0001_01
end
section
def Tell (prog : Program) (w : World) (K : Frag) (p : Program) (loose : List Str) (mean : ExcName → Option Value) (mg mb : Str → Option Value) (f : Addr) (d u : Nat) (news : List (Addr × Obj)) (vs : List Value)
    (Ret : (Value → List (Addr × Obj) → Prop) → Prop) : Prop :=
  ∀ (dp un : Nat) (gd : Option (List Code)) (cn : Str) (cs : Scope) (a : Addr) (ccd : Value) (cl : List (Str × Addr)) (outer : List Env) (A₀ : Around) (base h₀ : Heap) (L : Addr) (m : Str → Option Value) (s : Shared) (Q E : Value → Shared → Prop),
    Below A₀ base outer h₀ → Fr h₀ L s.heap m → K.In h₀ → News h₀ L s.heap news → Top p loose mean mg mb h₀ → cs.kind = .function → dp + d < recursionLimit → un + u < cLine →
    Ret (fun r news' => ∀ h' tk', Fr h₀ L h' m → News h₀ L h' news' → Q r { s with heap := h', toks := tk' }) →
    wpAny (model prog w) (ktrTop dp un gd cn cs L a ccd cl outer) (call (.ref f) vs) Q E s
/-- the same, of a call that looks at what stood before (a list of the base) -/
def TellB (prog : Program) (w : World) (K : Frag) (p : Program) (loose : List Str) (mean : ExcName → Option Value) (mg mb : Str → Option Value) (f : Addr) (d u : Nat) (P : Heap → Prop) (news : List (Addr × Obj)) (vs : List Value)
    (Ret : (Value → List (Addr × Obj) → Prop) → Prop) : Prop :=
  ∀ (dp un : Nat) (gd : Option (List Code)) (cn : Str) (cs : Scope) (a : Addr) (ccd : Value) (cl : List (Str × Addr)) (outer : List Env) (A₀ : Around) (base h₀ : Heap) (L : Addr) (m : Str → Option Value) (s : Shared) (Q E : Value → Shared → Prop),
    Below A₀ base outer h₀ → Fr h₀ L s.heap m → K.In h₀ → News h₀ L s.heap news → Top p loose mean mg mb h₀ → cs.kind = .function → dp + d < recursionLimit → un + u < cLine → P base →
    Ret (fun r news' => ∀ h' tk', Fr h₀ L h' m → News h₀ L h' news' → Q r { s with heap := h', toks := tk' }) →
    wpAny (model prog w) (ktrTop dp un gd cn cs L a ccd cl outer) (call (.ref f) vs) Q E s
inductive Kd where
  | i8 | i16 | i32 | i64 | u8 | u16 | u32 | u64 | us
def Kd.str : Kd → Str
  | .i8 => Str.ofString "i8" | .i16 => Str.ofString "i16" | .i32 => Str.ofString "i32" | .i64 => Str.ofString "i64"
  | .u8 => Str.ofString "u8" | .u16 => Str.ofString "u16" | .u32 => Str.ofString "u32" | .u64 => Str.ofString "u64" | .us => Str.ofString "usize"
def Kd.sgn : Kd → Bool
  | .i8 | .i16 | .i32 | .i64 => true
  | _ => false
def Kd.bits : Kd → Nat
  | .i8 | .u8 => 8 | .i16 | .u16 => 16 | .i32 | .u32 => 32 | _ => 64
def Kd.lo (k : Kd) : Int := if k.sgn then 0 - 2 ^ (k.bits - 1) else 0
def Kd.hi (k : Kd) : Int := if k.sgn then 2 ^ (k.bits - 1) - 1 else 2 ^ k.bits - 1
def Kd.wrap (k : Kd) (n : Int) : Int := k.lo + (n - k.lo) % 2 ^ k.bits
def Kd.fits (k : Kd) (n : Int) : Bool := decide (k.lo ≤ n) && decide (n ≤ k.hi)
theorem Kd.len (k : Kd) : 0 < k.str.length ∧ k.str.length ≤ 5 := by cases k <;> decide +kernel
theorem Kd.first (k : Kd) : (Txt.item k.str 0 == Str.ofString "i") = k.sgn := by cases k <;> decide +kernel
theorem Kd.bits_le (k : Kd) : 8 ≤ k.bits ∧ k.bits ≤ 64 := by cases k <;> decide
theorem Tell.use {prog : Program} {w : World} {K : Frag} {p : Program} {loose : List Str} {mean : ExcName → Option Value} {mg mb : Str → Option Value} {f : Addr} {d u : Nat} {news : List (Addr × Obj)} {vs : List Value}
    {Ret : (Value → List (Addr × Obj) → Prop) → Prop} (C : Tell prog w K p loose mean mg mb f d u news vs Ret)
    {dp un : Nat} {gd : Option (List Code)} {cn : Str} {cs : Scope} {a : Addr} {ccd : Value} {cl : List (Str × Addr)} {outer : List Env} {A₀ : Around} {base h₀ : Heap} {L : Addr} {m : Str → Option Value} {s : Shared} {Q E : Value → Shared → Prop}
    (B : Below A₀ base outer h₀) (F : Fr h₀ L s.heap m) (X : K.In h₀) (N : News h₀ L s.heap news) (T : Top p loose mean mg mb h₀) (hk : cs.kind = .function) (hd : dp + d < recursionLimit) (hu : un + u < cLine)
    (hr : Ret (fun r news' => ∀ h' tk', Fr h₀ L h' m → News h₀ L h' news' → Q r { s with heap := h', toks := tk' })) :
    wpAny (model prog w) (ktrTop dp un gd cn cs L a ccd cl outer) (call (.ref f) vs) Q E s := C _ _ _ _ _ _ _ _ _ _ _ _ _ _ _ _ _ B F X N T hk hd hu hr
theorem TellB.use {prog : Program} {w : World} {K : Frag} {p : Program} {loose : List Str} {mean : ExcName → Option Value} {mg mb : Str → Option Value} {f : Addr} {d u : Nat} {P : Heap → Prop} {news : List (Addr × Obj)} {vs : List Value}
    {Ret : (Value → List (Addr × Obj) → Prop) → Prop} (C : TellB prog w K p loose mean mg mb f d u P news vs Ret)
    {dp un : Nat} {gd : Option (List Code)} {cn : Str} {cs : Scope} {a : Addr} {ccd : Value} {cl : List (Str × Addr)} {outer : List Env} {A₀ : Around} {base h₀ : Heap} {L : Addr} {m : Str → Option Value} {s : Shared} {Q E : Value → Shared → Prop}
    (B : Below A₀ base outer h₀) (F : Fr h₀ L s.heap m) (X : K.In h₀) (N : News h₀ L s.heap news) (T : Top p loose mean mg mb h₀) (hk : cs.kind = .function) (hd : dp + d < recursionLimit) (hu : un + u < cLine) (hP : P base)
    (hr : Ret (fun r news' => ∀ h' tk', Fr h₀ L h' m → News h₀ L h' news' → Q r { s with heap := h', toks := tk' })) :
    wpAny (model prog w) (ktrTop dp un gd cn cs L a ccd cl outer) (call (.ref f) vs) Q E s := C _ _ _ _ _ _ _ _ _ _ _ _ _ _ _ _ _ B F X N T hk hd hu hP hr
theorem Tell.sub {prog : Program} {w : World} {K : Frag} {p : Program} {loose : List Str} {mean : ExcName → Option Value} {mg mb : Str → Option Value} {f : Addr} {d u : Nat} {news₁ news : List (Addr × Obj)} {vs : List Value}
    {Ret₁ Ret : (Value → List (Addr × Obj) → Prop) → Prop} (C : Tell prog w K p loose mean mg mb f d u news₁ vs Ret₁) (hsub : ∀ p ∈ news₁, p ∈ news)
    (hr : ∀ ret : Value → List (Addr × Obj) → Prop, (∀ v a b, (∀ p ∈ a, p ∈ b) → ret v a → ret v b) → Ret ret → Ret₁ ret) : Tell prog w K p loose mean mg mb f d u news vs Ret := by
  intro dp un gd cn cs a ccd cl outer A₀ base h₀ L m s Q E B F X N T hk hd hu hret
  exact C dp un gd cn cs a ccd cl outer A₀ base h₀ L m s Q E B F X (fun p hp => N p (hsub p hp)) T hk hd hu
    (hr _ (fun v a b hab h h' tk' F' N' => h h' tk' F' fun p hp => N' p (hab p hp)) hret)
theorem bits_item {w : World} {A : Around} {E : Value → Shared → Prop} {s : Shared} {h₀ : Heap} {L : Addr} {m : Str → Option Value} {value slice : PySem.Expr} {Q : Value → Shared → Prop} (k : Kd) (t : Tok)
    (F : Fr h₀ L s.heap m) (X : (Mine.hd.heap_39 w.params).In h₀) (hQ : ∀ t', Q (.int k.bits t') { s with toks := s.toks + 1 })
    (hs : subscripted slice false (.ref 15) (.str k.str t) = operate [.ref 15, .str k.str t] (getItem (.ref 15) (.str k.str t)) := by with_unfolding_all rfl) :
    wpAny (model PySem.Challenge.rw_ot0001_01.row.prog w) A (subscriptTail value slice (.ref 15) (.str k.str t)) Q E s := by
  revert X
  w_top off
  k_fill
  intro X
  cases k
  all_goals (k_dflt (refine' topItem_K ?F ?X ?l ?k ?e ?_ ?hs; (case F => k_asm); (case X => k_asm); (case l => k_is); (case k => k_keys); (case e => k_is); (case hs => exact hs)); exact hQ _)
theorem toNat_sub1 (b : Nat) : ((b : Int) - 1).toNat = b - 1 := by omega
theorem toNat_cast (b : Nat) : ((b : Int)).toNat = b := by omega
theorem two_pow_pos (b : Nat) : (0 : Int) < 2 ^ b := Int.pow_pos (by decide)
theorem fmod_pow (x : Int) (b : Nat) : Int.fmod x (2 ^ b) = x % 2 ^ b := Int.fmod_eq_emod_of_nonneg _ (Int.le_of_lt (two_pow_pos b))
theorem fdiv_pow (x : Int) (b : Nat) : Int.fdiv x (2 ^ b) = x / 2 ^ b := Int.fdiv_eq_ediv_of_nonneg _ (Int.le_of_lt (two_pow_pos b))
theorem lo_s {k : Kd} (h : k.sgn = true) : 0 - 2 ^ ((k.bits : Int) - 1).toNat = k.lo := by rw [toNat_sub1]; unfold Kd.lo; rw [h]; rfl
theorem lo_u {k : Kd} (h : ¬ k.sgn = true) : 0 = k.lo := by unfold Kd.lo; rw [if_neg h]
theorem hi_s {k : Kd} (h : k.sgn = true) : 2 ^ ((k.bits : Int) - 1).toNat - 1 = k.hi := by rw [toNat_sub1]; unfold Kd.hi; rw [h]; rfl
theorem hi_u {k : Kd} (h : ¬ k.sgn = true) : 2 ^ ((k.bits : Int)).toNat - 1 = k.hi := by rw [toNat_cast]; unfold Kd.hi; rw [if_neg h]
theorem fits_1 {k : Kd} {n : Int} (h : k.lo ≤ n) : decide (n ≤ k.hi) = k.fits n := by unfold Kd.fits; simp [h]
theorem fits_2 {k : Kd} {n : Int} (h : ¬ k.lo ≤ n) : decide (k.lo ≤ n) = k.fits n := by unfold Kd.fits; simp [h]
theorem wrap_eq (k : Kd) (n : Int) : k.lo + (n - k.lo).fmod (2 ^ ((k.bits : Int)).toNat) = k.wrap n := by rw [toNat_cast, fmod_pow]; rfl
theorem sgn_f {k : Kd} (h : k.sgn = false) : ¬ k.sgn = true := by rw [h]; decide
theorem fmod_bits (k : Kd) (m : Int) : 0 ≤ m.fmod k.bits ∧ m.fmod k.bits < 64 ∧ m.fmod k.bits = m % k.bits := by
  have h := k.bits_le
  have e : m.fmod k.bits = m % k.bits := Int.fmod_eq_emod_of_nonneg _ (by omega)
  have h1 := Int.emod_nonneg m (show (k.bits : Int) ≠ 0 by omega)
  have h2 := Int.emod_lt_of_pos m (show (0 : Int) < k.bits by omega)
  exact ⟨by omega, by omega, e⟩
theorem natAbs_two_pow (p : Nat) : ((2 : Int) ^ p).natAbs = 2 ^ p := by
  rw [Int.natAbs_pow]; rfl
theorem mulok_pow (n : Int) {p : Nat} (h : p < 64) : IntMulOk n (2 ^ p) := by
  refine IntMulOk.of_right (intBits_le_iff.mpr ?_)
  rw [natAbs_two_pow]
  exact Nat.pow_lt_pow_right (by decide) h
theorem nopylong_pow (n : Int) {p : Nat} (h : p < 64) : Builtin.divisionGoesByPylong n (2 ^ p) = false := by
  refine PyProof.noPylong_of_log2 ?_
  rw [natAbs_two_pow, Nat.log2_two_pow]
  omega
theorem two_pow_ne (p : Nat) : (2 : Int) ^ p ≠ 0 := Int.ne_of_gt (two_pow_pos p)
theorem over_1 {many : Int} {b : Nat} (h : 0 ≤ many) : (!decide (many < (b : Int))) = (!(decide (0 ≤ many) && decide (many < (b : Int)))) := by simp [h]
theorem over_2 {many : Int} {b : Nat} (h : ¬ 0 ≤ many) : (!decide (0 ≤ many)) = (!(decide (0 ≤ many) && decide (many < (b : Int)))) := by simp [h]
theorem wrap_fdiv (k : Kd) (n : Int) (p : Nat) : k.wrap (n.fdiv (2 ^ p)) = k.wrap (n / 2 ^ p) := by rw [fdiv_pow]
end
section
/-- the state of a loop that turns one int by g1 and appends g2 of it to a list -/
def nlStep (g1 g2 : Int → Int) (q : Int × List Int) : Int × List Int := (g1 q.1, q.2 ++ [g2 q.1])
def nlRun (g1 g2 : Int → Int) (q : Int × List Int) : Nat → Int × List Int
  | 0 => q
  | n + 1 => nlStep g1 g2 (nlRun g1 g2 q n)
theorem nlRun_len (g1 g2 : Int → Int) (q : Int × List Int) : ∀ n, (nlRun g1 g2 q n).2.length = q.2.length + n
  | 0 => rfl
  | n + 1 => by
    show ((nlRun g1 g2 q n).2 ++ [_]).length = _
    rw [List.length_append, nlRun_len g1 g2 q n]; simp; omega
section
variable {prog : Program} {w : World} {A : Around} {E : Value → Shared → Prop} {s : Shared} {env : Env} {h₀ : Heap} {x : Str} {body : List Stmt} {Q : Flow → Shared → Prop}
theorem iter_rangeNL {r : Addr} {b₀ : Int} {t₀ u₀ v₀ : Tok} {n : Nat} {m₀ : Str → Option Value} {news : List (Addr × Obj)} {l : Addr} {y : Str} {c₀ : Int} (g1 g2 : Int → Int)
    (hh : A.handled = none) (hr : IsRange s.heap r 0 b₀ 1 t₀ u₀ v₀) (hsmall : Builtin.Range.small 0 b₀ 1 = true) (hn : Builtin.Range.rangeSize 0 b₀ 1 = (n : Int)) (F : Fr h₀ env.locals s.heap m₀)
    (N : News h₀ env.locals s.heap ((l, listOf #[] 0) :: news)) (hl : ∀ p ∈ news, p.1 < l) (hy : ∃ t₀, m₀ y = some (.int c₀ t₀))
    (turn : ∀ k t c ta us as nn h tk own, as.length ≤ n → (∀ p ∈ news ++ own, p.1 ≠ l) → IntsAre us as → Fr h₀ env.locals h (fun z => if z = x then some (.int k t) else if z = y then some (.int c ta) else m₀ z) →
      News h₀ env.locals h ((l, listOf us.toArray nn) :: (news ++ own)) →
      wpAny (model prog w) A (execs body env) (InvPostN h₀ env.locals (fun m' nx => (∃ us' n', nx = (l, listOf us'.toArray n') :: news ∧ IntsAre us' (as ++ [g2 c])) ∧ (∃ t', m' y = some (.int (g1 c) t')) ∧ ∀ z, z ≠ x → z ≠ y → m' z = m₀ z) own (l :: news.map (·.1)) { s with heap := h, toks := tk } Q) E { s with heap := h, toks := tk })
    (done : ∀ (u : Str → Option Value) c t us nn h tk, IntsAre us (nlRun g1 g2 (c₀, []) n).2 → Fr h₀ env.locals h (fun z => if z = x then u z else if z = y then some (.int c t) else m₀ z) → News h₀ env.locals h ((l, listOf us.toArray nn) :: news) → Q .next { s with heap := h, toks := tk }) :
    wpAny (model prog w) A (pyIter (.ref r)) (fun it s₂ => LoopAtV prog w A h₀ env x body Q E it s₂) E s := by
  have hadr : ∀ us nn, (((l, listOf us nn) : Addr × Obj) :: news).map (·.1) = l :: news.map (·.1) := fun _ _ => rfl
  refine wpAny_pyIter_range hr hsmall ?_
  have W : Walks prog w A s.heap.objs.size [s.heap.objs.size] [s.heap.objs.size] n (fun i v => i < n ∧ ∃ t, v = .int ((0 : Int) + i * 1) t)
      (fun i h => IsRangeIter h s.heap.objs.size ((0 : Int) + (i : Nat) * 1) ((n : Int) - (i : Nat)) 1) := (Walks.range hh _ 0 1 n).bound
  have hnw : ∀ p ∈ ((l, listOf #[] 0) : Addr × Obj) :: news, p.1 ∉ [s.heap.objs.size] := fun p hp hI => absurd (Heap.lt_size (N p hp).1) ((List.mem_singleton.mp hI) ▸ Nat.lt_irrefl _)
  refine loop_invN (fun i m nx => (∃ us' n', nx = (l, listOf us'.toArray n') :: news ∧ IntsAre us' (nlRun g1 g2 (c₀, []) i).2) ∧ (∃ t', m y = some (.int (nlRun g1 g2 (c₀, []) i).1 t')) ∧ ∀ z, z ≠ x → z ≠ y → m z = m₀ z)
    W (fun hm => absurd F.ns.lt ((List.mem_singleton.mp hm) ▸ Nat.lt_irrefl _)) (fun b hb => by rw [List.mem_singleton.mp hb]; exact next_is_new F) hnw hnw
    (by show IsRangeIter _ _ _ _ _; rw [hn]; simpa using Heap.get?_push_size _ rfl) (F.push _) (fun p hp => ⟨Heap.get?_push_of_some _ (N p hp).1, (N p hp).2⟩) ⟨⟨[], 0, rfl, .nil⟩, hy, fun _ _ _ => rfl⟩ ?_ ?_
  · rintro i v m₁ nx h tk own hi ⟨_, t, rfl⟩ _ hoff ⟨⟨us, nn, rfl, hu⟩, ⟨ta, hm⟩, ho⟩ F₁ N₁
    have hmap : (fun z => if z = x then some (Value.int ((0 : Int) + i * 1) t) else m₁ z) = fun z => if z = x then some (.int ((0 : Int) + i * 1) t) else if z = y then some (.int (nlRun g1 g2 (c₀, []) i).1 ta) else m₀ z := by
      funext z; by_cases h1 : z = x <;> simp only [h1, if_true, if_false]
      by_cases h2 : z = y <;> simp only [h2, if_true, if_false]
      · exact hm
      · exact ho z h1 h2
    rw [hmap] at F₁
    refine turn _ t _ ta us _ nn h tk own ?_ ?_ hu F₁ N₁
    · rw [nlRun_len]; simpa using Nat.le_of_lt hi
    · intro p hp
      rcases List.mem_append.mp hp with h1 | h1
      · exact Nat.ne_of_lt (hl p h1)
      · exact hoff p h1 l (.head _)
  · rintro m₁ nx h tk ⟨⟨us, nn, rfl, hu⟩, ⟨t, hm⟩, ho⟩ F₁ N₁
    refine done m₁ (nlRun g1 g2 (c₀, []) n).1 t us nn h tk hu ?_ N₁
    have hmap : (fun z => if z = x then m₁ z else if z = y then some (Value.int (nlRun g1 g2 (c₀, []) n).1 t) else m₀ z) = m₁ := by
      funext z; by_cases h1 : z = x <;> simp only [h1, if_true, if_false]
      by_cases h2 : z = y <;> simp only [h2, if_true, if_false]
      · exact hm.symm
      · exact (ho z h1 h2).symm
    rw [hmap]; exact F₁
end
theorem fmod_len (k : Kd) (m : Int) {ns : List Int} (h : ns.length = k.bits) : 0 ≤ m.fmod (ns.length : Int) ∧ m.fmod (ns.length : Int) < (ns.length : Int) ∧ m.fmod (ns.length : Int) < 64 := by
  have hb := k.bits_le
  have e : m.fmod (ns.length : Int) = m % (ns.length : Int) := Int.fmod_eq_emod_of_nonneg _ (by omega)
  have h1 := Int.emod_nonneg m (show (ns.length : Int) ≠ 0 by omega)
  have h2 := Int.emod_lt_of_pos m (show (0 : Int) < ns.length by omega)
  exact ⟨by omega, by omega, by omega⟩
end
section
def bitAt (n : Int) (i : Nat) : Int := n / 2 ^ i % 2
def rowOf (n : Int) (m : Nat) : List Int := (List.range m).map (bitAt n)
theorem rowOf_len (n : Int) (m : Nat) : (rowOf n m).length = m := by simp [rowOf]
theorem rowOf_get (n : Int) (m i : Nat) : (rowOf n m)[i]? = if i < m then some (bitAt n i) else none := by
  unfold rowOf
  rw [List.getElem?_map]
  by_cases h : i < m
  · rw [if_pos h, List.getElem?_range h]; rfl
  · rw [if_neg h, List.getElem?_eq_none (by simpa using Nat.not_lt.mp h)]; rfl
theorem row_ext {l : List Int} {n : Int} {m : Nat} (hl : l.length = m) (h : ∀ i, i < m → l[i]? = some (bitAt n i)) : l = rowOf n m := by
  refine List.ext_getElem? fun i => ?_
  rw [rowOf_get]
  by_cases hi : i < m
  · rw [if_pos hi, h i hi]
  · rw [if_neg hi, List.getElem?_eq_none (by omega)]
theorem bit_range (n : Int) (i : Nat) : bitAt n i = 0 ∨ bitAt n i = 1 := by unfold bitAt; omega
theorem pow_add' (a b : Nat) : (2 : Int) ^ (a + b) = 2 ^ a * 2 ^ b := Int.pow_add 2 a b
theorem ediv_pow (n : Int) (a b : Nat) : n / 2 ^ a / 2 ^ b = n / 2 ^ (a + b) := by
  rw [pow_add', Int.ediv_ediv_of_nonneg (Int.le_of_lt (two_pow_pos a))]
theorem bit_shift (n : Int) (a b : Nat) : bitAt (n / 2 ^ a) b = bitAt n (a + b) := by unfold bitAt; rw [ediv_pow]
/-- the bits below b do not see a multiple of 2^b -/
theorem bit_add (n q : Int) {i b : Nat} (h : i < b) : bitAt (n + 2 ^ b * q) i = bitAt n i := by
  unfold bitAt
  obtain ⟨c, rfl⟩ : ∃ c, b = i + (c + 1) := ⟨b - i - 1, by omega⟩
  have e : (2 : Int) ^ (i + (c + 1)) * q = 2 ^ i * (2 * (2 ^ c * q)) := by
    rw [pow_add', Int.pow_succ]; grind
  rw [e, Int.add_mul_ediv_left _ _ (Int.ne_of_gt (two_pow_pos i))]
  omega
theorem row_congr {x y : Int} {b : Nat} (h : ∃ q, x = y + 2 ^ b * q) : rowOf x b = rowOf y b := by
  obtain ⟨q, rfl⟩ := h
  refine row_ext (rowOf_len _ _) fun i hi => ?_
  rw [rowOf_get, if_pos hi, bit_add _ _ hi]
theorem row_cons (n : Int) (m : Nat) : rowOf n (m + 1) = n % 2 :: rowOf (n / 2) m := by
  have h := (row_ext (l := n % 2 :: rowOf (n / 2) m) (n := n) (m := m + 1) (by simp [rowOf_len]) ?_).symm
  · exact h
  · intro i hi
    cases i with
    | zero => simp [bitAt]
    | succ i =>
      rw [List.getElem?_cons_succ, rowOf_get, if_pos (by omega)]
      have := bit_shift n 1 i
      rw [Int.pow_one] at this
      rw [this, Nat.add_comm]
theorem row_snoc (n : Int) (m : Nat) : rowOf n (m + 1) = rowOf n m ++ [n / 2 ^ m % 2] := by
  unfold rowOf; rw [List.range_succ, List.map_append]; rfl
/-- what the loop of the row does -/
theorem nlRun_row (n : Int) : ∀ m, nlRun (fun c => (c - c.fmod 2).fdiv 2) (fun c => c.fmod 2) (n, []) m = (n / 2 ^ m, rowOf n m)
  | 0 => by simp [nlRun, rowOf]
  | m + 1 => by
    rw [nlRun, nlRun_row n m, row_snoc]
    have e1 : ∀ c : Int, c.fmod 2 = c % 2 := fun c => Int.fmod_eq_emod_of_nonneg c (by decide)
    have e2 : ∀ c : Int, (c - c.fmod 2).fdiv 2 = c / 2 := fun c => by
      rw [e1, Int.fdiv_eq_ediv_of_nonneg _ (by decide)]; omega
    unfold nlStep
    dsimp only
    rw [e2, e1]
    have e3 := ediv_pow n m 1
    rw [Int.pow_one] at e3
    rw [e3]
/-- what the loop of the value does -/
theorem fold_row (n : Int) (m : Nat) : (rowOf n m).reverse.foldl (fun a k => 2 * a + k) 0 = n % 2 ^ m := by
  induction m generalizing n with
  | zero => simp [rowOf, Int.emod_one]
  | succ m ih =>
    rw [row_cons, List.reverse_cons, List.foldl_append, ih]
    show 2 * (n / 2 % 2 ^ m) + n % 2 = n % 2 ^ (m + 1)
    have hp := two_pow_pos m
    rw [Int.pow_succ, Int.mul_comm _ 2]
    have h1 := Int.emod_nonneg (n / 2) (Int.ne_of_gt hp)
    have h2 := Int.emod_lt_of_pos (n / 2) hp
    have h3 := Int.mul_ediv_add_emod (n / 2) (2 ^ m)
    have h4 := Int.mul_ediv_add_emod n 2
    have h5 : 2 * (n / 2 % 2 ^ m) + n % 2 + (2 * 2 ^ m) * (n / 2 / 2 ^ m) = n := by grind
    have h6 := (Int.ediv_emod_unique (a := n) (b := 2 * 2 ^ m) (r := 2 * (n / 2 % 2 ^ m) + n % 2) (q := n / 2 / 2 ^ m) (by omega)).mpr ⟨h5, by omega, by omega⟩
    exact h6.2.symm
/-! the kinds -/
theorem Kd.pow_half (k : Kd) : (2 : Int) ^ k.bits = 2 * 2 ^ (k.bits - 1) := by
  have h := k.bits_le
  have e : k.bits = (k.bits - 1) + 1 := by omega
  rw [e, Int.pow_succ, Nat.add_sub_cancel, Int.mul_comm]
theorem Kd.lo_s {k : Kd} (h : k.sgn = true) : k.lo = -2 ^ (k.bits - 1) := by unfold Kd.lo; rw [if_pos h]; omega
theorem Kd.lo_u {k : Kd} (h : k.sgn = false) : k.lo = 0 := by unfold Kd.lo; rw [h]; rfl
theorem Kd.hi_lo (k : Kd) : k.hi = k.lo + 2 ^ k.bits - 1 := by
  have := k.pow_half
  unfold Kd.hi Kd.lo
  split <;> omega
theorem Kd.lo_le (k : Kd) : k.lo ≤ 0 ∧ 0 ≤ k.hi ∧ 1 ≤ k.hi := by
  have h := k.bits_le
  have e : (2 : Int) ^ (k.bits - 1) = 2 * 2 ^ (k.bits - 2) := by
    have e : k.bits - 1 = (k.bits - 2) + 1 := by omega
    rw [e, Int.pow_succ, Int.mul_comm]
  have h1 := two_pow_pos (k.bits - 2)
  have := k.pow_half
  unfold Kd.hi Kd.lo
  split <;> omega
theorem Kd.wrap_def (k : Kd) (n : Int) : ∃ q, k.wrap n = n + 2 ^ k.bits * q ∧ k.lo ≤ k.wrap n ∧ k.wrap n ≤ k.hi := by
  have hp := two_pow_pos k.bits
  have h1 := Int.emod_nonneg (n - k.lo) (Int.ne_of_gt hp)
  have h2 := Int.emod_lt_of_pos (n - k.lo) hp
  have h3 := Int.mul_ediv_add_emod (n - k.lo) (2 ^ k.bits)
  have h4 := k.hi_lo
  refine ⟨-((n - k.lo) / 2 ^ k.bits), ?_, ?_, ?_⟩
  · unfold Kd.wrap; rw [Int.mul_neg]; omega
  · unfold Kd.wrap; omega
  · unfold Kd.wrap; omega
theorem Kd.wrap_uniq {k : Kd} {n x : Int} (h : ∃ q, x = n + 2 ^ k.bits * q) (h1 : k.lo ≤ x) (h2 : x ≤ k.hi) : k.wrap n = x := by
  obtain ⟨q, rfl⟩ := h
  have hp := two_pow_pos k.bits
  have h4 := k.hi_lo
  unfold Kd.wrap
  have e : (n - k.lo) % 2 ^ k.bits = n + 2 ^ k.bits * q - k.lo := by
    exact (kbt_unique (q := -q) hp (by rw [Int.mul_neg]; omega) (by omega) (by omega)).2
  omega
theorem Kd.wrap_in {k : Kd} {n : Int} (h1 : k.lo ≤ n) (h2 : n ≤ k.hi) : k.wrap n = n := Kd.wrap_uniq ⟨0, by simp⟩ h1 h2
theorem Kd.wrap_congr {k : Kd} {x y : Int} (h : ∃ q, x = y + 2 ^ k.bits * q) : k.wrap x = k.wrap y := by
  obtain ⟨q, e, h1, h2⟩ := k.wrap_def x
  obtain ⟨p, rfl⟩ := h
  refine (Kd.wrap_uniq ⟨p + q, ?_⟩ h1 h2).symm
  rw [e, Int.mul_add]; omega
theorem Kd.fits_iff (k : Kd) (n : Int) : k.fits n = true ↔ k.lo ≤ n ∧ n ≤ k.hi := by unfold Kd.fits; simp
theorem Kd.row_wrap (k : Kd) (n : Int) : rowOf (k.wrap n) k.bits = rowOf n k.bits := by
  obtain ⟨q, e, _, _⟩ := k.wrap_def n
  exact row_congr ⟨q, e⟩
/-- the last bit -/
theorem last_row (n : Int) {b : Nat} (h : 0 < b) : (rowOf n b).getD (-1 + (b : Int)).toNat 0 = bitAt n (b - 1) := by
  have e : (-1 + (b : Int)).toNat = b - 1 := by omega
  rw [e, List.getD_eq_getElem?_getD, rowOf_get, if_pos (by omega)]; rfl
/-- a number within a kind of b bits: all bits from b - 1 on are its sign -/
theorem bit_high {k : Kd} {n : Int} (h1 : k.lo ≤ n) (h2 : n ≤ k.hi) {i : Nat} (hi : k.bits ≤ i) : bitAt n i = if k.sgn then bitAt n (k.bits - 1) else 0 := by
  have hb := k.bits_le
  have hpow : (2 : Int) ^ k.bits ≤ 2 ^ i := by
    obtain ⟨c, rfl⟩ : ∃ c, i = k.bits + c := ⟨i - k.bits, by omega⟩
    rw [pow_add']
    have h3 := two_pow_pos k.bits
    have h4 := two_pow_pos c
    have h5 : (2 : Int) ^ k.bits * 1 ≤ 2 ^ k.bits * 2 ^ c := Int.mul_le_mul_of_nonneg_left (by omega) (by omega)
    omega
  have hh := k.pow_half
  have hq := two_pow_pos (k.bits - 1)
  have hip := two_pow_pos i
  cases hs : k.sgn with
  | false =>
    have hl := Kd.lo_u hs
    have hl2 := k.hi_lo
    unfold bitAt
    rw [Int.ediv_eq_zero_of_lt (by omega) (by omega)]; simp
  | true =>
    have hl := Kd.lo_s hs
    have hl2 := k.hi_lo
    rw [if_pos rfl]
    unfold bitAt
    by_cases hn : 0 ≤ n
    · rw [Int.ediv_eq_zero_of_lt hn (by omega), Int.ediv_eq_zero_of_lt hn (by omega)]
    · have e : ∀ p : Int, 0 < p → -p ≤ n → n / p = -1 := fun p hp h => by
        exact (kbt_unique (r := n + p) (q := -1) hp (by omega) (by omega) (by omega)).1
      rw [e _ hip (by omega), e _ hq (by omega)]
theorem fold_value (k : Kd) (n : Int) : k.wrap n = if k.sgn = true ∧ bitAt n (k.bits - 1) = 1 then n % 2 ^ k.bits - 2 ^ k.bits else n % 2 ^ k.bits := by
  have hb := k.bits_le
  have hp := two_pow_pos k.bits
  have h1 := Int.emod_nonneg n (Int.ne_of_gt hp)
  have h2 := Int.emod_lt_of_pos n hp
  have h3 := Int.mul_ediv_add_emod n (2 ^ k.bits)
  have hh := k.pow_half
  have hhl := k.hi_lo
  have hq := two_pow_pos (k.bits - 1)
  have hbit : bitAt n (k.bits - 1) = bitAt (n % 2 ^ k.bits) (k.bits - 1) := by
    have := bit_add (n % 2 ^ k.bits) (n / 2 ^ k.bits) (i := k.bits - 1) (b := k.bits) (by omega)
    rw [← this, Int.add_comm, h3]
  rw [hbit]
  have hcase : bitAt (n % 2 ^ k.bits) (k.bits - 1) = if n % 2 ^ k.bits < 2 ^ (k.bits - 1) then 0 else 1 := by
    unfold bitAt
    split
    · rename_i h; rw [Int.ediv_eq_zero_of_lt h1 h]; rfl
    · rename_i h
      have e : n % 2 ^ k.bits / 2 ^ (k.bits - 1) = 1 := by
        exact (kbt_unique (r := n % 2 ^ k.bits - 2 ^ (k.bits - 1)) (q := 1) hq (by omega) (by omega) (by omega)).1
      rw [e]; rfl
  rw [hcase]
  cases hs : k.sgn with
  | false =>
    have hl := Kd.lo_u hs
    rw [if_neg (by simp)]
    exact Kd.wrap_uniq ⟨-(n / 2 ^ k.bits), by rw [Int.mul_neg]; omega⟩ (by omega) (by omega)
  | true =>
    have hl := Kd.lo_s hs
    by_cases hc : n % 2 ^ k.bits < 2 ^ (k.bits - 1)
    · rw [if_neg (by simp [hc])]
      exact Kd.wrap_uniq ⟨-(n / 2 ^ k.bits), by rw [Int.mul_neg]; omega⟩ (by omega) (by omega)
    · rw [if_pos ⟨rfl, by rw [if_neg hc]⟩]
      exact Kd.wrap_uniq ⟨-(n / 2 ^ k.bits) - 1, by rw [Int.mul_sub, Int.mul_neg]; omega⟩ (by omega) (by omega)
end
section
theorem get_rep (c : Int) (m i : Nat) : (List.replicate m c)[i]? = if i < m then some c else none := by rw [List.getElem?_replicate]
theorem cast_row {k k2 : Kd} {n : Int} (h1 : k.lo ≤ n) (h2 : n ≤ k.hi) {fill : Int} (hf : fill = if k.sgn then bitAt n (k.bits - 1) else 0) :
    List.take k2.bits (rowOf n k.bits) ++ List.replicate (k2.bits - k.bits) fill = rowOf n k2.bits := by
  refine row_ext ?_ fun i hi => ?_
  · rw [List.length_append, List.length_take, List.length_replicate, rowOf_len]; omega
  · by_cases h : i < k.bits
    · rw [List.getElem?_append_left (by rw [List.length_take, rowOf_len]; omega), List.getElem?_take_of_lt hi, rowOf_get, if_pos h]
    · rw [List.getElem?_append_right (by rw [List.length_take, rowOf_len]; omega), List.length_take, rowOf_len, get_rep, if_pos (by omega), hf, ← bit_high h1 h2 (i := i) (by omega)]
theorem shl_row (n : Int) {b t : Nat} (ht : t < b) : List.replicate t 0 ++ List.take (b - t) (rowOf n b) = rowOf (n * 2 ^ t) b := by
  refine row_ext ?_ fun i hi => ?_
  · rw [List.length_append, List.length_take, List.length_replicate, rowOf_len]; omega
  · by_cases h : i < t
    · rw [List.getElem?_append_left (by rw [List.length_replicate]; exact h), get_rep, if_pos h]
      have := bit_add 0 n (i := i) (b := t) h
      rw [Int.mul_comm n, ← Int.zero_add (2 ^ t * n), this]
      simp [bitAt]
    · rw [List.getElem?_append_right (by rw [List.length_replicate]; omega), List.length_replicate, List.getElem?_take_of_lt (by omega), rowOf_get, if_pos (by omega)]
      have e : i = t + (i - t) := by omega
      have h3 := bit_shift (n * 2 ^ t) t (i - t)
      rw [← e, Int.mul_ediv_cancel _ (Int.ne_of_gt (two_pow_pos t))] at h3
      rw [h3]
theorem shr_row {k : Kd} {n : Int} (h1 : k.lo ≤ n) (h2 : n ≤ k.hi) {fill : Int} (hf : fill = if k.sgn then bitAt n (k.bits - 1) else 0) {t : Nat} (ht : t < k.bits) :
    List.drop t (rowOf n k.bits) ++ List.replicate t fill = rowOf (n / 2 ^ t) k.bits := by
  refine row_ext ?_ fun i hi => ?_
  · rw [List.length_append, List.length_drop, List.length_replicate, rowOf_len]; omega
  · rw [bit_shift]
    by_cases h : i < k.bits - t
    · rw [List.getElem?_append_left (by rw [List.length_drop, rowOf_len]; exact h), List.getElem?_drop, rowOf_get, if_pos (by omega)]
    · rw [List.getElem?_append_right (by rw [List.length_drop, rowOf_len]; omega), List.length_drop, rowOf_len, get_rep, if_pos (by omega), hf, ← bit_high h1 h2 (i := t + i) (by omega)]
theorem inv_bit (n : Int) (i : Nat) : 1 - bitAt n i = bitAt (-1 - n) i := by
  have hp := two_pow_pos i
  have h1 := Int.emod_nonneg n (Int.ne_of_gt hp)
  have h2 := Int.emod_lt_of_pos n hp
  have h3 := Int.mul_ediv_add_emod n (2 ^ i)
  have e : (-1 - n) / 2 ^ i = -1 - n / 2 ^ i := by
    refine (kbt_unique (r := 2 ^ i - 1 - n % 2 ^ i) (q := -1 - n / 2 ^ i) hp ?_ (by omega) (by omega)).1
    rw [Int.mul_sub, Int.mul_neg, Int.mul_one]; omega
  unfold bitAt
  rw [e]; omega
theorem inv_row (n : Int) (b : Nat) : (rowOf n b).map (fun x => 1 - x) = rowOf (-1 - n) b := by
  refine row_ext (by simp [rowOf_len]) fun i hi => ?_
  rw [List.getElem?_map, rowOf_get, if_pos hi]
  simp [inv_bit]
theorem mod_succ (x : Int) (m : Nat) : x % 2 ^ (m + 1) = x % 2 ^ m + 2 ^ m * bitAt x m := by
  have hp := two_pow_pos m
  have h1 := Int.emod_nonneg x (Int.ne_of_gt hp)
  have h2 := Int.emod_lt_of_pos x hp
  have h3 := Int.mul_ediv_add_emod x (2 ^ m)
  have h4 := Int.mul_ediv_add_emod (x / 2 ^ m) 2
  have hb := bit_range x m
  have hq : (2 : Int) ^ (m + 1) = 2 * 2 ^ m := by rw [Int.pow_succ, Int.mul_comm]
  have e : x % 2 ^ m + 2 ^ m * bitAt x m + 2 ^ (m + 1) * (x / 2 ^ m / 2) = x := by
    unfold bitAt; rw [hq]; grind
  refine (kbt_unique (two_pow_pos (m + 1)) e ?_ ?_).2
  · rcases hb with h | h <;> rw [h] <;> omega
  · rcases hb with h | h <;> rw [h] <;> omega
theorem mod_ones (x : Int) : ∀ m, (∀ i, i < m → bitAt x i = 1) → x % 2 ^ m = 2 ^ m - 1
  | 0, _ => by simp [Int.emod_one]
  | m + 1, h => by
    rw [mod_succ, mod_ones x m fun i hi => h i (by omega), h m (by omega), Int.pow_succ]; omega
/-- one more: the ones below the first nought are turned, and the nought -/
theorem inc_row (x : Int) {b at' : Nat} (h : at' < b) (h1 : ∀ i, i < at' → bitAt x i = 1) (h0 : bitAt x at' = 0) :
    List.replicate at' 0 ++ [1] ++ List.drop (at' + 1) (rowOf x b) = rowOf (x + 1) b := by
  have hm := mod_ones x at' h1
  have hp := two_pow_pos at'
  have h3 := Int.mul_ediv_add_emod x (2 ^ at')
  have h4 := Int.mul_ediv_add_emod (x / 2 ^ at') 2
  have hx : x + 1 = 0 + 2 ^ at' * (x / 2 ^ at' + 1) := by rw [Int.mul_add]; omega
  have hd : (x + 1) / 2 ^ at' = x / 2 ^ at' + 1 := by
    exact (kbt_unique (r := 0) hp (by omega) (by omega) (by omega)).1
  unfold bitAt at h0
  refine row_ext ?_ fun i hi => ?_
  · simp [rowOf_len]; omega
  · by_cases hi1 : i < at'
    · rw [List.append_assoc, List.getElem?_append_left (by rw [List.length_replicate]; exact hi1), get_rep, if_pos hi1]
      have := bit_add 0 (x / 2 ^ at' + 1) (i := i) (b := at') hi1
      rw [hx, this]; simp [bitAt]
    · by_cases hi2 : i = at'
      · subst hi2
        rw [List.append_assoc, List.getElem?_append_right (by rw [List.length_replicate]; omega), List.length_replicate]
        have e : bitAt (x + 1) i = 1 := by unfold bitAt; rw [hd]; omega
        rw [e]; simp
      · have hlen : (List.replicate at' (0 : Int) ++ [1]).length = at' + 1 := by simp
        rw [List.getElem?_append_right (by omega), hlen, List.getElem?_drop, rowOf_get, if_pos (by omega)]
        have e1 : at' + 1 + (i - (at' + 1)) = i := by omega
        rw [e1]
        have e2 : i = at' + (1 + (i - at' - 1)) := by omega
        have e3 : ∀ y : Int, bitAt y i = bitAt (y / 2 ^ at' / 2 ^ 1) (i - at' - 1) := fun y => by
          rw [bit_shift, bit_shift, ← e2]
        rw [e3, e3 (x + 1), hd, Int.pow_one]
        have e4 : (x / 2 ^ at' + 1) / 2 = x / 2 ^ at' / 2 := by omega
        rw [e4]
theorem inc_all (x : Int) {b : Nat} (h1 : ∀ i, i < b → bitAt x i = 1) : List.replicate b 0 = rowOf (x + 1) b := by
  have hm := mod_ones x b h1
  have h3 := Int.mul_ediv_add_emod x (2 ^ b)
  have hx : x + 1 = 0 + 2 ^ b * (x / 2 ^ b + 1) := by rw [Int.mul_add]; omega
  refine row_ext (by simp) fun i hi => ?_
  rw [get_rep, if_pos hi, hx, bit_add _ _ hi]; simp [bitAt]
/-- shifts to the left one after the other -/
theorem wrap_shl (k : Kd) (n : Int) (f o : Nat) : k.wrap (k.wrap (n * 2 ^ f) * 2 ^ o) = k.wrap (n * 2 ^ (f + o)) := by
  obtain ⟨q, e, _, _⟩ := k.wrap_def (n * 2 ^ f)
  refine Kd.wrap_congr ⟨q * 2 ^ o, ?_⟩
  rw [e, pow_add']; grind
/-- there and back -/
theorem wrap_back {k k2 : Kd} {n : Int} (h1 : k.lo ≤ n) (h2 : n ≤ k.hi) (hb : k.bits ≤ k2.bits) : k.wrap (k2.wrap n) = n := by
  obtain ⟨q, e, _, _⟩ := k2.wrap_def n
  obtain ⟨c, hc⟩ : ∃ c, k2.bits = k.bits + c := ⟨k2.bits - k.bits, by omega⟩
  rw [hc, pow_add'] at e
  rw [← Kd.wrap_in h1 h2]
  have : k.wrap (k2.wrap n) = k.wrap n := Kd.wrap_congr ⟨2 ^ c * q, by rw [e, Int.mul_assoc]⟩
  rw [Kd.wrap_in h1 h2] at this ⊢
  exact this
end
section
/-! what the walks of the row's functions hand back, and that it is the row of a number -/
def foldK (ns : List Int) : Int := ns.reverse.foldl (fun a k => 2 * a + k) 0
def valK (k : Kd) (ns : List Int) : Int := if k.sgn = true ∧ ns.getD (-1 + (ns.length : Int)).toNat 0 = 1 then foldK ns - 2 ^ ns.length else foldK ns
theorem first_t {k : Kd} (h : (Txt.item k.str 0 == Str.ofString "i") = true) : k.sgn = true := by rw [← Kd.first]; exact h
theorem first_f {k : Kd} (h : (Txt.item k.str 0 == Str.ofString "i") = false) : k.sgn = false := by rw [← Kd.first]; exact h
theorem val_1 {k : Kd} {ns : List Int} (h : (Txt.item k.str 0 == Str.ofString "i") = true) (h2 : ns.getD (-1 + (ns.length : Int)).toNat 0 = 1) :
    ns.reverse.foldl (fun a k => 2 * a + k) 0 - 2 ^ ((ns.length : Int)).toNat = valK k ns := by
  unfold valK; rw [if_pos ⟨first_t h, h2⟩, toNat_cast]; rfl
theorem val_2 {k : Kd} {ns : List Int} (h2 : ns.getD (-1 + (ns.length : Int)).toNat 0 ≠ 1) : ns.reverse.foldl (fun a k => 2 * a + k) 0 = valK k ns := by
  unfold valK; rw [if_neg fun h => h2 h.2]; rfl
theorem val_3 {k : Kd} {ns : List Int} (h : (Txt.item k.str 0 == Str.ofString "i") = false) : ns.reverse.foldl (fun a k => 2 * a + k) 0 = valK k ns := by
  unfold valK; rw [if_neg fun h' => by rw [first_f h] at h'; exact absurd h'.1 (by decide)]; rfl
theorem val_row (k : Kd) (n : Int) : valK k (rowOf n k.bits) = k.wrap n := by
  have hb := k.bits_le
  unfold valK foldK
  rw [rowOf_len, last_row n (by omega), fold_row, fold_value]
def fillK (k : Kd) (ns : List Int) : Int := if k.sgn = true then ns.getD (-1 + (ns.length : Int)).toNat 0 else 0
theorem fill_1 {k : Kd} {ns : List Int} (h : (Txt.item k.str 0 == Str.ofString "i") = true) : ns.getD (-1 + (ns.length : Int)).toNat 0 = fillK k ns := by
  unfold fillK; rw [if_pos (first_t h)]
theorem fill_2 {k : Kd} {ns : List Int} (h : (Txt.item k.str 0 == Str.ofString "i") = false) : 0 = fillK k ns := by
  unfold fillK; rw [if_neg (by rw [first_f h]; decide)]
theorem fill_row (k : Kd) (n : Int) : fillK k (rowOf n k.bits) = if k.sgn then bitAt n (k.bits - 1) else 0 := by
  have hb := k.bits_le
  unfold fillK
  rw [rowOf_len, last_row n (by omega)]
def castK (k k2 : Kd) (ns : List Int) : List Int := List.take ((k2.bits : Int)).toNat ns ++ (List.replicate ((k2.bits : Int) - (ns.length : Int)).toNat [fillK k ns]).flatten
theorem cast_is {k k2 : Kd} {n : Int} (h1 : k.lo ≤ n) (h2 : n ≤ k.hi) : castK k k2 (rowOf n k.bits) = rowOf n k2.bits := by
  unfold castK
  have e : ((k2.bits : Int) - (k.bits : Int)).toNat = k2.bits - k.bits := by omega
  rw [krep_flat, rowOf_len, toNat_cast, e]
  exact cast_row h1 h2 (fill_row k n)
theorem cast_1 {k k2 : Kd} {ns ws : List Int} {us : List Value} (h : (Txt.item k.str 0 == Str.ofString "i") = true)
    (hI : IntsAre us (List.take ((k2.bits : Int)).toNat ns ++ (List.replicate ((k2.bits : Int) - (ns.length : Int)).toNat [ns.getD (-1 + (ns.length : Int)).toNat 0]).flatten)) (hw : castK k k2 ns = ws) : IntsAre us ws := by
  rw [← hw]; unfold castK; rw [← fill_1 h]; exact hI
theorem cast_2 {k k2 : Kd} {ns ws : List Int} {us : List Value} (h : (Txt.item k.str 0 == Str.ofString "i") = false)
    (hI : IntsAre us (List.take ((k2.bits : Int)).toNat ns ++ (List.replicate ((k2.bits : Int) - (ns.length : Int)).toNat [0]).flatten)) (hw : castK k k2 ns = ws) : IntsAre us ws := by
  rw [← hw]; unfold castK; rw [← fill_2 (ns := ns) h]; exact hI
theorem shl_is {n many : Int} {us : List Value} {k : Kd}
    (hI : IntsAre us ((List.replicate (many.fmod ((rowOf n k.bits).length : Int)).toNat [0]).flatten ++ List.take (((rowOf n k.bits).length : Int) - many.fmod ((rowOf n k.bits).length : Int)).toNat (rowOf n k.bits))) :
    IntsAre us (rowOf (n * 2 ^ (many.fmod k.bits).toNat) k.bits) := by
  have hp := fmod_len k many (rowOf_len n k.bits)
  rw [rowOf_len] at hp hI
  rw [krep_flat] at hI
  have e : ((k.bits : Int) - many.fmod k.bits).toNat = k.bits - (many.fmod k.bits).toNat := by omega
  rw [e, shl_row n (by omega)] at hI
  exact hI
theorem shr_is {n many : Int} {us : List Value} {k : Kd} (h1 : k.lo ≤ n) (h2 : n ≤ k.hi) {f : Int} (hf : f = fillK k (rowOf n k.bits))
    (hI : IntsAre us (List.drop (many.fmod ((rowOf n k.bits).length : Int)).toNat (rowOf n k.bits) ++ (List.replicate (many.fmod ((rowOf n k.bits).length : Int)).toNat [f]).flatten)) :
    IntsAre us (rowOf (n / 2 ^ (many.fmod k.bits).toNat) k.bits) := by
  have hp := fmod_len k many (rowOf_len n k.bits)
  rw [rowOf_len] at hp hI
  rw [krep_flat, shr_row h1 h2 (hf.trans (fill_row k n)) (by omega)] at hI
  exact hI
/-- a smaller ledger -/
theorem drop1 {h₀ h : Heap} {L : Addr} {a : Addr × Obj} {b c : List (Addr × Obj)} (N : News h₀ L h (a :: (b ++ c))) : News h₀ L h (a :: c) :=
  fun p hp => N p ((List.mem_cons.mp hp).elim (fun h => h ▸ .head _) fun h => .tail _ (List.mem_append.mpr (.inr h)))
end
section
section
variable {prog : Program} {w : World} {A : Around} {E : Value → Shared → Prop} {s : Shared} {value slice : PySem.Expr} {h₀ : Heap} {L l : Addr} {news : List (Addr × Obj)} {its : Array Value} {n : Nat} {k : Int} {u : Tok} {v : Value} {Q : Value → Shared → Prop}
/-- an item of a list of the ledger -/
theorem my_item (N : News h₀ L s.heap news) (hm : (l, listOf its n) ∈ news) (h0 : 0 ≤ k) (hhi : k < 2 ^ 63) (hx : its[k.toNat]? = some v) (h : Q v s)
    (hs : subscripted slice false (.ref l) (.int k u) = operate [.ref l, .int k u] (getItem (.ref l) (.int k u)) := by with_unfolding_all rfl) :
    wpAny (model prog w) A (subscriptTail value slice (.ref l) (.int k u)) Q E s :=
  tail_any (News.isList N hm).typeIs slot_list_getitem.lookup (wpAny_getItem_list (News.isList N hm) h0 hhi hx h) hs
theorem my_item0 {r : List Value} (N : News h₀ L s.heap news) (hm : (l, listOf (v :: r).toArray n) ∈ news) (h : Q v s)
    (hs : subscripted slice false (.ref l) (.int 0 u) = operate [.ref l, .int 0 u] (getItem (.ref l) (.int 0 u)) := by with_unfolding_all rfl) :
    wpAny (model prog w) A (subscriptTail value slice (.ref l) (.int 0 u)) Q E s := my_item N hm (by decide) (by decide) (by simp) h hs
theorem my_item1 {v0 : Value} {r : List Value} (N : News h₀ L s.heap news) (hm : (l, listOf (v0 :: v :: r).toArray n) ∈ news) (h : Q v s)
    (hs : subscripted slice false (.ref l) (.int 1 u) = operate [.ref l, .int 1 u] (getItem (.ref l) (.int 1 u)) := by with_unfolding_all rfl) :
    wpAny (model prog w) A (subscriptTail value slice (.ref l) (.int 1 u)) Q E s := my_item N hm (by decide) (by decide) (by simp) h hs
theorem my_item2 {v0 v1 : Value} {r : List Value} (N : News h₀ L s.heap news) (hm : (l, listOf (v0 :: v1 :: v :: r).toArray n) ∈ news) (h : Q v s)
    (hs : subscripted slice false (.ref l) (.int 2 u) = operate [.ref l, .int 2 u] (getItem (.ref l) (.int 2 u)) := by with_unfolding_all rfl) :
    wpAny (model prog w) A (subscriptTail value slice (.ref l) (.int 2 u)) Q E s := my_item N hm (by decide) (by decide) (by simp) h hs
/-- an item of a list of the ledger at a place that is not known -/
theorem my_any (N : News h₀ L s.heap news) (hm : (l, listOf its n) ∈ news) (h0 : 0 ≤ k) (hhi : k < 2 ^ 63) (hx : k.toNat < its.size) (h : ∀ v, v ∈ its.toList → Q v s)
    (hs : subscripted slice false (.ref l) (.int k u) = operate [.ref l, .int k u] (getItem (.ref l) (.int k u)) := by with_unfolding_all rfl) :
    wpAny (model prog w) A (subscriptTail value slice (.ref l) (.int k u)) Q E s :=
  my_item N hm h0 hhi (Array.getElem?_eq_getElem hx) (h _ (by simp)) hs
end
theorem take_mul (y : Int) : IntMulOk ((y * 39373 + 7).fmod 2147483647) ((y * 39373 + 7).fmod 2147483647) := by
  have e : (y * 39373 + 7).fmod 2147483647 = (y * 39373 + 7) % 2147483647 := Int.fmod_eq_emod_of_nonneg _ (by decide)
  rw [e]
  exact IntMulOk.of_left (intBits_le_64 (by omega) (by omega))
theorem take_div (x : Int) {top : Int} (h1 : 0 < top) (h2 : top ≤ 2 ^ 64) : Builtin.divisionGoesByPylong x top = false := by
  refine PyProof.noPylong_of_log2 ?_
  have h : top.natAbs < 2 ^ 65 := by omega
  exact Nat.lt_trans ((Nat.log2_lt (by omega)).mpr h) (by decide)
theorem take_mod (x : Int) {top : Int} (h1 : 0 < top) : 0 ≤ x.fmod top ∧ x.fmod top < top := by
  rw [Int.fmod_eq_emod_of_nonneg _ (by omega)]
  exact ⟨Int.emod_nonneg _ (by omega), Int.emod_lt_of_pos _ h1⟩
end
section
theorem Kd.wrap_lo (k : Kd) (n : Int) : k.lo ≤ k.wrap n := (k.wrap_def n).choose_spec.2.1
theorem Kd.wrap_hi (k : Kd) (n : Int) : k.wrap n ≤ k.hi := (k.wrap_def n).choose_spec.2.2
theorem Kd.wrap_wrap (k : Kd) (n : Int) : k.wrap (k.wrap n) = k.wrap n := Kd.wrap_in (k.wrap_lo n) (k.wrap_hi n)
theorem Kd.fits_in {k : Kd} {n : Int} (h1 : k.lo ≤ n) (h2 : n ≤ k.hi) : k.fits n = true := (k.fits_iff n).mpr ⟨h1, h2⟩
theorem Kd.fits_wrap (k : Kd) (n : Int) : k.fits (k.wrap n) = true := Kd.fits_in (k.wrap_lo n) (k.wrap_hi n)
theorem Kd.fits_more {k : Kd} {n : Int} (h1 : k.lo ≤ n) : k.fits (n + 2 ^ ((k.bits : Int)).toNat) = false := by
  have h := k.hi_lo
  rw [toNat_cast, Bool.eq_false_iff]
  intro h2
  have := (k.fits_iff _).mp h2
  omega
theorem Kd.wrap_more (k : Kd) (n : Int) : k.wrap (n + 2 ^ ((k.bits : Int)).toNat) = k.wrap n := by
  rw [toNat_cast]
  exact Kd.wrap_congr ⟨1, by rw [Int.mul_one]⟩
theorem back_bad {k k2 : Kd} {n : Int} (h1 : k.lo ≤ n) (h2 : n ≤ k.hi) (hb : (k.bits : Int) ≤ (k2.bits : Int)) (h : k.wrap (k2.wrap n) ≠ n) : False := h (wrap_back h1 h2 (by omega))
section
variable {prog : Program} {w : World} {A : Around} {E : Value → Shared → Prop} {s : Shared} {value slice : PySem.Expr} {h₀ : Heap} {L l : Addr} {news : List (Addr × Obj)} {n : Nat} {k : Int} {u : Tok} {v : Value} {Q : Value → Shared → Prop}
theorem my_at0 {r : List Value} (hk : k = 0) (N : News h₀ L s.heap news) (hm : (l, listOf (v :: r).toArray n) ∈ news) (h : Q v s)
    (hs : subscripted slice false (.ref l) (.int k u) = operate [.ref l, .int k u] (getItem (.ref l) (.int k u)) := by with_unfolding_all rfl) :
    wpAny (model prog w) A (subscriptTail value slice (.ref l) (.int k u)) Q E s := by subst hk; exact my_item0 N hm h hs
theorem my_at1 {v0 : Value} {r : List Value} (hk : k = 1) (N : News h₀ L s.heap news) (hm : (l, listOf (v0 :: v :: r).toArray n) ∈ news) (h : Q v s)
    (hs : subscripted slice false (.ref l) (.int k u) = operate [.ref l, .int k u] (getItem (.ref l) (.int k u)) := by with_unfolding_all rfl) :
    wpAny (model prog w) A (subscriptTail value slice (.ref l) (.int k u)) Q E s := by subst hk; exact my_item1 N hm h hs
theorem my_at2 {v0 v1 : Value} {r : List Value} (hk : k = 2) (N : News h₀ L s.heap news) (hm : (l, listOf (v0 :: v1 :: v :: r).toArray n) ∈ news) (h : Q v s)
    (hs : subscripted slice false (.ref l) (.int k u) = operate [.ref l, .int k u] (getItem (.ref l) (.int k u)) := by with_unfolding_all rfl) :
    wpAny (model prog w) A (subscriptTail value slice (.ref l) (.int k u)) Q E s := by subst hk; exact my_item2 N hm h hs
end
theorem room {dp d d' : Nat} (h : dp + d < recursionLimit) (hle : 1 + d' ≤ d) : dp + 1 + d' < recursionLimit := by omega
theorem units64 {un u : Nat} (h : un + u < cLine) (hle : 67 ≤ u) : un + 3 + 64 < cLine := by omega
theorem row_size {us : List Value} {n : Int} {b : Nat} (h : IntsAre us (rowOf n b)) (hb : b ≤ 64) : us.toArray.size ≤ sizeLine := by
  rw [List.size_toArray, h.length, rowOf_len, sizeLine_eq]; omega
theorem half_bits (k : Kd) : (k.bits : Int).fdiv 2 = (k.bits : Int) / 2 ∧ 4 ≤ (k.bits : Int).fdiv 2 ∧ 2 * (k.bits : Int).fdiv 2 = k.bits := by
  have h : k.bits = 8 ∨ k.bits = 16 ∨ k.bits = 32 ∨ k.bits = 64 := by cases k <;> decide
  have e : (k.bits : Int).fdiv 2 = (k.bits : Int) / 2 := Int.fdiv_eq_ediv_of_nonneg _ (by decide)
  refine ⟨e, ?_, ?_⟩ <;> omega
theorem units {un u u' : Nat} (h : un + u < cLine) (hle : 3 + u' ≤ u) : un + 3 + u' < cLine := by omega
end
section
/-- entries that are surely not the list iterator at I -/
def OffN (I : Addr) : List (Addr × Obj) → Prop
  | [] => True
  | p :: r => (p.1 ≠ I ∨ p.2.cls ≠ .type "list_iterator") ∧ OffN I r
theorem OffN.get {I : Addr} : ∀ {l : List (Addr × Obj)}, OffN I l → ∀ p ∈ l, p.1 ≠ I ∨ p.2.cls ≠ .type "list_iterator"
  | [], _, _, h => nomatch h
  | _ :: _, x, p, h => (List.mem_cons.mp h).elim (fun e => e ▸ x.1) fun e => OffN.get x.2 p e
theorem unr_end {h₀ : Heap} {L I : Addr} {it : Obj} {rest : (Str → Option Value) → List (Addr × Obj) → Prop} {s₁ : Shared} {h' : Heap} {tk : Nat} {m' : Str → Option Value} (a c tail : List (Addr × Obj)) (F : Fr h₀ L h' m')
    (N : News h₀ L h' (a ++ ((I, it) :: (c ++ tail)))) (hic : it.cls = .type "list_iterator") (ht : AllLt I tail) (off : OffN I (a ++ c)) (r : rest m' (a ++ (c ++ tail))) : UnrEnd h₀ L s₁ I it rest { s₁ with heap := h', toks := tk } := by
  have hsub : ∀ p ∈ a ++ (c ++ tail), p ∈ a ++ ((I, it) :: (c ++ tail)) := by
    intro p hp
    rcases List.mem_append.mp hp with h | h
    · exact List.mem_append.mpr (.inl h)
    · exact List.mem_append.mpr (.inr (.tail _ h))
  have hI : ((I, it) : Addr × Obj) ∈ a ++ ((I, it) :: (c ++ tail)) := List.mem_append.mpr (.inr (.head _))
  refine UnrEnd.intro F N (a ++ (c ++ tail)) (fun p hp => (List.mem_cons.mp hp).elim (fun e => e ▸ hI) (hsub p)) (fun p hp => ?_) r
  have hcase : p ∈ a ++ c ∨ p ∈ tail := by
    rcases List.mem_append.mp hp with h | h
    · exact .inl (List.mem_append.mpr (.inl h))
    · rcases List.mem_append.mp h with h | h
      · exact .inl (List.mem_append.mpr (.inr h))
      · exact .inr h
  rcases hcase with h | h
  · rcases off.get p h with e | e
    · exact e
    · intro e2
      have h1 := (N _ (hsub p hp)).1
      have h2 := (N _ hI).1
      rw [e2] at h1
      exact e ((congrArg Obj.cls (Option.some.inj (h1.symm.trans h2))).trans hic)
  · exact Nat.ne_of_lt (ktn_ltOf ht p h)
/-- what the turn made is forgotten -/
theorem unr_drop {h₀ : Heap} {L I : Addr} {it : Obj} {rest : (Str → Option Value) → List (Addr × Obj) → Prop} {s₁ : Shared} {h' : Heap} {tk : Nat} {m' : Str → Option Value} (a tail : List (Addr × Obj)) (F : Fr h₀ L h' m')
    (N : News h₀ L h' (a ++ ((I, it) :: tail))) (ht : AllLt I tail) (r : rest m' tail) : UnrEnd h₀ L s₁ I it rest { s₁ with heap := h', toks := tk } :=
  UnrEnd.intro F N tail (fun _ hp => List.mem_append.mpr (.inr hp)) (fun p hp => Nat.ne_of_lt (ktn_ltOf ht p hp)) r
end
section
section
variable {prog : Program} {w : World} {A : Around} {E : Value → Shared → Prop} {s : Shared} {env : Env} {h₀ : Heap} {x : Str} {body : List Stmt} {Q : Flow → Shared → Prop}
/-- a loop over ints of the ledger whose turns store two names and change nothing else -/
theorem iter_still2 {l : Addr} {vs : List Value} {ns : List Int} {nn : Nat} {m₀ : Str → Option Value} {news : List (Addr × Obj)} (y1 y2 : Str)
    (hh : A.handled = none) (hl : (l, listOf vs.toArray nn) ∈ news) (hi : IntsAre vs ns) (F : Fr h₀ env.locals s.heap m₀) (N : News h₀ env.locals s.heap news)
    (turn : ∀ n t (m₁ : Str → Option Value) h tk own, n ∈ ns → OwnOff own (news.map (·.1)) → Fr h₀ env.locals h (fun z => if z = x then some (.int n t) else if z = y1 then m₁ z else if z = y2 then m₁ z else m₀ z) → News h₀ env.locals h (news ++ own) →
      wpAny (model prog w) A (execs body env) (InvPostN h₀ env.locals (fun m' nx => nx = news ∧ ∀ z, z ≠ x → z ≠ y1 → z ≠ y2 → m' z = m₀ z) own (news.map (·.1)) { s with heap := h, toks := tk } Q) E { s with heap := h, toks := tk })
    (done : ∀ (m₁ : Str → Option Value) h tk, Fr h₀ env.locals h (fun z => if z = x then m₁ z else if z = y1 then m₁ z else if z = y2 then m₁ z else m₀ z) → News h₀ env.locals h news → Q .next { s with heap := h, toks := tk }) :
    wpAny (model prog w) A (pyIter (.ref l)) (fun it s₂ => LoopAtV prog w A h₀ env x body Q E it s₂) E s := by
  have hmap : ∀ (m : Str → Option Value) (v : Str → Option Value), (∀ z, z ≠ x → z ≠ y1 → z ≠ y2 → m z = m₀ z) → (fun z => if z = x then v z else m z) = fun z => if z = x then v z else if z = y1 then m z else if z = y2 then m z else m₀ z := by
    intro m v ho
    funext z
    by_cases h1 : z = x
    · simp only [if_pos h1]
    · simp only [if_neg h1]
      by_cases h2 : z = y1
      · simp only [if_pos h2]
      · simp only [if_neg h2]
        by_cases h3 : z = y2
        · simp only [if_pos h3]
        · simp only [if_neg h3]; exact ho z h1 h2 h3
  refine iter_invNL (fun _ m nx => nx = news ∧ ∀ z, z ≠ x → z ≠ y1 → z ≠ y2 → m z = m₀ z) hh hl hi F N ⟨rfl, fun _ _ _ _ => rfl⟩ ?_ ?_
  · rintro i n t m₁ news₁ h tk own hn _ hoff _ ⟨rfl, ho⟩ F₁ N₁
    rw [hmap m₁ (fun _ => some (.int n t)) ho] at F₁
    refine wpAny_mono (turn n t m₁ h tk own (List.mem_of_getElem? hn) hoff F₁ N₁) (fun f s₂ p => ?_) fun _ _ e => e
    have up : InvEndN h₀ env.locals (fun m' nx => nx = news₁ ∧ ∀ z, z ≠ x → z ≠ y1 → z ≠ y2 → m' z = m₀ z) own (news₁.map (·.1)) { s with heap := h, toks := tk } s₂ →
        InvEndN h₀ env.locals (fun m' nx => (l, listOf vs.toArray nn) ∈ nx ∧ nx = news₁ ∧ ∀ z, z ≠ x → z ≠ y1 → z ≠ y2 → m' z = m₀ z) own (news₁.map (·.1)) { s with heap := h, toks := tk } s₂ := by
      rintro ⟨h', tk, m', news', nx, e, F', N', hn', ho', ha, hx, hz⟩
      exact ⟨h', tk, m', news', nx, e, F', N', hn', ho', ha, hx ▸ hl, hx, hz⟩
    cases f with
    | ret v => exact p
    | brk => exact p
    | next => exact up p
    | cont => exact up p
  · rintro m₁ news₁ h tk _ ⟨rfl, ho⟩ F₁ N₁
    refine done m₁ h tk ?_ N₁
    rw [← hmap m₁ m₁ ho]
    have e : (fun z => if z = x then m₁ z else m₁ z) = m₁ := by funext z; by_cases h1 : z = x <;> simp [h1]
    rw [e]; exact F₁
end
theorem ints2 {ys : List Value} {a b : Int} (h : IntsAre ys [a, b]) : ∃ t t', ys = [.int a t, .int b t'] := by
  cases h with
  | cons _ t r => cases r with
    | cons _ t' r => cases r; exact ⟨t, t', rfl⟩
end
section
theorem over_bad1 {n b : Int} (h : n < 0) (h2 : ((!(decide (0 ≤ n) && decide (n < b))) == decide (n < 0)) = false) : False := by
  rw [decide_eq_false (by omega : ¬ 0 ≤ n), decide_eq_true h] at h2; simp at h2
theorem over_bad2 {n b : Int} (h : ¬ n < 0) (h2 : ((!(decide (0 ≤ n) && decide (n < b))) == decide (b ≤ n)) = false) : False := by
  rw [decide_eq_true (by omega : 0 ≤ n)] at h2
  by_cases hb : n < b
  · rw [decide_eq_true hb, decide_eq_false (by omega : ¬ b ≤ n)] at h2; simp at h2
  · rw [decide_eq_false hb, decide_eq_true (by omega : b ≤ n)] at h2; simp at h2
theorem half_fmod (k : Kd) (p : Int) : 0 ≤ p.fmod ((k.bits : Int).fdiv 2) ∧ 2 * p.fmod ((k.bits : Int).fdiv 2) < k.bits := by
  have hh := half_bits k
  have e : p.fmod ((k.bits : Int).fdiv 2) = p % ((k.bits : Int).fdiv 2) := Int.fmod_eq_emod_of_nonneg _ (by omega)
  have h1 := Int.emod_nonneg p (show (k.bits : Int).fdiv 2 ≠ 0 by omega)
  have h2 := Int.emod_lt_of_pos p (show (0 : Int) < (k.bits : Int).fdiv 2 by omega)
  omega
theorem fmod_small {a b : Int} (h0 : 0 ≤ a) (h1 : a < b) : a.fmod b = a := by
  rw [Int.fmod_eq_emod_of_nonneg _ (by omega), Int.emod_eq_of_lt h0 h1]
theorem shifts_eq (k : Kd) (n p0 p1 : Int) :
    (k.wrap (k.wrap (n * 2 ^ ((p0.fmod ((k.bits : Int).fdiv 2)).fmod (k.bits : Int)).toNat) * 2 ^ ((p1.fmod ((k.bits : Int).fdiv 2)).fmod (k.bits : Int)).toNat) ==
        k.wrap (n * 2 ^ ((p0.fmod ((k.bits : Int).fdiv 2) + p1.fmod ((k.bits : Int).fdiv 2)).fmod (k.bits : Int)).toNat) &&
      (!(decide (0 ≤ p1.fmod ((k.bits : Int).fdiv 2)) && decide (p1.fmod ((k.bits : Int).fdiv 2) < (k.bits : Int)))) ==
        !(decide (0 ≤ p0.fmod ((k.bits : Int).fdiv 2) + p1.fmod ((k.bits : Int).fdiv 2)) && decide (p0.fmod ((k.bits : Int).fdiv 2) + p1.fmod ((k.bits : Int).fdiv 2) < (k.bits : Int)))) = true := by
  have h0 := half_fmod k p0
  have h1 := half_fmod k p1
  generalize p0.fmod ((k.bits : Int).fdiv 2) = a at *
  generalize p1.fmod ((k.bits : Int).fdiv 2) = b at *
  have e : (a + b).toNat = a.toNat + b.toNat := by omega
  rw [fmod_small h0.1 (by omega), fmod_small h1.1 (by omega), fmod_small (by omega : 0 ≤ a + b) (by omega), e, wrap_shl,
    decide_eq_true h1.1, decide_eq_true (by omega : b < (k.bits : Int)), decide_eq_true (by omega : 0 ≤ a + b), decide_eq_true (by omega : a + b < (k.bits : Int))]
  simp
end
section
theorem weight_row : ∀ l : List Int, (∀ z ∈ l, z = 0 ∨ z = 1) → PyData.weightAll (l.map PyData.int) ≤ 2 * l.length
  | [], _ => by simp [PyData.weightAll]
  | z :: r, h => by
    have h1 := weight_row r fun y hy => h y (.tail _ hy)
    have h2 : PyData.weight (.int z) ≤ 1 := by
      rcases h z (.head _) with e | e <;> subst e <;> decide
    simp only [List.map_cons, PyData.weightAll, List.length_cons]
    omega
theorem mem_row {n z : Int} {b : Nat} (h : z ∈ rowOf n b) : z = 0 ∨ z = 1 := by
  unfold rowOf at h
  obtain ⟨i, _, rfl⟩ := List.mem_map.mp h
  exact bit_range n i
theorem lay_row (n : Int) {b : Nat} (hb : b ≤ 64) : PyData.layable0 (.list ((rowOf n b).map .int)) = true := by
  have h1 := weight_row (rowOf n b) fun z hz => mem_row hz
  rw [rowOf_len] at h1
  have hd := ke_depthAll (rowOf n b)
  have hc := ke_canLayAll0 (rowOf n b)
  have e : (2 : Nat) ^ 20 = 1048576 := by decide
  have hw : PyData.weight (.list ((rowOf n b).map .int)) ≤ 2 ^ 20 := by
    show PyData.weightAll ((rowOf n b).map .int) ≤ 2 ^ 20
    rw [e]; omega
  have hdp : PyData.depth (.list ((rowOf n b).map .int)) ≤ 64 := by
    show PyData.depthAll ((rowOf n b).map .int) + 1 ≤ 64
    rw [hd]; decide
  have hcl : PyData.canLay0 (.list ((rowOf n b).map .int)) = true := hc
  unfold PyData.layable0
  rw [hcl, decide_eq_true hdp, decide_eq_true hw]; rfl
theorem row_len {us : List Value} {n : Int} {b : Nat} (h : IntsAre us (rowOf n b)) : us.toArray.size = b := by rw [List.size_toArray, h.length, rowOf_len]
theorem any_mem {l : List Int} (h : (l.any fun x => x == 0) = true) : 0 ∈ l := by
  obtain ⟨x, hx, e⟩ := List.any_eq_true.mp h
  have : x = 0 := by simpa using e
  exact this ▸ hx
theorem row_idx {n : Int} {b : Nat} (h : ((rowOf n b).any fun x => x == 0) = true) : (rowOf n b).idxOf 0 < b := by
  have := List.idxOf_lt_length_iff.mpr (any_mem h)
  rwa [rowOf_len] at this
end
section
theorem inv_back {k : Kd} {n : Int} (h1 : k.lo ≤ n) (h2 : n ≤ k.hi) : k.wrap (-1 - k.wrap (-1 - n)) = n := by
  obtain ⟨q, e, _, _⟩ := k.wrap_def (-1 - n)
  exact Kd.wrap_uniq ⟨q, by rw [e]; omega⟩ h1 h2
theorem neg_over_s {k : Kd} {n : Int} (h1 : k.lo ≤ n) (h2 : n ≤ k.hi) (hs : k.sgn = true) : (!k.fits (0 - n)) = (n == k.lo) := by
  have hl := Kd.lo_s hs
  have hh := k.hi_lo
  have hp := k.pow_half
  have hq := two_pow_pos (k.bits - 1)
  by_cases h : n = k.lo
  · have : k.fits (0 - n) = false := by
      rw [Bool.eq_false_iff]; intro h3
      have := (k.fits_iff _).mp h3
      omega
    rw [this, h]; simp
  · rw [Kd.fits_in (by omega) (by omega)]
    simp [h]
theorem neg_over_u {k : Kd} {n : Int} (h1 : k.lo ≤ n) (h2 : n ≤ k.hi) (hs : k.sgn = false) : (!k.fits (0 - n)) = (n != 0) := by
  have hl := Kd.lo_u hs
  have hh := k.hi_lo
  by_cases h : n = 0
  · rw [Kd.fits_in (by omega) (by omega)]
    simp [h]
  · have : k.fits (0 - n) = false := by
      rw [Bool.eq_false_iff]; intro h3
      have := (k.fits_iff _).mp h3
      omega
    rw [this]; simp [h]
theorem one_if {p : Prop} [Decidable p] (h : p) : (if decide p = true then (1 : Int) else 0).toNat = 1 := by simp [h]
theorem nought_if {p : Prop} [Decidable p] (h : ¬ p) : (if decide p = true then (1 : Int) else 0).toNat = 0 := by simp [h]
theorem idx_bits {x : Int} {b : Nat} (h : ((rowOf x b).any fun z => z == 0) = true) : (∀ i, i < (rowOf x b).idxOf 0 → bitAt x i = 1) ∧ bitAt x ((rowOf x b).idxOf 0) = 0 := by
  have hlt := row_idx h
  have hget := List.getElem_idxOf (xs := rowOf x b) (x := 0) (by rw [rowOf_len]; exact hlt)
  constructor
  · intro i hi
    have h3 := ne_of_lt_idxOf hi (by rw [rowOf_len]; omega)
    have h4 := rowOf_get x b i
    rw [if_pos (by omega), List.getElem?_eq_getElem (by rw [rowOf_len]; omega)] at h4
    have h5 := Option.some.inj h4
    rw [h5] at h3
    rcases bit_range x i with e | e
    · rw [e] at h3; simp at h3
    · exact e
  · have h4 := rowOf_get x b ((rowOf x b).idxOf 0)
    rw [if_pos hlt, List.getElem?_eq_getElem (by rw [rowOf_len]; exact hlt)] at h4
    rw [← Option.some.inj h4]; exact hget
theorem none_bits {x : Int} {b : Nat} (h : ((rowOf x b).any fun z => z == 0) = false) : ∀ i, i < b → bitAt x i = 1 := by
  intro i hi
  rcases bit_range x i with e | e
  · exfalso
    have h4 := rowOf_get x b i
    rw [if_pos hi] at h4
    have hm : bitAt x i ∈ rowOf x b := List.mem_of_getElem? h4
    have : ((rowOf x b).any fun z => z == 0) = true := List.any_eq_true.mpr ⟨_, hm, by simp [e]⟩
    rw [this] at h; cases h
  · exact e
theorem more_1 {n : Int} {b : Nat} {us : List Value} (h : ((rowOf (-1 - n) b).any fun z => z == 0) = true)
    (hI : IntsAre us (((List.replicate (((rowOf (-1 - n) b).idxOf 0 : Nat) : Int).toNat [0]).flatten ++ (List.replicate (if decide ((((rowOf (-1 - n) b).idxOf 0 : Nat) : Int) < (b : Int)) = true then (1 : Int) else 0).toNat [1]).flatten) ++ List.drop ((((rowOf (-1 - n) b).idxOf 0 : Nat) : Int) + 1).toNat (rowOf (-1 - n) b))) :
    IntsAre us (rowOf (0 - n) b) := by
  have hlt := row_idx h
  obtain ⟨h1, h0⟩ := idx_bits h
  have e := inc_row (-1 - n) hlt h1 h0
  have e2 : (((rowOf (-1 - n) b).idxOf 0 : Nat) : Int).toNat = (rowOf (-1 - n) b).idxOf 0 := by omega
  have e3 : ((((rowOf (-1 - n) b).idxOf 0 : Nat) : Int) + 1).toNat = (rowOf (-1 - n) b).idxOf 0 + 1 := by omega
  have e4 : -1 - n + 1 = 0 - n := by omega
  rw [krep_flat, krep_flat, one_if (by omega), e2, e3] at hI
  rw [e4] at e
  rw [← e]
  exact hI
theorem more_2 {n : Int} {b : Nat} {us : List Value} (h : ((rowOf (-1 - n) b).any fun z => z == 0) = false)
    (hI : IntsAre us (((List.replicate (b : Int).toNat [0]).flatten ++ (List.replicate (if decide ((b : Int) < (b : Int)) = true then (1 : Int) else 0).toNat [1]).flatten) ++ List.drop ((b : Int) + 1).toNat (rowOf (-1 - n) b))) :
    IntsAre us (rowOf (0 - n) b) := by
  have e := inc_all (-1 - n) (none_bits h)
  have e2 : ((b : Nat) : Int).toNat = b := by omega
  have e3 : ((b : Int) + 1).toNat = b + 1 := by omega
  have e4 : -1 - n + 1 = 0 - n := by omega
  have e5 : List.drop (b + 1) (rowOf (-1 - n) b) = [] := List.drop_eq_nil_of_le (by rw [rowOf_len]; omega)
  rw [krep_flat, krep_flat, nought_if (by omega), e2, e3, e5] at hI
  rw [e4] at e
  rw [← e]
  simpa using hI
theorem more_szA {a b : Nat} (h : a ≤ 64) : (List.replicate (a : Int).toNat [(0 : Int)]).flatten.length + (List.replicate (if decide ((a : Int) < (b : Int)) = true then (1 : Int) else 0).toNat [(1 : Int)]).flatten.length ≤ sizeLine := by
  rw [krep_flat, krep_flat, List.length_replicate, List.length_replicate, sizeLine_eq]
  by_cases hp : (a : Int) < (b : Int)
  · rw [one_if hp]; omega
  · rw [nought_if hp]; omega
theorem more_szB {a b j : Nat} {x : Int} (h : a ≤ 64) (hb : b ≤ 64) : ((List.replicate (a : Int).toNat [(0 : Int)]).flatten ++ (List.replicate (if decide ((a : Int) < (b : Int)) = true then (1 : Int) else 0).toNat [(1 : Int)]).flatten).length + (List.drop j (rowOf x b)).length ≤ sizeLine := by
  have h1 : (List.drop j (rowOf x b)).length ≤ b := by rw [List.length_drop, rowOf_len]; omega
  rw [List.length_append, krep_flat, krep_flat, List.length_replicate, List.length_replicate, sizeLine_eq]
  by_cases hp : (a : Int) < (b : Int)
  · rw [one_if hp]; omega
  · rw [nought_if hp]; omega
end
section
local macro_rules | `(tactic| ktr_call $C:term $_:term) => `(tactic| (refine' Tell.use $C ?k1 ?k2 ?k3 ?k4 ?k5 ?kK ?kd ?ku ?kR; (case k1 => k_asm); (case k2 => k_asm); (case k3 => k_asm); (case k4 => k_asm); (case k5 => k_asm); (case kK => first | exact rfl | assumption); (case kd => ktr_room); (case ku => ktr_units)))
section
section
variable {w : World} {loose : List Str} {mean : ExcName → Option Value} {mg mb : Str → Option Value}
theorem t_is_signed (news : List (Addr × Obj)) (k : Kd) (t : Tok) :
    Tell PySem.Challenge.rw_ot0001_01.row.prog w (Mine.hd.heap_39 w.params) Mine.hd.view_39 loose mean mg mb 22 1 8 news [.str k.str t] (fun ret => ∀ b, b = k.sgn → ret (.bool b) news) := by
  w_top off
  k_fill
  unfold Tell
  intro dp un gd cn cs a ccd cl outer A₀ base h₀ L m s Q E B F X N T hk hd hu hret
  have hl := k.len
  refine wpAny_call ?_
  k_dflt cell_enter
  repeat' (first
   | (k_unfold; (try dsimp only))
   | (k_end; kc_close)
   | (with_reducible first
    | ((with_reducible show wpAny _ _ (subscriptTail _ _ (Value.ref _) _) _ _ _); first
      | ((k_here; k_dflt (refine' bits_item _ _ ?k1 ?k2 ?_; (case k1 => k_asm); (case k2 => k_asm)); intro t9))))
   | ((with_reducible show wpAny _ _ (subscriptTail _ _ (Value.ref _) _) _ _ _); first
      | ((k_here; k_dflt (refine' bits_item _ _ ?k1 ?k2 ?_; (case k1 => k_asm); (case k2 => k_asm)); intro t9)))
   | walk1
   | (dsimp only; walk1)
   | (leave1; walk_say "STEP leave1"; (try dsimp only))
   | fail "no step")
  all_goals exact hret _ (Kd.first k) _ _ (by k_asm) (by k_asm)
theorem t_least (news : List (Addr × Obj)) (k : Kd) (t : Tok) :
    Tell PySem.Challenge.rw_ot0001_01.row.prog w (Mine.hd.heap_39 w.params) Mine.hd.view_39 loose mean mg mb 29 2 16 news [.str k.str t] (fun ret => ∀ x t, x = k.lo → ret (.int x t) news) := by
  k_fill
  unfold Tell
  intro dp un gd cn cs a ccd cl outer A₀ base h₀ L m s Q E B F X N T hk hd hu hret
  have hb := k.bits_le
  refine wpAny_call ?_
  k_dflt cell_enter
  repeat' (first
   | (k_unfold; (try dsimp only))
   | (k_end; kc_close)
   | (with_reducible first
    | ((with_reducible show wpAny _ _ (subscriptTail _ _ (Value.ref _) _) _ _ _); first
      | ((k_here; k_dflt (refine' bits_item _ _ ?k1 ?k2 ?_; (case k1 => k_asm); (case k2 => k_asm)); intro t9)))
    | ((with_reducible show wpAny _ _ (call (Value.ref _) _) _ _ _); first
      | ((k_here; ktr_call (t_is_signed _ _ _) 0; intro b9 e9; subst e9; intro h9 tk9 F9 N9; (try dsimp only); (try k_fold)))))
   | ((with_reducible show wpAny _ _ (subscriptTail _ _ (Value.ref _) _) _ _ _); first
      | ((k_here; k_dflt (refine' bits_item _ _ ?k1 ?k2 ?_; (case k1 => k_asm); (case k2 => k_asm)); intro t9)))
   | ((with_reducible show wpAny _ _ (call (Value.ref _) _) _ _ _); first
      | ((k_here; ktr_call (t_is_signed _ _ _) 0; intro b9 e9; subst e9; intro h9 tk9 F9 N9; (try dsimp only); (try k_fold))))
   | walk1
   | (dsimp only; walk1)
   | (leave1; walk_say "STEP leave1"; (try dsimp only))
   | fail "no step")
  · exact hret _ _ (lo_s (by assumption)) _ _ (by k_asm) (by k_asm)
  · exact hret _ _ (lo_u (sgn_f (by assumption))) _ _ (by k_asm) (by k_asm)
theorem t_greatest (news : List (Addr × Obj)) (k : Kd) (t : Tok) :
    Tell PySem.Challenge.rw_ot0001_01.row.prog w (Mine.hd.heap_39 w.params) Mine.hd.view_39 loose mean mg mb 36 2 16 news [.str k.str t] (fun ret => ∀ x t, x = k.hi → ret (.int x t) news) := by
  k_fill
  unfold Tell
  intro dp un gd cn cs a ccd cl outer A₀ base h₀ L m s Q E B F X N T hk hd hu hret
  have hb := k.bits_le
  refine wpAny_call ?_
  k_dflt cell_enter
  repeat' (first
   | (k_unfold; (try dsimp only))
   | (k_end; kc_close)
   | (with_reducible first
    | ((with_reducible show wpAny _ _ (subscriptTail _ _ (Value.ref _) _) _ _ _); first
      | ((k_here; k_dflt (refine' bits_item _ _ ?k1 ?k2 ?_; (case k1 => k_asm); (case k2 => k_asm)); intro t9)))
    | ((with_reducible show wpAny _ _ (call (Value.ref _) _) _ _ _); first
      | ((k_here; ktr_call (t_least _ _ _) 0; intro x9 t9 e9; subst e9; intro h9 tk9 F9 N9; (try dsimp only); (try k_fold)))
      | ((k_here; ktr_call (t_is_signed _ _ _) 0; intro b9 e9; subst e9; intro h9 tk9 F9 N9; (try dsimp only); (try k_fold)))))
   | ((with_reducible show wpAny _ _ (subscriptTail _ _ (Value.ref _) _) _ _ _); first
      | ((k_here; k_dflt (refine' bits_item _ _ ?k1 ?k2 ?_; (case k1 => k_asm); (case k2 => k_asm)); intro t9)))
   | ((with_reducible show wpAny _ _ (call (Value.ref _) _) _ _ _); first
      | ((k_here; ktr_call (t_least _ _ _) 0; intro x9 t9 e9; subst e9; intro h9 tk9 F9 N9; (try dsimp only); (try k_fold)))
      | ((k_here; ktr_call (t_is_signed _ _ _) 0; intro b9 e9; subst e9; intro h9 tk9 F9 N9; (try dsimp only); (try k_fold))))
   | walk1
   | (dsimp only; walk1)
   | (leave1; walk_say "STEP leave1"; (try dsimp only))
   | fail "no step")
  · exact hret _ _ (hi_s (by assumption)) _ _ (by k_asm) (by k_asm)
  · exact hret _ _ (hi_u (sgn_f (by assumption))) _ _ (by k_asm) (by k_asm)
theorem t_fits (news : List (Addr × Obj)) (k : Kd) (n : Int) (t t' : Tok) :
    Tell PySem.Challenge.rw_ot0001_01.row.prog w (Mine.hd.heap_39 w.params) Mine.hd.view_39 loose mean mg mb 43 3 24 news [.str k.str t, .int n t'] (fun ret => ∀ b, b = k.fits n → ret (.bool b) news) := by
  k_fill
  unfold Tell
  intro dp un gd cn cs a ccd cl outer A₀ base h₀ L m s Q E B F X N T hk hd hu hret
  refine wpAny_call ?_
  k_dflt cell_enter
  repeat' (first
   | (k_unfold; (try dsimp only))
   | (k_end; kc_close)
   | (with_reducible first
    | ((with_reducible show wpAny _ _ (subscriptTail _ _ (Value.ref _) _) _ _ _); first
      | ((k_here; k_dflt (refine' bits_item _ _ ?k1 ?k2 ?_; (case k1 => k_asm); (case k2 => k_asm)); intro t9)))
    | ((with_reducible show wpAny _ _ (call (Value.ref _) _) _ _ _); first
      | ((k_here; ktr_call (t_greatest _ _ _) 0; intro x9 t9 e9; subst e9; intro h9 tk9 F9 N9; (try dsimp only); (try k_fold)))
      | ((k_here; ktr_call (t_least _ _ _) 0; intro x9 t9 e9; subst e9; intro h9 tk9 F9 N9; (try dsimp only); (try k_fold)))
      | ((k_here; ktr_call (t_is_signed _ _ _) 0; intro b9 e9; subst e9; intro h9 tk9 F9 N9; (try dsimp only); (try k_fold)))))
   | ((with_reducible show wpAny _ _ (subscriptTail _ _ (Value.ref _) _) _ _ _); first
      | ((k_here; k_dflt (refine' bits_item _ _ ?k1 ?k2 ?_; (case k1 => k_asm); (case k2 => k_asm)); intro t9)))
   | ((with_reducible show wpAny _ _ (call (Value.ref _) _) _ _ _); first
      | ((k_here; ktr_call (t_greatest _ _ _) 0; intro x9 t9 e9; subst e9; intro h9 tk9 F9 N9; (try dsimp only); (try k_fold)))
      | ((k_here; ktr_call (t_least _ _ _) 0; intro x9 t9 e9; subst e9; intro h9 tk9 F9 N9; (try dsimp only); (try k_fold)))
      | ((k_here; ktr_call (t_is_signed _ _ _) 0; intro b9 e9; subst e9; intro h9 tk9 F9 N9; (try dsimp only); (try k_fold))))
   | walk1
   | (dsimp only; walk1)
   | (leave1; walk_say "STEP leave1"; (try dsimp only))
   | fail "no step")
  · exact hret _ (fits_1 (by assumption)) _ _ (by k_asm) (by k_asm)
  · exact hret _ (fits_2 (by assumption)) _ _ (by k_asm) (by k_asm)
theorem t_wrapped (news : List (Addr × Obj)) (k : Kd) (n : Int) (t t' : Tok) :
    Tell PySem.Challenge.rw_ot0001_01.row.prog w (Mine.hd.heap_39 w.params) Mine.hd.view_39 loose mean mg mb 50 3 24 news [.str k.str t, .int n t'] (fun ret => ∀ x t, x = k.wrap n → ret (.int x t) news) := by
  k_fill
  unfold Tell
  intro dp un gd cn cs a ccd cl outer A₀ base h₀ L m s Q E B F X N T hk hd hu hret
  have hb := k.bits_le
  refine wpAny_call ?_
  k_dflt cell_enter
  repeat' (first
   | (k_unfold; (try dsimp only))
   | (k_end; kc_close)
   | (with_reducible first
    | ((with_reducible show wpAny _ _ (subscriptTail _ _ (Value.ref _) _) _ _ _); first
      | ((k_here; k_dflt (refine' bits_item _ _ ?k1 ?k2 ?_; (case k1 => k_asm); (case k2 => k_asm)); intro t9)))
    | ((with_reducible show wpAny _ _ (call (Value.ref _) _) _ _ _); first
      | ((k_here; ktr_call (t_fits _ _ _ _ _) 0; intro b9 e9; subst e9; intro h9 tk9 F9 N9; (try dsimp only); (try k_fold)))
      | ((k_here; ktr_call (t_greatest _ _ _) 0; intro x9 t9 e9; subst e9; intro h9 tk9 F9 N9; (try dsimp only); (try k_fold)))
      | ((k_here; ktr_call (t_least _ _ _) 0; intro x9 t9 e9; subst e9; intro h9 tk9 F9 N9; (try dsimp only); (try k_fold)))
      | ((k_here; ktr_call (t_is_signed _ _ _) 0; intro b9 e9; subst e9; intro h9 tk9 F9 N9; (try dsimp only); (try k_fold)))))
   | ((with_reducible show wpAny _ _ (subscriptTail _ _ (Value.ref _) _) _ _ _); first
      | ((k_here; k_dflt (refine' bits_item _ _ ?k1 ?k2 ?_; (case k1 => k_asm); (case k2 => k_asm)); intro t9)))
   | ((with_reducible show wpAny _ _ (call (Value.ref _) _) _ _ _); first
      | ((k_here; ktr_call (t_fits _ _ _ _ _) 0; intro b9 e9; subst e9; intro h9 tk9 F9 N9; (try dsimp only); (try k_fold)))
      | ((k_here; ktr_call (t_greatest _ _ _) 0; intro x9 t9 e9; subst e9; intro h9 tk9 F9 N9; (try dsimp only); (try k_fold)))
      | ((k_here; ktr_call (t_least _ _ _) 0; intro x9 t9 e9; subst e9; intro h9 tk9 F9 N9; (try dsimp only); (try k_fold)))
      | ((k_here; ktr_call (t_is_signed _ _ _) 0; intro b9 e9; subst e9; intro h9 tk9 F9 N9; (try dsimp only); (try k_fold))))
   | walk1
   | (dsimp only; walk1)
   | (leave1; walk_say "STEP leave1"; (try dsimp only))
   | fail "no step")
  · exact hret _ _ (wrap_eq _ _) _ _ (by k_asm) (by k_asm)
theorem t_cast_int (news : List (Addr × Obj)) (k : Kd) (n : Int) (t t' : Tok) :
    Tell PySem.Challenge.rw_ot0001_01.row.prog w (Mine.hd.heap_39 w.params) Mine.hd.view_39 loose mean mg mb 57 4 32 news [.str k.str t, .int n t'] (fun ret => ∀ x t, x = k.wrap n → ret (.int x t) news) := by
  k_fill
  unfold Tell
  intro dp un gd cn cs a ccd cl outer A₀ base h₀ L m s Q E B F X N T hk hd hu hret
  refine wpAny_call ?_
  k_dflt cell_enter
  repeat' (first
   | (k_unfold; (try dsimp only))
   | (k_end; kc_close)
   | (with_reducible first
    | ((with_reducible show wpAny _ _ (subscriptTail _ _ (Value.ref _) _) _ _ _); first
      | ((k_here; k_dflt (refine' bits_item _ _ ?k1 ?k2 ?_; (case k1 => k_asm); (case k2 => k_asm)); intro t9)))
    | ((with_reducible show wpAny _ _ (call (Value.ref _) _) _ _ _); first
      | ((k_here; ktr_call (t_wrapped _ _ _ _ _) 0; intro x9 t9 e9; subst e9; intro h9 tk9 F9 N9; (try dsimp only); (try k_fold)))
      | ((k_here; ktr_call (t_fits _ _ _ _ _) 0; intro b9 e9; subst e9; intro h9 tk9 F9 N9; (try dsimp only); (try k_fold)))
      | ((k_here; ktr_call (t_greatest _ _ _) 0; intro x9 t9 e9; subst e9; intro h9 tk9 F9 N9; (try dsimp only); (try k_fold)))
      | ((k_here; ktr_call (t_least _ _ _) 0; intro x9 t9 e9; subst e9; intro h9 tk9 F9 N9; (try dsimp only); (try k_fold)))
      | ((k_here; ktr_call (t_is_signed _ _ _) 0; intro b9 e9; subst e9; intro h9 tk9 F9 N9; (try dsimp only); (try k_fold)))))
   | ((with_reducible show wpAny _ _ (subscriptTail _ _ (Value.ref _) _) _ _ _); first
      | ((k_here; k_dflt (refine' bits_item _ _ ?k1 ?k2 ?_; (case k1 => k_asm); (case k2 => k_asm)); intro t9)))
   | ((with_reducible show wpAny _ _ (call (Value.ref _) _) _ _ _); first
      | ((k_here; ktr_call (t_wrapped _ _ _ _ _) 0; intro x9 t9 e9; subst e9; intro h9 tk9 F9 N9; (try dsimp only); (try k_fold)))
      | ((k_here; ktr_call (t_fits _ _ _ _ _) 0; intro b9 e9; subst e9; intro h9 tk9 F9 N9; (try dsimp only); (try k_fold)))
      | ((k_here; ktr_call (t_greatest _ _ _) 0; intro x9 t9 e9; subst e9; intro h9 tk9 F9 N9; (try dsimp only); (try k_fold)))
      | ((k_here; ktr_call (t_least _ _ _) 0; intro x9 t9 e9; subst e9; intro h9 tk9 F9 N9; (try dsimp only); (try k_fold)))
      | ((k_here; ktr_call (t_is_signed _ _ _) 0; intro b9 e9; subst e9; intro h9 tk9 F9 N9; (try dsimp only); (try k_fold))))
   | walk1
   | (dsimp only; walk1)
   | (leave1; walk_say "STEP leave1"; (try dsimp only))
   | fail "no step")
  · exact hret _ _ rfl _ _ (by k_asm) (by k_asm)
theorem t_inverted (news : List (Addr × Obj)) (k : Kd) (n : Int) (t t' : Tok) :
    Tell PySem.Challenge.rw_ot0001_01.row.prog w (Mine.hd.heap_39 w.params) Mine.hd.view_39 loose mean mg mb 78 4 32 news [.str k.str t, .int n t'] (fun ret => ∀ x t, x = k.wrap (-1 - n) → ret (.int x t) news) := by
  k_fill
  unfold Tell
  intro dp un gd cn cs a ccd cl outer A₀ base h₀ L m s Q E B F X N T hk hd hu hret
  refine wpAny_call ?_
  k_dflt cell_enter
  repeat' (first
   | (k_unfold; (try dsimp only))
   | (k_end; kc_close)
   | (with_reducible first
    | ((with_reducible show wpAny _ _ (subscriptTail _ _ (Value.ref _) _) _ _ _); first
      | ((k_here; k_dflt (refine' bits_item _ _ ?k1 ?k2 ?_; (case k1 => k_asm); (case k2 => k_asm)); intro t9)))
    | ((with_reducible show wpAny _ _ (call (Value.ref _) _) _ _ _); first
      | ((k_here; ktr_call (t_cast_int _ _ _ _ _) 0; intro x9 t9 e9; subst e9; intro h9 tk9 F9 N9; (try dsimp only); (try k_fold)))
      | ((k_here; ktr_call (t_wrapped _ _ _ _ _) 0; intro x9 t9 e9; subst e9; intro h9 tk9 F9 N9; (try dsimp only); (try k_fold)))
      | ((k_here; ktr_call (t_fits _ _ _ _ _) 0; intro b9 e9; subst e9; intro h9 tk9 F9 N9; (try dsimp only); (try k_fold)))
      | ((k_here; ktr_call (t_greatest _ _ _) 0; intro x9 t9 e9; subst e9; intro h9 tk9 F9 N9; (try dsimp only); (try k_fold)))
      | ((k_here; ktr_call (t_least _ _ _) 0; intro x9 t9 e9; subst e9; intro h9 tk9 F9 N9; (try dsimp only); (try k_fold)))
      | ((k_here; ktr_call (t_is_signed _ _ _) 0; intro b9 e9; subst e9; intro h9 tk9 F9 N9; (try dsimp only); (try k_fold)))))
   | ((with_reducible show wpAny _ _ (subscriptTail _ _ (Value.ref _) _) _ _ _); first
      | ((k_here; k_dflt (refine' bits_item _ _ ?k1 ?k2 ?_; (case k1 => k_asm); (case k2 => k_asm)); intro t9)))
   | ((with_reducible show wpAny _ _ (call (Value.ref _) _) _ _ _); first
      | ((k_here; ktr_call (t_cast_int _ _ _ _ _) 0; intro x9 t9 e9; subst e9; intro h9 tk9 F9 N9; (try dsimp only); (try k_fold)))
      | ((k_here; ktr_call (t_wrapped _ _ _ _ _) 0; intro x9 t9 e9; subst e9; intro h9 tk9 F9 N9; (try dsimp only); (try k_fold)))
      | ((k_here; ktr_call (t_fits _ _ _ _ _) 0; intro b9 e9; subst e9; intro h9 tk9 F9 N9; (try dsimp only); (try k_fold)))
      | ((k_here; ktr_call (t_greatest _ _ _) 0; intro x9 t9 e9; subst e9; intro h9 tk9 F9 N9; (try dsimp only); (try k_fold)))
      | ((k_here; ktr_call (t_least _ _ _) 0; intro x9 t9 e9; subst e9; intro h9 tk9 F9 N9; (try dsimp only); (try k_fold)))
      | ((k_here; ktr_call (t_is_signed _ _ _) 0; intro b9 e9; subst e9; intro h9 tk9 F9 N9; (try dsimp only); (try k_fold))))
   | walk1
   | (dsimp only; walk1)
   | (leave1; walk_say "STEP leave1"; (try dsimp only))
   | fail "no step")
  · exact hret _ _ rfl _ _ (by k_asm) (by k_asm)
theorem t_negated (news : List (Addr × Obj)) (k : Kd) (n : Int) (t t' : Tok) :
    Tell PySem.Challenge.rw_ot0001_01.row.prog w (Mine.hd.heap_39 w.params) Mine.hd.view_39 loose mean mg mb 71 4 32 news [.str k.str t, .int n t']
      (fun ret => ∀ D x t b, x = k.wrap (0 - n) → b = (!k.fits (0 - n)) → (∀ p ∈ news, p.1 < D) → ret (.ref D) ((D, { cls := .type "tuple", data := .seq #[.int x t, .bool b] }) :: news)) := by
  k_fill
  unfold Tell
  intro dp un gd cn cs a ccd cl outer A₀ base h₀ L m s Q E B F X N T hk hd hu hret
  refine wpAny_call ?_
  k_dflt cell_enter
  repeat' (first
   | (k_unfold; (try dsimp only))
   | (k_end; kc_close)
   | (with_reducible first
    | ((with_reducible show wpAny _ _ (subscriptTail _ _ (Value.ref _) _) _ _ _); first
      | ((k_here; k_dflt (refine' bits_item _ _ ?k1 ?k2 ?_; (case k1 => k_asm); (case k2 => k_asm)); intro t9)))
    | ((with_reducible show wpAny _ _ (call (Value.ref _) _) _ _ _); first
      | ((k_here; ktr_call (t_inverted _ _ _ _ _) 0; intro x9 t9 e9; subst e9; intro h9 tk9 F9 N9; (try dsimp only); (try k_fold)))
      | ((k_here; ktr_call (t_cast_int _ _ _ _ _) 0; intro x9 t9 e9; subst e9; intro h9 tk9 F9 N9; (try dsimp only); (try k_fold)))
      | ((k_here; ktr_call (t_wrapped _ _ _ _ _) 0; intro x9 t9 e9; subst e9; intro h9 tk9 F9 N9; (try dsimp only); (try k_fold)))
      | ((k_here; ktr_call (t_fits _ _ _ _ _) 0; intro b9 e9; subst e9; intro h9 tk9 F9 N9; (try dsimp only); (try k_fold)))
      | ((k_here; ktr_call (t_greatest _ _ _) 0; intro x9 t9 e9; subst e9; intro h9 tk9 F9 N9; (try dsimp only); (try k_fold)))
      | ((k_here; ktr_call (t_least _ _ _) 0; intro x9 t9 e9; subst e9; intro h9 tk9 F9 N9; (try dsimp only); (try k_fold)))
      | ((k_here; ktr_call (t_is_signed _ _ _) 0; intro b9 e9; subst e9; intro h9 tk9 F9 N9; (try dsimp only); (try k_fold)))))
   | ((with_reducible show wpAny _ _ (subscriptTail _ _ (Value.ref _) _) _ _ _); first
      | ((k_here; k_dflt (refine' bits_item _ _ ?k1 ?k2 ?_; (case k1 => k_asm); (case k2 => k_asm)); intro t9)))
   | ((with_reducible show wpAny _ _ (call (Value.ref _) _) _ _ _); first
      | ((k_here; ktr_call (t_inverted _ _ _ _ _) 0; intro x9 t9 e9; subst e9; intro h9 tk9 F9 N9; (try dsimp only); (try k_fold)))
      | ((k_here; ktr_call (t_cast_int _ _ _ _ _) 0; intro x9 t9 e9; subst e9; intro h9 tk9 F9 N9; (try dsimp only); (try k_fold)))
      | ((k_here; ktr_call (t_wrapped _ _ _ _ _) 0; intro x9 t9 e9; subst e9; intro h9 tk9 F9 N9; (try dsimp only); (try k_fold)))
      | ((k_here; ktr_call (t_fits _ _ _ _ _) 0; intro b9 e9; subst e9; intro h9 tk9 F9 N9; (try dsimp only); (try k_fold)))
      | ((k_here; ktr_call (t_greatest _ _ _) 0; intro x9 t9 e9; subst e9; intro h9 tk9 F9 N9; (try dsimp only); (try k_fold)))
      | ((k_here; ktr_call (t_least _ _ _) 0; intro x9 t9 e9; subst e9; intro h9 tk9 F9 N9; (try dsimp only); (try k_fold)))
      | ((k_here; ktr_call (t_is_signed _ _ _) 0; intro b9 e9; subst e9; intro h9 tk9 F9 N9; (try dsimp only); (try k_fold))))
   | walk1
   | (dsimp only; walk1)
   | (leave1; walk_say "STEP leave1"; (try dsimp only))
   | fail "no step")
  · exact hret _ _ _ _ rfl rfl (by assumption) _ _ (by k_asm) (by k_asm)
theorem t_shl (news : List (Addr × Obj)) (k : Kd) (n : Int) (t t' : Tok) (ot : Tok) (many : Int) (mt : Tok) :
    Tell PySem.Challenge.rw_ot0001_01.row.prog w (Mine.hd.heap_39 w.params) Mine.hd.view_39 loose mean mg mb 64 4 32 news [.str k.str t, .str (Str.ofString "<<") ot, .int n t', .int many mt]
      (fun ret => ∀ D x t b, x = k.wrap (n * 2 ^ (many.fmod k.bits).toNat) → b = (!(decide (0 ≤ many) && decide (many < k.bits))) → (∀ p ∈ news, p.1 < D) → ret (.ref D) ((D, { cls := .type "tuple", data := .seq #[.int x t, .bool b] }) :: news)) := by
  k_fill
  unfold Tell
  intro dp un gd cn cs a ccd cl outer A₀ base h₀ L m s Q E B F X N T hk hd hu hret
  have hb := k.bits_le
  have hp := fmod_bits k many
  have hm := mulok_pow n (p := (many.fmod k.bits).toNat) (by omega)
  refine wpAny_call ?_
  k_dflt cell_enter
  repeat' (first
   | (k_unfold; (try dsimp only))
   | (k_end; kc_close)
   | (with_reducible first
    | ((with_reducible show wpAny _ _ (subscriptTail _ _ (Value.ref _) _) _ _ _); first
      | ((k_here; k_dflt (refine' bits_item _ _ ?k1 ?k2 ?_; (case k1 => k_asm); (case k2 => k_asm)); intro t9)))
    | ((with_reducible show wpAny _ _ (call (Value.ref _) _) _ _ _); first
      | ((k_here; ktr_call (t_negated _ _ _ _ _) 0; intro D9 x9 t9 b9 e9 f9 l9; subst e9; subst f9; intro h9 tk9 F9 N9; (try k_lt l9); (try dsimp only); (try k_fold)))
      | ((k_here; ktr_call (t_inverted _ _ _ _ _) 0; intro x9 t9 e9; subst e9; intro h9 tk9 F9 N9; (try dsimp only); (try k_fold)))
      | ((k_here; ktr_call (t_cast_int _ _ _ _ _) 0; intro x9 t9 e9; subst e9; intro h9 tk9 F9 N9; (try dsimp only); (try k_fold)))
      | ((k_here; ktr_call (t_wrapped _ _ _ _ _) 0; intro x9 t9 e9; subst e9; intro h9 tk9 F9 N9; (try dsimp only); (try k_fold)))
      | ((k_here; ktr_call (t_fits _ _ _ _ _) 0; intro b9 e9; subst e9; intro h9 tk9 F9 N9; (try dsimp only); (try k_fold)))
      | ((k_here; ktr_call (t_greatest _ _ _) 0; intro x9 t9 e9; subst e9; intro h9 tk9 F9 N9; (try dsimp only); (try k_fold)))
      | ((k_here; ktr_call (t_least _ _ _) 0; intro x9 t9 e9; subst e9; intro h9 tk9 F9 N9; (try dsimp only); (try k_fold)))
      | ((k_here; ktr_call (t_is_signed _ _ _) 0; intro b9 e9; subst e9; intro h9 tk9 F9 N9; (try dsimp only); (try k_fold)))))
   | ((with_reducible show wpAny _ _ (subscriptTail _ _ (Value.ref _) _) _ _ _); first
      | ((k_here; k_dflt (refine' bits_item _ _ ?k1 ?k2 ?_; (case k1 => k_asm); (case k2 => k_asm)); intro t9)))
   | ((with_reducible show wpAny _ _ (call (Value.ref _) _) _ _ _); first
      | ((k_here; ktr_call (t_negated _ _ _ _ _) 0; intro D9 x9 t9 b9 e9 f9 l9; subst e9; subst f9; intro h9 tk9 F9 N9; (try k_lt l9); (try dsimp only); (try k_fold)))
      | ((k_here; ktr_call (t_inverted _ _ _ _ _) 0; intro x9 t9 e9; subst e9; intro h9 tk9 F9 N9; (try dsimp only); (try k_fold)))
      | ((k_here; ktr_call (t_cast_int _ _ _ _ _) 0; intro x9 t9 e9; subst e9; intro h9 tk9 F9 N9; (try dsimp only); (try k_fold)))
      | ((k_here; ktr_call (t_wrapped _ _ _ _ _) 0; intro x9 t9 e9; subst e9; intro h9 tk9 F9 N9; (try dsimp only); (try k_fold)))
      | ((k_here; ktr_call (t_fits _ _ _ _ _) 0; intro b9 e9; subst e9; intro h9 tk9 F9 N9; (try dsimp only); (try k_fold)))
      | ((k_here; ktr_call (t_greatest _ _ _) 0; intro x9 t9 e9; subst e9; intro h9 tk9 F9 N9; (try dsimp only); (try k_fold)))
      | ((k_here; ktr_call (t_least _ _ _) 0; intro x9 t9 e9; subst e9; intro h9 tk9 F9 N9; (try dsimp only); (try k_fold)))
      | ((k_here; ktr_call (t_is_signed _ _ _) 0; intro b9 e9; subst e9; intro h9 tk9 F9 N9; (try dsimp only); (try k_fold))))
   | walk1
   | (dsimp only; walk1)
   | (leave1; walk_say "STEP leave1"; (try dsimp only))
   | fail "no step")
  · exact hret _ _ _ _ rfl (over_1 (by assumption)) (by assumption) _ _ (by k_asm) (by k_asm)
  · exact hret _ _ _ _ rfl (over_2 (by assumption)) (by assumption) _ _ (by k_asm) (by k_asm)
theorem t_shr (news : List (Addr × Obj)) (k : Kd) (n : Int) (t t' : Tok) (ot : Tok) (many : Int) (mt : Tok) :
    Tell PySem.Challenge.rw_ot0001_01.row.prog w (Mine.hd.heap_39 w.params) Mine.hd.view_39 loose mean mg mb 64 4 32 news [.str k.str t, .str (Str.ofString ">>") ot, .int n t', .int many mt]
      (fun ret => ∀ D x t b, x = k.wrap (n / 2 ^ (many.fmod k.bits).toNat) → b = (!(decide (0 ≤ many) && decide (many < k.bits))) → (∀ p ∈ news, p.1 < D) → ret (.ref D) ((D, { cls := .type "tuple", data := .seq #[.int x t, .bool b] }) :: news)) := by
  k_fill
  unfold Tell
  intro dp un gd cn cs a ccd cl outer A₀ base h₀ L m s Q E B F X N T hk hd hu hret
  have hb := k.bits_le
  have hp := fmod_bits k many
  have hm := nopylong_pow n (p := (many.fmod k.bits).toNat) (by omega)
  have hm2 := two_pow_ne (many.fmod k.bits).toNat
  refine wpAny_call ?_
  k_dflt cell_enter
  repeat' (first
   | (k_unfold; (try dsimp only))
   | (k_end; kc_close)
   | (with_reducible first
    | ((with_reducible show wpAny _ _ (subscriptTail _ _ (Value.ref _) _) _ _ _); first
      | ((k_here; k_dflt (refine' bits_item _ _ ?k1 ?k2 ?_; (case k1 => k_asm); (case k2 => k_asm)); intro t9)))
    | ((with_reducible show wpAny _ _ (call (Value.ref _) _) _ _ _); first
      | ((k_here; ktr_call (t_negated _ _ _ _ _) 0; intro D9 x9 t9 b9 e9 f9 l9; subst e9; subst f9; intro h9 tk9 F9 N9; (try k_lt l9); (try dsimp only); (try k_fold)))
      | ((k_here; ktr_call (t_inverted _ _ _ _ _) 0; intro x9 t9 e9; subst e9; intro h9 tk9 F9 N9; (try dsimp only); (try k_fold)))
      | ((k_here; ktr_call (t_cast_int _ _ _ _ _) 0; intro x9 t9 e9; subst e9; intro h9 tk9 F9 N9; (try dsimp only); (try k_fold)))
      | ((k_here; ktr_call (t_wrapped _ _ _ _ _) 0; intro x9 t9 e9; subst e9; intro h9 tk9 F9 N9; (try dsimp only); (try k_fold)))
      | ((k_here; ktr_call (t_fits _ _ _ _ _) 0; intro b9 e9; subst e9; intro h9 tk9 F9 N9; (try dsimp only); (try k_fold)))
      | ((k_here; ktr_call (t_greatest _ _ _) 0; intro x9 t9 e9; subst e9; intro h9 tk9 F9 N9; (try dsimp only); (try k_fold)))
      | ((k_here; ktr_call (t_least _ _ _) 0; intro x9 t9 e9; subst e9; intro h9 tk9 F9 N9; (try dsimp only); (try k_fold)))
      | ((k_here; ktr_call (t_is_signed _ _ _) 0; intro b9 e9; subst e9; intro h9 tk9 F9 N9; (try dsimp only); (try k_fold)))))
   | ((with_reducible show wpAny _ _ (subscriptTail _ _ (Value.ref _) _) _ _ _); first
      | ((k_here; k_dflt (refine' bits_item _ _ ?k1 ?k2 ?_; (case k1 => k_asm); (case k2 => k_asm)); intro t9)))
   | ((with_reducible show wpAny _ _ (call (Value.ref _) _) _ _ _); first
      | ((k_here; ktr_call (t_negated _ _ _ _ _) 0; intro D9 x9 t9 b9 e9 f9 l9; subst e9; subst f9; intro h9 tk9 F9 N9; (try k_lt l9); (try dsimp only); (try k_fold)))
      | ((k_here; ktr_call (t_inverted _ _ _ _ _) 0; intro x9 t9 e9; subst e9; intro h9 tk9 F9 N9; (try dsimp only); (try k_fold)))
      | ((k_here; ktr_call (t_cast_int _ _ _ _ _) 0; intro x9 t9 e9; subst e9; intro h9 tk9 F9 N9; (try dsimp only); (try k_fold)))
      | ((k_here; ktr_call (t_wrapped _ _ _ _ _) 0; intro x9 t9 e9; subst e9; intro h9 tk9 F9 N9; (try dsimp only); (try k_fold)))
      | ((k_here; ktr_call (t_fits _ _ _ _ _) 0; intro b9 e9; subst e9; intro h9 tk9 F9 N9; (try dsimp only); (try k_fold)))
      | ((k_here; ktr_call (t_greatest _ _ _) 0; intro x9 t9 e9; subst e9; intro h9 tk9 F9 N9; (try dsimp only); (try k_fold)))
      | ((k_here; ktr_call (t_least _ _ _) 0; intro x9 t9 e9; subst e9; intro h9 tk9 F9 N9; (try dsimp only); (try k_fold)))
      | ((k_here; ktr_call (t_is_signed _ _ _) 0; intro b9 e9; subst e9; intro h9 tk9 F9 N9; (try dsimp only); (try k_fold))))
   | walk1
   | (dsimp only; walk1)
   | (leave1; walk_say "STEP leave1"; (try dsimp only))
   | fail "no step")
  · exact hret _ _ _ _ (wrap_fdiv _ _ _) (over_1 (by assumption)) (by assumption) _ _ (by k_asm) (by k_asm)
  · exact hret _ _ _ _ (wrap_fdiv _ _ _) (over_2 (by assumption)) (by assumption) _ _ (by k_asm) (by k_asm)
end
end
section
section
variable {w : World} {loose : List Str} {mean : ExcName → Option Value} {mg mb : Str → Option Value}
theorem t_width (news : List (Addr × Obj)) (k : Kd) (t : Tok) :
    Tell PySem.Challenge.rw_ot0001_01.row.prog w (Mine.hd.heap_39 w.params) Mine.hd.view_39 loose mean mg mb 113 1 8 news [.str k.str t] (fun ret => ∀ x t, x = (k.bits : Int) → ret (.int x t) news) := by
  w_top off
  k_fill
  unfold Tell
  intro dp un gd cn cs a ccd cl outer A₀ base h₀ L m s Q E B F X N T hk hd hu hret
  cases k
  all_goals
    dsimp only [Kd.str, Kd.bits] at *
    refine wpAny_call ?_
    k_dflt cell_enter
    k_steps
  all_goals exact hret _ _ (by decide) _ _ (by k_asm) (by k_asm)
theorem t_cast0 (news : List (Addr × Obj)) (l : Addr) (vs : List Value) (nn : Nat) (ns ws : List Int) (hi : IntsAre vs ns) (k k2 : Kd) (hl : ns.length = k.bits) (hw : castK k k2 ns = ws) (t t2 : Tok) :
    Tell PySem.Challenge.rw_ot0001_01.row.prog w (Mine.hd.heap_39 w.params) Mine.hd.view_39 loose mean mg mb 134 2 16 ((l, listOf vs.toArray nn) :: news) [.ref l, .str k.str t, .str k2.str t2]
      (fun ret => ∀ D us n, IntsAre us ws → ret (.ref D) ((D, listOf us.toArray n) :: news)) := by
  k_fill
  unfold Tell
  intro dp un gd cn cs a ccd cl outer A₀ base h₀ L m s Q E B F X N T hk hd hu hret
  have hkl := k.len
  have hi2 := hi.length
  have hb := k.bits_le
  have hb2 := k2.bits_le
  refine wpAny_call ?_
  k_dflt cell_enter
  repeat' (first
   | (k_unfold; (try dsimp only))
   | (k_end; kc_close)
   | (with_reducible first
    | ((with_reducible show wpAny _ _ (subscriptTail _ _ (Value.ref _) _) _ _ _); first
      | ((k_here; k_dflt (refine' bits_item _ _ ?k1 ?k2 ?_; (case k1 => k_asm); (case k2 => k_asm)); intro t9)))
    | ((with_reducible show wpAny _ _ (call (Value.ref _) _) _ _ _); first
      | ((k_here; ktr_call (t_width _ _ _) 0; intro x9 t9 e9; subst e9; intro h9 tk9 F9 N9; (try dsimp only); (try k_fold)))))
   | ((with_reducible show wpAny _ _ (subscriptTail _ _ (Value.ref _) _) _ _ _); first
      | ((k_here; k_dflt (refine' bits_item _ _ ?k1 ?k2 ?_; (case k1 => k_asm); (case k2 => k_asm)); intro t9)))
   | ((with_reducible show wpAny _ _ (call (Value.ref _) _) _ _ _); first
      | ((k_here; ktr_call (t_width _ _ _) 0; intro x9 t9 e9; subst e9; intro h9 tk9 F9 N9; (try dsimp only); (try k_fold))))
   | walk1
   | (dsimp only; walk1)
   | (leave1; walk_say "STEP leave1"; (try dsimp only))
   | fail "no step")
  · (rename News _ _ _ _ => kN9); (rename IntsAre _ _ => hI9)
    exact hret _ _ _ (cast_1 (by assumption) hI9 hw) _ _ (by k_asm) (drop1 (b := [_, _, _, _, _]) kN9)
  · (rename News _ _ _ _ => kN9); (rename IntsAre _ _ => hI9)
    exact hret _ _ _ (cast_2 (by assumption) hI9 hw) _ _ (by k_asm) (drop1 (b := [_, _, _, _, _]) kN9)
theorem t_cast (news : List (Addr × Obj)) (l : Addr) (vs : List Value) (nn : Nat) (n : Int) (k k2 : Kd) (hm : (l, listOf vs.toArray nn) ∈ news) (hi : IntsAre vs (rowOf n k.bits)) (h1 : k.lo ≤ n) (h2 : n ≤ k.hi) (t t2 : Tok) :
    Tell PySem.Challenge.rw_ot0001_01.row.prog w (Mine.hd.heap_39 w.params) Mine.hd.view_39 loose mean mg mb 134 2 16 news [.ref l, .str k.str t, .str k2.str t2]
      (fun ret => ∀ D us n', IntsAre us (rowOf n k2.bits) → ret (.ref D) ((D, listOf us.toArray n') :: news)) :=
  (t_cast0 news l vs nn _ _ hi k k2 (rowOf_len _ _) (cast_is h1 h2) t t2).sub (fun p hp => (List.mem_cons.mp hp).elim (fun e => e ▸ hm) id) fun _ _ h => h
theorem t_mshl0 (news : List (Addr × Obj)) (l : Addr) (vs : List Value) (nn : Nat) (ns ws : List Int) (hi : IntsAre vs ns) (k : Kd) (hl : ns.length = k.bits) (many : Int)
    (hw : ∀ us, IntsAre us ((List.replicate (many.fmod (ns.length : Int)).toNat [0]).flatten ++ List.take ((ns.length : Int) - many.fmod (ns.length : Int)).toNat ns) → IntsAre us ws) (t t2 t3 : Tok) :
    Tell PySem.Challenge.rw_ot0001_01.row.prog w (Mine.hd.heap_39 w.params) Mine.hd.view_39 loose mean mg mb 141 2 16 ((l, listOf vs.toArray nn) :: news) [.ref l, .str k.str t, .str (Str.ofString "<<") t2, .int many t3]
      (fun ret => ∀ D us n, IntsAre us ws → ret (.ref D) ((D, listOf us.toArray n) :: news)) := by
  k_fill
  unfold Tell
  intro dp un gd cn cs a ccd cl outer A₀ base h₀ L m s Q E B F X N T hk hd hu hret
  have hkl := k.len
  have hi2 := hi.length
  have hb := k.bits_le
  have hp := fmod_len k many hl
  refine wpAny_call ?_
  k_dflt cell_enter
  repeat' (first
   | (k_unfold; (try dsimp only))
   | (k_end; kc_close)
   | (with_reducible first
    | ((with_reducible show wpAny _ _ (subscriptTail _ _ (Value.ref _) _) _ _ _); first
      | ((k_here; k_dflt (refine' bits_item _ _ ?k1 ?k2 ?_; (case k1 => k_asm); (case k2 => k_asm)); intro t9)))
    | ((with_reducible show wpAny _ _ (call (Value.ref _) _) _ _ _); first
      | ((k_here; ktr_call (t_width _ _ _) 0; intro x9 t9 e9; subst e9; intro h9 tk9 F9 N9; (try dsimp only); (try k_fold)))))
   | ((with_reducible show wpAny _ _ (subscriptTail _ _ (Value.ref _) _) _ _ _); first
      | ((k_here; k_dflt (refine' bits_item _ _ ?k1 ?k2 ?_; (case k1 => k_asm); (case k2 => k_asm)); intro t9)))
   | ((with_reducible show wpAny _ _ (call (Value.ref _) _) _ _ _); first
      | ((k_here; ktr_call (t_width _ _ _) 0; intro x9 t9 e9; subst e9; intro h9 tk9 F9 N9; (try dsimp only); (try k_fold))))
   | walk1
   | (dsimp only; walk1)
   | (leave1; walk_say "STEP leave1"; (try dsimp only))
   | fail "no step")
  · (rename News _ _ _ _ => kN9); (rename IntsAre _ _ => hI9)
    exact hret _ _ _ (hw _ hI9) _ _ (by k_asm) (drop1 (b := [_, _, _, _]) kN9)
theorem t_mshl (news : List (Addr × Obj)) (l : Addr) (vs : List Value) (nn : Nat) (n : Int) (k : Kd) (hm : (l, listOf vs.toArray nn) ∈ news) (hi : IntsAre vs (rowOf n k.bits)) (many : Int) (t t2 t3 : Tok) :
    Tell PySem.Challenge.rw_ot0001_01.row.prog w (Mine.hd.heap_39 w.params) Mine.hd.view_39 loose mean mg mb 141 2 16 news [.ref l, .str k.str t, .str (Str.ofString "<<") t2, .int many t3]
      (fun ret => ∀ D us n', IntsAre us (rowOf (n * 2 ^ (many.fmod k.bits).toNat) k.bits) → ret (.ref D) ((D, listOf us.toArray n') :: news)) :=
  (t_mshl0 news l vs nn _ _ hi k (rowOf_len _ _) many (fun _ h => shl_is h) t t2 t3).sub (fun p hp => (List.mem_cons.mp hp).elim (fun e => e ▸ hm) id) fun _ _ h => h
theorem t_mshr0 (news : List (Addr × Obj)) (l : Addr) (vs : List Value) (nn : Nat) (ns ws : List Int) (hi : IntsAre vs ns) (k : Kd) (hl : ns.length = k.bits) (many : Int)
    (hw : ∀ us f, f = fillK k ns → IntsAre us (List.drop (many.fmod (ns.length : Int)).toNat ns ++ (List.replicate (many.fmod (ns.length : Int)).toNat [f]).flatten) → IntsAre us ws) (t t2 t3 : Tok) :
    Tell PySem.Challenge.rw_ot0001_01.row.prog w (Mine.hd.heap_39 w.params) Mine.hd.view_39 loose mean mg mb 141 2 16 ((l, listOf vs.toArray nn) :: news) [.ref l, .str k.str t, .str (Str.ofString ">>") t2, .int many t3]
      (fun ret => ∀ D us n, IntsAre us ws → ret (.ref D) ((D, listOf us.toArray n) :: news)) := by
  k_fill
  unfold Tell
  intro dp un gd cn cs a ccd cl outer A₀ base h₀ L m s Q E B F X N T hk hd hu hret
  have hkl := k.len
  have hi2 := hi.length
  have hb := k.bits_le
  have hp := fmod_len k many hl
  refine wpAny_call ?_
  k_dflt cell_enter
  repeat' (first
   | (k_unfold; (try dsimp only))
   | (k_end; kc_close)
   | (with_reducible first
    | ((with_reducible show wpAny _ _ (subscriptTail _ _ (Value.ref _) _) _ _ _); first
      | ((k_here; k_dflt (refine' bits_item _ _ ?k1 ?k2 ?_; (case k1 => k_asm); (case k2 => k_asm)); intro t9)))
    | ((with_reducible show wpAny _ _ (call (Value.ref _) _) _ _ _); first
      | ((k_here; ktr_call (t_width _ _ _) 0; intro x9 t9 e9; subst e9; intro h9 tk9 F9 N9; (try dsimp only); (try k_fold)))))
   | ((with_reducible show wpAny _ _ (subscriptTail _ _ (Value.ref _) _) _ _ _); first
      | ((k_here; k_dflt (refine' bits_item _ _ ?k1 ?k2 ?_; (case k1 => k_asm); (case k2 => k_asm)); intro t9)))
   | ((with_reducible show wpAny _ _ (call (Value.ref _) _) _ _ _); first
      | ((k_here; ktr_call (t_width _ _ _) 0; intro x9 t9 e9; subst e9; intro h9 tk9 F9 N9; (try dsimp only); (try k_fold))))
   | walk1
   | (dsimp only; walk1)
   | (leave1; walk_say "STEP leave1"; (try dsimp only))
   | fail "no step")
  · (rename News _ _ _ _ => kN9); (rename IntsAre _ _ => hI9)
    exact hret _ _ _ (hw _ _ (fill_1 (by assumption)) hI9) _ _ (by k_asm) (drop1 (b := [_, _, _, _]) kN9)
  · (rename News _ _ _ _ => kN9); (rename IntsAre _ _ => hI9)
    exact hret _ _ _ (hw _ _ (fill_2 (by assumption)) hI9) _ _ (by k_asm) (drop1 (b := [_, _, _, _]) kN9)
theorem t_mshr (news : List (Addr × Obj)) (l : Addr) (vs : List Value) (nn : Nat) (n : Int) (k : Kd) (hm : (l, listOf vs.toArray nn) ∈ news) (hi : IntsAre vs (rowOf n k.bits)) (h1 : k.lo ≤ n) (h2 : n ≤ k.hi) (many : Int) (t t2 t3 : Tok) :
    Tell PySem.Challenge.rw_ot0001_01.row.prog w (Mine.hd.heap_39 w.params) Mine.hd.view_39 loose mean mg mb 141 2 16 news [.ref l, .str k.str t, .str (Str.ofString ">>") t2, .int many t3]
      (fun ret => ∀ D us n', IntsAre us (rowOf (n / 2 ^ (many.fmod k.bits).toNat) k.bits) → ret (.ref D) ((D, listOf us.toArray n') :: news)) :=
  (t_mshr0 news l vs nn _ _ hi k (rowOf_len _ _) many (fun _ _ hf h => shr_is h1 h2 hf h) t t2 t3).sub (fun p hp => (List.mem_cons.mp hp).elim (fun e => e ▸ hm) id) fun _ _ h => h
end
section
variable {w : World} {loose : List Str} {mean : ExcName → Option Value} {mg mb : Str → Option Value}
local macro_rules | `(tactic| walk_at "exec For Name Subscript cons nil") => `(tactic| (k_here; (rename Fr _ _ _ _ => lF'); (with_unfolding_all refine' For_invVF lF' ?k1 ?k2 ?_; (case k1 => exact rfl); (case k2 => exact rfl); k_whole)))
theorem t_value0 (news : List (Addr × Obj)) (l : Addr) (vs : List Value) (nn : Nat) (ns : List Int) (hi : IntsAre vs ns) (k : Kd) (hl : ns.length = k.bits) (t : Tok) (z : Int) (hz : valK k ns = z) :
    Tell PySem.Challenge.rw_ot0001_01.row.prog w (Mine.hd.heap_39 w.params) Mine.hd.view_39 loose mean mg mb 127 1 8 ((l, listOf vs.toArray nn) :: news) [.ref l, .str k.str t] (fun ret => ∀ x t, x = z → ret (.int x t) news) := by
  k_fill
  unfold Tell
  intro dp un gd cn cs a ccd cl outer A₀ base h₀ L m s Q E B F X N T hk hd hu hret
  have hkl := k.len
  have hi2 := hi.length
  have hb := k.bits_le
  refine wpAny_call ?_
  k_dflt cell_enter
  repeat' (first
   | (k_unfold; (try dsimp only))
   | (k_end; kc_close)
   | (with_reducible first
    | ((with_reducible show wpAny _ _ (pyIter (Value.ref _)) _ _ _); first
      | ((k_here; (with_reducible show wpAny _ _ (pyIter (Value.ref _)) (fun it s₂ => LoopAtV _ _ _ _ _ _ _ _ _ it s₂) _ _); (rename Fr _ _ _ _ => lF'); (rename News _ _ _ _ => lN'); (with_unfolding_all refine' iter_acc1L (y := Str.ofString "found") (fun a k => 2 * a + k) (by decide) (by rfl) (by k_mem) (by first | assumption | l_ints) lF' lN' ⟨_, by rfl⟩ (fun n' t' a' ta' h' tk' own' hmem' hoff' F' N' => ?_) (fun u' t' h' tk' F' N' => ?_)); (all_goals (try clear lF' lN')); (all_goals (try k_fold)))))
    | ((with_reducible show InvEndN ..); first
      | (((rename News _ _ _ _ => nE'); (refine InvEndN.intro (by assumption) nE' ⟨rfl, ⟨_, by rfl⟩, by k_same2⟩ (by rfl) (fun p hp => List.mem_append.mpr (Or.inl hp)) (fun p hp => List.mem_append.mpr (Or.inr hp)))))))
   | ((with_reducible show wpAny _ _ (pyIter (Value.ref _)) _ _ _); first
      | ((k_here; (with_reducible show wpAny _ _ (pyIter (Value.ref _)) (fun it s₂ => LoopAtV _ _ _ _ _ _ _ _ _ it s₂) _ _); (rename Fr _ _ _ _ => lF'); (rename News _ _ _ _ => lN'); (with_unfolding_all refine' iter_acc1L (y := Str.ofString "found") (fun a k => 2 * a + k) (by decide) (by rfl) (by k_mem) (by first | assumption | l_ints) lF' lN' ⟨_, by rfl⟩ (fun n' t' a' ta' h' tk' own' hmem' hoff' F' N' => ?_) (fun u' t' h' tk' F' N' => ?_)); (all_goals (try clear lF' lN')); (all_goals (try k_fold)))))
   | ((with_reducible show InvEndN ..); first
      | (((rename News _ _ _ _ => nE'); (refine InvEndN.intro (by assumption) nE' ⟨rfl, ⟨_, by rfl⟩, by k_same2⟩ (by rfl) (fun p hp => List.mem_append.mpr (Or.inl hp)) (fun p hp => List.mem_append.mpr (Or.inr hp))))))
   | walk1
   | (dsimp only; walk1)
   | (leave1; walk_say "STEP leave1"; (try dsimp only))
   | fail "no step")
  · (rename News _ _ _ _ => kN9)
    exact hret _ _ ((val_1 (by assumption) (by assumption)).trans hz) _ _ (by k_asm) (fun p hp => kN9 p (.tail _ (.tail _ hp)))
  · (rename News _ _ _ _ => kN9)
    exact hret _ _ ((val_2 (by assumption)).trans hz) _ _ (by k_asm) (fun p hp => kN9 p (.tail _ (.tail _ hp)))
  · (rename News _ _ _ _ => kN9)
    exact hret _ _ ((val_3 (by assumption)).trans hz) _ _ (by k_asm) (fun p hp => kN9 p (.tail _ (.tail _ hp)))
theorem t_value (news : List (Addr × Obj)) (l : Addr) (vs : List Value) (nn : Nat) (n : Int) (k : Kd) (hm : (l, listOf vs.toArray nn) ∈ news) (hi : IntsAre vs (rowOf n k.bits)) (t : Tok) :
    Tell PySem.Challenge.rw_ot0001_01.row.prog w (Mine.hd.heap_39 w.params) Mine.hd.view_39 loose mean mg mb 127 1 8 news [.ref l, .str k.str t] (fun ret => ∀ x t, x = k.wrap n → ret (.int x t) news) :=
  (t_value0 news l vs nn _ hi k (rowOf_len _ _) t _ (val_row k n)).sub (fun p hp => (List.mem_cons.mp hp).elim (fun e => e ▸ hm) id) fun _ _ h => h
end
section
variable {w : World} {loose : List Str} {mean : ExcName → Option Value} {mg mb : Str → Option Value}
local macro_rules | `(tactic| k_all) => `(tactic| assumption)
theorem t_row (news : List (Addr × Obj)) (n : Int) (t : Tok) (b : Nat) (t' : Tok) (hb : b ≤ 64) :
    Tell PySem.Challenge.rw_ot0001_01.row.prog w (Mine.hd.heap_39 w.params) Mine.hd.view_39 loose mean mg mb 120 1 8 news [.int n t, .int b t'] (fun ret => ∀ D us n', IntsAre us (rowOf n b) → (∀ p ∈ news, p.1 < D) → ret (.ref D) ((D, listOf us.toArray n') :: news)) := by
  k_fill
  unfold Tell
  intro dp un gd cn cs a ccd cl outer A₀ base h₀ L m s Q E B F X N T hk hd hu hret
  refine wpAny_call ?_
  k_dflt cell_enter
  repeat' (first
   | (k_unfold; (try dsimp only))
   | (k_end; kc_close)
   | (with_reducible first
    | ((with_reducible show wpAny _ _ (pyIter (Value.ref _)) _ _ _); first
      | ((k_here; (with_reducible show wpAny _ _ (pyIter (Value.ref _)) (fun it s₂ => LoopAtV _ _ _ _ _ _ _ _ _ it s₂) _ _); (rename Fr _ _ _ _ => lF'); (rename News _ _ _ _ => lN'); (rename IsRange _ _ _ _ _ _ _ _ => rgX); (with_unfolding_all refine' iter_rangeNL (y := Str.ofString "number") (fun c => (c - c.fmod 2).fdiv 2) (fun c => c.fmod 2) (by rfl) rgX (by first | exact small_one (by l_bnd) (by l_bnd) (by l_bnd) (by l_bnd) | decide) (by first | exact rangeSize_nat _ _ | rfl) lF' lN' (by assumption) ⟨_, by rfl⟩ (fun k' t' c' ta' us' as' nn' h' tk' own' hlen' hne' hI' F' N' => ?_) (fun u' c' t' us' nn' h' tk' hI' F' N' => ?_)); (all_goals (try clear lF' lN')); (all_goals (try k_fold)))))
    | ((with_reducible show InvEndN ..); first
      | (((rename News _ _ _ _ => nE'); (rename IntsAre _ _ => iE'); (try simp only [List.push_toArray] at nE'); (refine InvEndN.intro (by assumption) nE' ⟨⟨_, _, rfl, IntsAre.append iE' (.cons _ _ .nil)⟩, ⟨_, by rfl⟩, by k_same2⟩ (by rfl) (fun p hp => (List.mem_cons.mp hp).elim (fun e => e ▸ .head _) fun e => .tail _ (List.mem_append.mpr (Or.inl e))) (fun p hp => .tail _ (List.mem_append.mpr (Or.inr hp))))))))
   | ((with_reducible show wpAny _ _ (pyIter (Value.ref _)) _ _ _); first
      | ((k_here; (with_reducible show wpAny _ _ (pyIter (Value.ref _)) (fun it s₂ => LoopAtV _ _ _ _ _ _ _ _ _ it s₂) _ _); (rename Fr _ _ _ _ => lF'); (rename News _ _ _ _ => lN'); (rename IsRange _ _ _ _ _ _ _ _ => rgX); (with_unfolding_all refine' iter_rangeNL (y := Str.ofString "number") (fun c => (c - c.fmod 2).fdiv 2) (fun c => c.fmod 2) (by rfl) rgX (by first | exact small_one (by l_bnd) (by l_bnd) (by l_bnd) (by l_bnd) | decide) (by first | exact rangeSize_nat _ _ | rfl) lF' lN' (by assumption) ⟨_, by rfl⟩ (fun k' t' c' ta' us' as' nn' h' tk' own' hlen' hne' hI' F' N' => ?_) (fun u' c' t' us' nn' h' tk' hI' F' N' => ?_)); (all_goals (try clear lF' lN')); (all_goals (try k_fold)))))
   | ((with_reducible show InvEndN ..); first
      | (((rename News _ _ _ _ => nE'); (rename IntsAre _ _ => iE'); (try simp only [List.push_toArray] at nE'); (refine InvEndN.intro (by assumption) nE' ⟨⟨_, _, rfl, IntsAre.append iE' (.cons _ _ .nil)⟩, ⟨_, by rfl⟩, by k_same2⟩ (by rfl) (fun p hp => (List.mem_cons.mp hp).elim (fun e => e ▸ .head _) fun e => .tail _ (List.mem_append.mpr (Or.inl e))) (fun p hp => .tail _ (List.mem_append.mpr (Or.inr hp)))))))
   | walk1
   | (dsimp only; walk1)
   | (leave1; walk_say "STEP leave1"; (try dsimp only))
   | fail "no step")
  · (rename News _ _ _ _ => kN9); (rename IntsAre _ _ => hI9)
    rw [nlRun_row, show ((b : Int) - 0).toNat = b by omega] at hI9
    exact hret _ _ _ hI9 (by assumption) _ _ (by k_asm) kN9
end
end
section
section
section
variable {w : World} {loose : List Str} {mean : ExcName → Option Value} {mg mb : Str → Option Value}
theorem t_kinds (news : List (Addr × Obj)) :
    Tell PySem.Challenge.rw_ot0001_01.row.prog w (Mine.hd.heap_39 w.params) Mine.hd.view_39 loose mean mg mb 106 1 8 news [] (fun ret => ∀ D t1 t2 t3 t4 t5 t6 t7 t8 t9, (∀ p ∈ news, p.1 < D) →
      ret (.ref D) ((D, listOf #[.str (Kd.str .i8) t1, .str (Kd.str .i16) t2, .str (Kd.str .i32) t3, .str (Kd.str .i64) t4, .str (Kd.str .u8) t5, .str (Kd.str .u16) t6, .str (Kd.str .u32) t7, .str (Kd.str .u64) t8, .str (Kd.str .us) t9] 0) :: news)) := by
  w_top off
  k_fill
  unfold Tell
  intro dp un gd cn cs a ccd cl outer A₀ base h₀ L m s Q E B F X N T hk hd hu hret
  refine wpAny_call ?_
  k_dflt cell_enter
  repeat' (first
   | (k_unfold; (try dsimp only))
   | (k_end; kc_close)
   | (with_reducible first
    | ((with_reducible show wpAny _ _ (subscriptTail _ _ (Value.ref _) _) _ _ _); first
      | ((k_here; k_dflt (refine' bits_item _ _ ?k1 ?k2 ?_; (case k1 => k_asm); (case k2 => k_asm)); intro t9))))
   | ((with_reducible show wpAny _ _ (subscriptTail _ _ (Value.ref _) _) _ _ _); first
      | ((k_here; k_dflt (refine' bits_item _ _ ?k1 ?k2 ?_; (case k1 => k_asm); (case k2 => k_asm)); intro t9)))
   | walk1
   | (dsimp only; walk1)
   | (leave1; walk_say "STEP leave1"; (try dsimp only))
   | fail "no step")
  · exact hret _ _ _ _ _ _ _ _ _ _ (by assumption) _ _ (by k_asm) (by k_asm)
local macro_rules | `(tactic| walk_at "binaryOp FloorDiv int int") => `(tactic| (k_here; (with_reducible refine' floordiv_int ?kbe ?_ (Or.inl ?kbp)); (case kbe => omega); (case kbp => with_reducible assumption)))
local macro_rules | `(tactic| k_all) => `(tactic| assumption)
theorem t_take (rest : List (Addr × Obj)) (c : Addr) (x y : Int) (tx ty : Tok) (nn : Nat) (hne : ∀ p ∈ rest, p.1 ≠ c) (top : Int) (tt : Tok) (h1 : 0 < top) (h2 : top ≤ 2 ^ 64) (hy : 0 ≤ y ∧ y < 2147483647) :
    Tell PySem.Challenge.rw_ot0001_01.row.prog w (Mine.hd.heap_39 w.params) Mine.hd.view_39 loose mean mg mb 92 1 8 ((c, listOf #[.int x tx, .int y ty] nn) :: rest) [.ref c, .int top tt]
      (fun ret => ∀ d t x' y' tx' ty' nn', 0 ≤ d → d < top → 0 ≤ y' → y' < 2147483647 → ret (.int d t) ((c, listOf #[.int x' tx', .int y' ty'] nn') :: rest)) := by
  k_fill
  unfold Tell
  intro dp un gd cn cs a ccd cl outer A₀ base h₀ L m s Q E B F X N T hk hd hu hret
  have hmul := take_mul y
  have hdiv := take_div x h1 h2
  refine wpAny_call ?_
  k_dflt cell_enter
  repeat' (first
   | (k_unfold; (try dsimp only))
   | (k_end; kc_close)
   | (with_reducible first
    | ((with_reducible show wpAny _ _ (subscriptTail _ _ (Value.ref _) _) _ _ _); first
      | ((k_here; (with_reducible show wpAny _ _ (subscriptTail _ _ (Value.ref _) (Value.int 2 _)) _ _ _); k_dflt (refine' my_item2 ?k1 ?k2 ?_ ?k6; (case k1 => k_asm); (case k2 => k_mem); (case k6 => with_unfolding_all rfl); k_whole)))
      | ((k_here; (with_reducible show wpAny _ _ (subscriptTail _ _ (Value.ref _) (Value.int 1 _)) _ _ _); k_dflt (refine' my_item1 ?k1 ?k2 ?_ ?k6; (case k1 => k_asm); (case k2 => k_mem); (case k6 => with_unfolding_all rfl); k_whole)))
      | ((k_here; (with_reducible show wpAny _ _ (subscriptTail _ _ (Value.ref _) (Value.int 0 _)) _ _ _); k_dflt (refine' my_item0 ?k1 ?k2 ?_ ?k6; (case k1 => k_asm); (case k2 => k_mem); (case k6 => with_unfolding_all rfl); k_whole)))
      | ((k_here; k_dflt (refine' bits_item _ _ ?k1 ?k2 ?_; (case k1 => k_asm); (case k2 => k_asm)); intro t9))))
   | ((with_reducible show wpAny _ _ (subscriptTail _ _ (Value.ref _) _) _ _ _); first
      | ((k_here; (with_reducible show wpAny _ _ (subscriptTail _ _ (Value.ref _) (Value.int 2 _)) _ _ _); k_dflt (refine' my_item2 ?k1 ?k2 ?_ ?k6; (case k1 => k_asm); (case k2 => k_mem); (case k6 => with_unfolding_all rfl); k_whole)))
      | ((k_here; (with_reducible show wpAny _ _ (subscriptTail _ _ (Value.ref _) (Value.int 1 _)) _ _ _); k_dflt (refine' my_item1 ?k1 ?k2 ?_ ?k6; (case k1 => k_asm); (case k2 => k_mem); (case k6 => with_unfolding_all rfl); k_whole)))
      | ((k_here; (with_reducible show wpAny _ _ (subscriptTail _ _ (Value.ref _) (Value.int 0 _)) _ _ _); k_dflt (refine' my_item0 ?k1 ?k2 ?_ ?k6; (case k1 => k_asm); (case k2 => k_mem); (case k6 => with_unfolding_all rfl); k_whole)))
      | ((k_here; k_dflt (refine' bits_item _ _ ?k1 ?k2 ?_; (case k1 => k_asm); (case k2 => k_asm)); intro t9)))
   | walk1
   | (dsimp only; walk1)
   | (leave1; walk_say "STEP leave1"; (try dsimp only))
   | fail "no step")
  · have hd1 := take_mod x h1
    exact hret _ _ _ _ _ _ _ hd1.1 hd1.2 hy.1 hy.2 _ _ (by k_asm) (by k_asm)
  · have hd1 := take_mod ((((y * 39373 + 7).fmod 2147483647 * (y * 39373 + 7).fmod 2147483647).fmod 2147483629).fdiv 32) h1
    have hd2 := take_mod (y * 39373 + 7) (top := 2147483647) (by decide)
    exact hret _ _ _ _ _ _ _ hd1.1 hd1.2 hd2.1 hd2.2 _ _ (by k_asm) (by k_asm)
theorem t_one0 (rest : List (Addr × Obj)) (b c : Addr) (its : Array Value) (mm : Nat) (x y : Int) (tx ty : Tok) (nn : Nat) (hne : ∀ p ∈ (b, listOf its mm) :: rest, p.1 ≠ c) (N : Nat) (hN : its.size = N) (h1 : 0 < N) (h2 : N ≤ 100) (hy : 0 ≤ y ∧ y < 2147483647) :
    Tell PySem.Challenge.rw_ot0001_01.row.prog w (Mine.hd.heap_39 w.params) Mine.hd.view_39 loose mean mg mb 99 2 16 ((c, listOf #[.int x tx, .int y ty] nn) :: (b, listOf its mm) :: rest) [.ref c, .ref b]
      (fun ret => ∀ v x' y' tx' ty' nn', v ∈ its.toList → 0 ≤ y' → y' < 2147483647 → ret v ((c, listOf #[.int x' tx', .int y' ty'] nn') :: (b, listOf its mm) :: rest)) := by
  k_fill
  unfold Tell
  intro dp un gd cn cs a ccd cl outer A₀ base h₀ L m s Q E B F X N' T hk hd hu hret
  refine wpAny_call ?_
  k_dflt cell_enter
  repeat' (first
   | (k_unfold; (try dsimp only))
   | (k_end; kc_close)
   | (with_reducible first
    | ((with_reducible show wpAny _ _ (subscriptTail _ _ (Value.ref _) _) _ _ _); first
      | ((k_here; k_dflt (refine' my_any ?k1 ?k2 ?k3 ?k4 ?k5 ?_ ?k6; (case k1 => k_asm); (case k2 => k_mem); (case k3 => omega); (case k4 => omega); (case k5 => omega); (case k6 => with_unfolding_all rfl); k_whole); intro v9 hv9))
      | ((k_here; (with_reducible show wpAny _ _ (subscriptTail _ _ (Value.ref _) (Value.int 2 _)) _ _ _); k_dflt (refine' my_item2 ?k1 ?k2 ?_ ?k6; (case k1 => k_asm); (case k2 => k_mem); (case k6 => with_unfolding_all rfl); k_whole)))
      | ((k_here; (with_reducible show wpAny _ _ (subscriptTail _ _ (Value.ref _) (Value.int 1 _)) _ _ _); k_dflt (refine' my_item1 ?k1 ?k2 ?_ ?k6; (case k1 => k_asm); (case k2 => k_mem); (case k6 => with_unfolding_all rfl); k_whole)))
      | ((k_here; (with_reducible show wpAny _ _ (subscriptTail _ _ (Value.ref _) (Value.int 0 _)) _ _ _); k_dflt (refine' my_item0 ?k1 ?k2 ?_ ?k6; (case k1 => k_asm); (case k2 => k_mem); (case k6 => with_unfolding_all rfl); k_whole)))
      | ((k_here; k_dflt (refine' bits_item _ _ ?k1 ?k2 ?_; (case k1 => k_asm); (case k2 => k_asm)); intro t9)))
    | ((with_reducible show wpAny _ _ (call (Value.ref _) _) _ _ _); first
      | ((k_here; ktr_call (t_take _ _ _ _ _ _ _ (by assumption) _ _ (by omega) (by omega) (by assumption)) 0; intro d9 t9 x9 y9 u9 v9 n9 hd9 he9 hf9 hg9 h9 tk9 F9 N9; (have hy9 := And.intro hf9 hg9); (try dsimp only); (try k_fold)))))
   | ((with_reducible show wpAny _ _ (subscriptTail _ _ (Value.ref _) _) _ _ _); first
      | ((k_here; k_dflt (refine' my_any ?k1 ?k2 ?k3 ?k4 ?k5 ?_ ?k6; (case k1 => k_asm); (case k2 => k_mem); (case k3 => omega); (case k4 => omega); (case k5 => omega); (case k6 => with_unfolding_all rfl); k_whole); intro v9 hv9))
      | ((k_here; (with_reducible show wpAny _ _ (subscriptTail _ _ (Value.ref _) (Value.int 2 _)) _ _ _); k_dflt (refine' my_item2 ?k1 ?k2 ?_ ?k6; (case k1 => k_asm); (case k2 => k_mem); (case k6 => with_unfolding_all rfl); k_whole)))
      | ((k_here; (with_reducible show wpAny _ _ (subscriptTail _ _ (Value.ref _) (Value.int 1 _)) _ _ _); k_dflt (refine' my_item1 ?k1 ?k2 ?_ ?k6; (case k1 => k_asm); (case k2 => k_mem); (case k6 => with_unfolding_all rfl); k_whole)))
      | ((k_here; (with_reducible show wpAny _ _ (subscriptTail _ _ (Value.ref _) (Value.int 0 _)) _ _ _); k_dflt (refine' my_item0 ?k1 ?k2 ?_ ?k6; (case k1 => k_asm); (case k2 => k_mem); (case k6 => with_unfolding_all rfl); k_whole)))
      | ((k_here; k_dflt (refine' bits_item _ _ ?k1 ?k2 ?_; (case k1 => k_asm); (case k2 => k_asm)); intro t9)))
   | ((with_reducible show wpAny _ _ (call (Value.ref _) _) _ _ _); first
      | ((k_here; ktr_call (t_take _ _ _ _ _ _ _ (by assumption) _ _ (by omega) (by omega) (by assumption)) 0; intro d9 t9 x9 y9 u9 v9 n9 hd9 he9 hf9 hg9 h9 tk9 F9 N9; (have hy9 := And.intro hf9 hg9); (try dsimp only); (try k_fold))))
   | walk1
   | (dsimp only; walk1)
   | (leave1; walk_say "STEP leave1"; (try dsimp only))
   | fail "no step")
  · exact hret _ _ _ _ _ _ (by assumption) (by assumption) (by assumption) _ _ (by k_asm) (by k_asm)
end
end
section
section
variable {w : World} {loose : List Str} {mean : ExcName → Option Value} {mg mb : Str → Option Value}
theorem ne_cons {S c : Addr} {o : Obj} {rest : List (Addr × Obj)} (h : c < S) (hne : ∀ p ∈ rest, p.1 ≠ c) : ∀ p ∈ (S, o) :: rest, p.1 ≠ c := by
  intro p hp
  rcases List.mem_cons.mp hp with e | e
  · rw [e]; exact Nat.ne_of_gt h
  · exact hne p e
theorem numb_s {k : Kd} (h : k.sgn = true) : k.lo = 0 - 2 ^ ((k.bits : Int) - 1).toNat ∧ k.hi = 2 ^ ((k.bits : Int) - 1).toNat - 1 ∧ (2 : Int) ^ ((k.bits : Int)).toNat = 2 * 2 ^ ((k.bits : Int) - 1).toNat ∧ 2 ≤ (2 : Int) ^ ((k.bits : Int) - 1).toNat := by
  revert h; cases k <;> decide
theorem numb_u {k : Kd} (h : k.sgn = false) : k.lo = 0 ∧ k.hi = 2 ^ ((k.bits : Int)).toNat - 1 ∧ 2 ≤ (2 : Int) ^ ((k.bits : Int)).toNat := by
  revert h; cases k <;> decide
theorem pow_fit (k : Kd) : 0 < (2 : Int) ^ ((k.bits : Int)).toNat ∧ (2 : Int) ^ ((k.bits : Int)).toNat ≤ 2 ^ 64 := by
  cases k <;> decide
theorem pick8 {v : Value} {lo hi a b c d e f g h : Int} {t1 t2 t3 t4 t5 t6 t7 t8 : Tok}
    (hv : v ∈ (#[.int a t1, .int b t2, .int c t3, .int d t4, .int e t5, .int f t6, .int g t7, .int h t8] : Array Value).toList)
    (h1 : lo ≤ a ∧ a ≤ hi) (h2 : lo ≤ b ∧ b ≤ hi) (h3 : lo ≤ c ∧ c ≤ hi) (h4 : lo ≤ d ∧ d ≤ hi) (h5 : lo ≤ e ∧ e ≤ hi) (h6 : lo ≤ f ∧ f ≤ hi) (h7 : lo ≤ g ∧ g ≤ hi) (h8 : lo ≤ h ∧ h ≤ hi) :
    ∃ z t, v = .int z t ∧ lo ≤ z ∧ z ≤ hi := by
  simp only [List.mem_cons, List.not_mem_nil, or_false] at hv
  rcases hv with e | e | e | e | e | e | e | e
  · exact ⟨_, _, e, h1⟩
  · exact ⟨_, _, e, h2⟩
  · exact ⟨_, _, e, h3⟩
  · exact ⟨_, _, e, h4⟩
  · exact ⟨_, _, e, h5⟩
  · exact ⟨_, _, e, h6⟩
  · exact ⟨_, _, e, h7⟩
  · exact ⟨_, _, e, h8⟩
theorem t_take2 (rest : List (Addr × Obj)) (b c : Addr) (o : Obj) (x y : Int) (tx ty : Tok) (nn : Nat) (hlt : c < b) (hne : ∀ p ∈ rest, p.1 ≠ c) (top : Int) (tt : Tok) (h1 : 0 < top) (h2 : top ≤ 2 ^ 64) (hy : 0 ≤ y ∧ y < 2147483647) :
    Tell PySem.Challenge.rw_ot0001_01.row.prog w (Mine.hd.heap_39 w.params) Mine.hd.view_39 loose mean mg mb 92 1 8 ((b, o) :: (c, listOf #[.int x tx, .int y ty] nn) :: rest) [.ref c, .int top tt]
      (fun ret => ∀ d t x' y' tx' ty' nn', 0 ≤ d → d < top → 0 ≤ y' → y' < 2147483647 → ret (.int d t) ((c, listOf #[.int x' tx', .int y' ty'] nn') :: (b, o) :: rest)) :=
  (t_take ((b, o) :: rest) c x y tx ty nn (ne_cons hlt hne) top tt h1 h2 hy).sub (fun p hp => by
    rcases List.mem_cons.mp hp with h | h
    · exact .tail _ (h ▸ .head _)
    · rcases List.mem_cons.mp h with h | h
      · exact h ▸ .head _
      · exact .tail _ (.tail _ h)) fun _ _ h => h
theorem t_number0 (rest : List (Addr × Obj)) (c : Addr) (x y : Int) (tx ty : Tok) (nn : Nat) (hne : ∀ p ∈ rest, p.1 ≠ c) (k : Kd) (t : Tok) (hy : 0 ≤ y ∧ y < 2147483647) :
    Tell PySem.Challenge.rw_ot0001_01.row.prog w (Mine.hd.heap_39 w.params) Mine.hd.view_39 loose mean mg mb 148 2 16 ((c, listOf #[.int x tx, .int y ty] nn) :: rest) [.ref c, .str k.str t]
      (fun ret => ∀ z t x' y' tx' ty' nn', k.lo ≤ z → z ≤ k.hi → 0 ≤ y' → y' < 2147483647 → ret (.int z t) ((c, listOf #[.int x' tx', .int y' ty'] nn') :: rest)) := by
  w_top off
  k_fill
  unfold Tell
  intro dp un gd cn cs a ccd cl outer A₀ base h₀ L m s Q E B F X N' T hk hd hu hret
  have hkl := k.len
  have hb := k.bits_le
  obtain ⟨hp1, hp2⟩ := pow_fit k
  refine wpAny_call ?_
  k_dflt cell_enter
  repeat' (first
   | (k_unfold; (try dsimp only))
   | (k_end; kc_close)
   | (with_reducible first
    | ((with_reducible show wpAny _ _ (call (Value.ref _) _) _ _ _); first
      | ((k_here; ktr_call (t_take2 _ _ _ _ _ _ _ _ _ (by first | exact ‹_ ∧ _›.1 | omega) (by assumption) _ _ (by first | assumption | omega) (by first | assumption | omega) (by assumption)) 0; intro d9 t9 x9 y9 u9 v9 n9 hd9 he9 hf9 hg9 h9 tk9 F9 N9; (have hy9 := And.intro hf9 hg9); (try dsimp only); (try k_fold)))
      | ((k_here; ktr_call (t_take _ _ _ _ _ _ _ (by assumption) _ _ (by first | assumption | omega) (by first | assumption | omega) (by assumption)) 0; intro d9 t9 x9 y9 u9 v9 n9 hd9 he9 hf9 hg9 h9 tk9 F9 N9; (have hy9 := And.intro hf9 hg9); (try dsimp only); (try k_fold)))
      | ((k_here; ktr_call (t_width _ _ _) 0; intro x9 t9 e9; subst e9; intro h9 tk9 F9 N9; (try dsimp only); (try k_fold))))
    | ((with_reducible show wpAny _ _ (subscriptTail _ _ (Value.ref _) _) _ _ _); first
      | ((k_here; k_dflt (refine' my_any ?k1 ?k2 ?k3 ?k4 ?k5 ?_ ?k6; (case k1 => k_asm); (case k2 => k_mem); (case k3 => omega); (case k4 => omega); (case k5 => (simp; omega)); (case k6 => with_unfolding_all rfl); k_whole); intro v9 hv9))))
   | ((with_reducible show wpAny _ _ (call (Value.ref _) _) _ _ _); first
      | ((k_here; ktr_call (t_take2 _ _ _ _ _ _ _ _ _ (by first | exact ‹_ ∧ _›.1 | omega) (by assumption) _ _ (by first | assumption | omega) (by first | assumption | omega) (by assumption)) 0; intro d9 t9 x9 y9 u9 v9 n9 hd9 he9 hf9 hg9 h9 tk9 F9 N9; (have hy9 := And.intro hf9 hg9); (try dsimp only); (try k_fold)))
      | ((k_here; ktr_call (t_take _ _ _ _ _ _ _ (by assumption) _ _ (by first | assumption | omega) (by first | assumption | omega) (by assumption)) 0; intro d9 t9 x9 y9 u9 v9 n9 hd9 he9 hf9 hg9 h9 tk9 F9 N9; (have hy9 := And.intro hf9 hg9); (try dsimp only); (try k_fold)))
      | ((k_here; ktr_call (t_width _ _ _) 0; intro x9 t9 e9; subst e9; intro h9 tk9 F9 N9; (try dsimp only); (try k_fold))))
   | ((with_reducible show wpAny _ _ (subscriptTail _ _ (Value.ref _) _) _ _ _); first
      | ((k_here; k_dflt (refine' my_any ?k1 ?k2 ?k3 ?k4 ?k5 ?_ ?k6; (case k1 => k_asm); (case k2 => k_mem); (case k3 => omega); (case k4 => omega); (case k5 => (simp; omega)); (case k6 => with_unfolding_all rfl); k_whole); intro v9 hv9)))
   | walk1
   | (dsimp only; walk1)
   | (leave1; walk_say "STEP leave1"; (try dsimp only))
   | fail "no step")
  · obtain ⟨q1, q2, q3, q4⟩ := numb_s (first_t (k := k) (by assumption))
    (rename News _ _ _ _ => kN9); (rename _ ∈ _ => hv8)
    obtain ⟨z8, t8, e8, z81, z82⟩ := pick8 (lo := k.lo) (hi := k.hi) hv8 (by omega) (by omega) (by omega) (by omega) (by omega) (by omega) (by omega) (by omega)
    subst e8
    exact hret _ _ _ _ _ _ _ z81 z82 (by assumption) (by assumption) _ _ (by k_asm) (drop1 (b := [_]) kN9)
  · obtain ⟨q1, q2, q4⟩ := numb_u (first_f (k := k) (by assumption))
    (rename News _ _ _ _ => kN9); (rename _ ∈ _ => hv8)
    obtain ⟨z8, t8, e8, z81, z82⟩ := pick8 (lo := k.lo) (hi := k.hi) hv8 (by omega) (by omega) (by omega) (by omega) (by omega) (by omega) (by omega) (by omega)
    subst e8
    exact hret _ _ _ _ _ _ _ z81 z82 (by assumption) (by assumption) _ _ (by k_asm) (drop1 (b := [_]) kN9)
end
end
end
section
section
variable {w : World} {loose : List Str} {mean : ExcName → Option Value} {mg mb : Str → Option Value}
theorem t_pool (news : List (Addr × Obj)) (l : Addr) (vs : List Value) (ns : List Int) (hi : IntsAre vs ns) (hlay : PyData.layable0 (.list (ns.map .int)) = true) (hlen : ns.length ≤ 63) (k : Int) (t : Tok) (hk0 : 0 ≤ k) (hk1 : k ≤ 1) :
    TellB PySem.Challenge.rw_ot0001_01.row.prog w (Mine.hd.heap_39 w.params) Mine.hd.view_39 loose mean mg mb 85 1 8 (fun base => base.IsList l vs.toArray) news [.ref l, .int k t]
      (fun ret => ∀ D x y tx ty, 0 ≤ y → y < 2147483647 → (∀ p ∈ news, p.1 < D) → ret (.ref D) ((D, listOf #[.int x tx, .int y ty] 0) :: news)) := by
  w_top off
  k_fill
  unfold TellB
  intro dp un gd cn cs a ccd cl outer A₀ base h₀ L m s Q E B F X N' T hk hd hu hP hret
  refine wpAny_call ?_
  k_dflt cell_enter
  repeat' (first
   | (k_unfold; (try dsimp only))
   | (k_end; kc_close)
   | (with_reducible first
    | ((with_reducible show wpAny _ _ (subscriptTail _ _ (Value.ref _) _) _ _ _); first
      | ((k_here; k_dflt (refine' bits_item _ _ ?k1 ?k2 ?_; (case k1 => k_asm); (case k2 => k_asm)); intro t9))))
   | ((with_reducible show wpAny _ _ (subscriptTail _ _ (Value.ref _) _) _ _ _); first
      | ((k_here; k_dflt (refine' bits_item _ _ ?k1 ?k2 ?_; (case k1 => k_asm); (case k2 => k_asm)); intro t9)))
   | walk1
   | (dsimp only; walk1)
   | (leave1; walk_say "STEP leave1"; (try dsimp only))
   | fail "no step")
  all_goals (refine' hret _ _ _ _ _ ?y1 ?y2 (by assumption) _ _ (by k_asm) ?y3; (case y3 => k_asm); (case y1 => exact (take_mod _ (by decide)).1); (case y2 => exact (take_mod _ (by decide)).2))
end
end
end
section
local macro_rules | `(tactic| ktr_call $C:term $_:term) => `(tactic| (refine' Tell.use $C ?k1 ?k2 ?k3 ?k4 ?k5 ?kK ?kd ?ku ?kR; (case k1 => k_asm); (case k2 => k_asm); (case k3 => k_asm); (case k4 => k_asm); (case k5 => k_asm); (case kK => first | exact rfl | assumption); (case kd => first | exact room (by assumption) (by decide) | ktr_room); (case ku => first | exact units (by assumption) (by decide) | ktr_units)))
local macro_rules | `(tactic| walk_at "eval Call") => `(tactic| (k_here; k_dflt (refine Call_ ?_)))
section
section
local macro_rules | `(tactic| walk_at "exec For Name List cons nil") => `(tactic| (k_here; (rename Fr _ _ _ _ => lF'); (with_unfolding_all refine' For_invVF lF' ?k1 ?k2 ?_; (case k1 => exact rfl); (case k2 => exact rfl); k_whole)))
local macro_rules | `(tactic| walk_at "exec For Name Name cons nil") => `(tactic| (k_here; (rename Fr _ _ _ _ => lF'); (with_unfolding_all refine' For_invVF lF' ?k1 ?k2 ?_; (case k1 => exact rfl); (case k2 => exact rfl); k_whole)))
section
section
variable {w : World} {loose : List Str} {mean : ExcName → Option Value} {mg mb : Str → Option Value}
theorem t_casts (news : List (Addr × Obj)) (n : Int) (t : Tok) (b : Addr) (k0 k1 k2 : Kd) (t0 t1 t2 : Tok) (nn : Nat) (h1 : k0.lo ≤ n) (h2 : n ≤ k0.hi) :
    Tell PySem.Challenge.rw_ot0001_01.row.prog w (Mine.hd.heap_39 w.params) Mine.hd.view_39 loose mean mg mb 155 5 40 ((b, listOf #[.str k0.str t0, .str k1.str t1, .str k2.str t2] nn) :: news) [.int n t, .ref b]
      (fun ret => ret (.bool true) ((b, listOf #[.str k0.str t0, .str k1.str t1, .str k2.str t2] nn) :: news)) := by
  w_top off
  k_fill
  unfold Tell
  intro dp un gd cn cs a ccd cl outer A₀ base h₀ L m s Q E B F X N' T hk hd hu hret
  have hb := k0.bits_le
  refine wpAny_call ?_
  k_dflt cell_enter
  repeat' (first
   | (k_unfold; (try dsimp only))
   | (k_end; kc_close)
   | (with_reducible first
    | ((with_reducible show wpAny _ _ (subscriptTail _ _ (Value.ref _) _) _ _ _); first
      | ((k_here; (with_reducible show wpAny _ _ (subscriptTail _ _ (Value.ref _) (Value.int _ _)) _ _ _); k_dflt (first
        | (refine' my_at0 ?hk ?k1 ?k2 ?_ ?k6; (case hk => decide); (case k1 => k_asm); (case k2 => k_mem); (case k6 => with_unfolding_all rfl); k_whole)
        | (refine' my_at1 ?hk ?k1 ?k2 ?_ ?k6; (case hk => decide); (case k1 => k_asm); (case k2 => k_mem); (case k6 => with_unfolding_all rfl); k_whole)
        | (refine' my_at2 ?hk ?k1 ?k2 ?_ ?k6; (case hk => decide); (case k1 => k_asm); (case k2 => k_mem); (case k6 => with_unfolding_all rfl); k_whole))))
      | ((k_here; (with_reducible show wpAny _ _ (subscriptTail _ _ (Value.ref 15) (Value.str (Kd.str _) _)) _ _ _); k_dflt (refine' bits_item _ _ ?k1 ?k2 ?_; (case k1 => k_asm); (case k2 => k_asm)); intro t9)))
    | ((with_reducible show wpAny _ _ (call (Value.ref _) _) _ _ _); first
      | ((k_here; (with_reducible show wpAny _ _ (call (Value.ref 134) _) _ _ _); k_dflt (ktr_call (t_cast _ _ _ _ _ _ _ ?m1 ?m2 ?m3 ?m4 _ _) 0; (case m1 => k_mem); (case m2 => assumption); (case m3 => first | assumption | exact Kd.wrap_lo _ _); (case m4 => first | assumption | exact Kd.wrap_hi _ _); intro D9 u9 n9 i9; (rw [← Kd.row_wrap] at i9); intro h9 tk9 F9 N9; (try dsimp only); (try k_fold))))
      | ((k_here; (with_reducible show wpAny _ _ (call (Value.ref 127) _) _ _ _); k_dflt (ktr_call (t_value _ _ _ _ _ _ ?m1 ?m2 _) 0; (case m1 => k_mem); (case m2 => assumption); intro x9 t9 e9; (try simp only [Kd.wrap_wrap] at e9); subst x9; intro h9 tk9 F9 N9; (try dsimp only); (try k_fold))))
      | ((k_here; (with_reducible show wpAny _ _ (call (Value.ref 120) _) _ _ _); k_dflt (ktr_call (t_row _ _ _ _ _ (by omega)) 0; intro D9 u9 n9 i9 l9; intro h9 tk9 F9 N9; (try k_lt l9); (try dsimp only); (try k_fold))))
      | ((k_here; (with_reducible show wpAny _ _ (call (Value.ref 113) _) _ _ _); k_dflt (ktr_call (t_width _ _ _) 0; intro x9 t9 e9; subst e9; intro h9 tk9 F9 N9; (try dsimp only); (try k_fold))))
      | ((k_here; (with_reducible show wpAny _ _ (call (Value.ref 57) _) _ _ _); k_dflt (ktr_call (t_cast_int _ _ _ _ _) 0; intro x9 t9 e9; subst e9; intro h9 tk9 F9 N9; (try dsimp only); (try k_fold))))
      | ((k_here; (with_reducible show wpAny _ _ (call (Value.ref 50) _) _ _ _); k_dflt (ktr_call (t_wrapped _ _ _ _ _) 0; intro x9 t9 e9; (try simp (disch := assumption) only [Kd.wrap_more, Kd.wrap_wrap, Kd.wrap_in] at e9); subst x9; intro h9 tk9 F9 N9; (try dsimp only); (try k_fold))))
      | ((k_here; (with_reducible show wpAny _ _ (call (Value.ref 43) _) _ _ _); k_dflt (ktr_call (t_fits _ _ _ _ _) 0; intro b9 e9; (try simp (disch := assumption) only [Kd.fits_wrap, Kd.fits_in, Kd.fits_more] at e9); subst e9; intro h9 tk9 F9 N9; (try dsimp only); (try k_fold)))))
    | ((with_reducible show wpAny _ _ (pyIter (Value.ref _)) _ _ _); first
      | (((with_reducible show wpAny _ _ (pyIter (Value.ref _)) (fun it s₂ => LoopAtV _ _ _ _ _ _ _ _ _ it s₂) _ _); (rename Fr _ _ _ _ => lF'); (rename News _ _ _ _ => lN'); (with_unfolding_all refine iter_listUnr (vs := [_, _]) (by rfl) lF' lN' (by k_mem) (by rfl) (by rfl) ?_); clear lF'; intro i' l1; (have l2 := allLt_of l1); (try k_lt l1))))
    | ((with_reducible show UnrEnd ..); first
      | (first
        | (refine unr_end [] [] _ (by assumption) (by assumption) (by assumption) (by assumption) (by k_offL) ⟨by k_mem, ?_⟩)
        | (refine unr_end [_] [] _ (by assumption) (by assumption) (by assumption) (by assumption) (by k_offL) ⟨by k_mem, ?_⟩)
        | (refine unr_end [_, _] [] _ (by assumption) (by assumption) (by assumption) (by assumption) (by k_offL) ⟨by k_mem, ?_⟩)
        | (refine unr_end [_, _, _] [] _ (by assumption) (by assumption) (by assumption) (by assumption) (by k_offL) ⟨by k_mem, ?_⟩)
        | (refine unr_end [_] [_] _ (by assumption) (by assumption) (by assumption) (by assumption) (by k_offL) ⟨by k_mem, ?_⟩)
        | (refine unr_end [_, _] [_, _] _ (by assumption) (by assumption) (by assumption) (by assumption) (by k_offL) ⟨by k_mem, ?_⟩)
        | (refine unr_end [_, _, _] [_, _, _] _ (by assumption) (by assumption) (by assumption) (by assumption) (by k_offL) ⟨by k_mem, ?_⟩))))
   | ((with_reducible show UnrEnd ..); first
      | (first
        | (refine unr_end [] [] _ (by assumption) (by assumption) (by assumption) (by assumption) (by k_offL) ⟨by k_mem, ?_⟩)
        | (refine unr_end [_] [] _ (by assumption) (by assumption) (by assumption) (by assumption) (by k_offL) ⟨by k_mem, ?_⟩)
        | (refine unr_end [_, _] [] _ (by assumption) (by assumption) (by assumption) (by assumption) (by k_offL) ⟨by k_mem, ?_⟩)
        | (refine unr_end [_, _, _] [] _ (by assumption) (by assumption) (by assumption) (by assumption) (by k_offL) ⟨by k_mem, ?_⟩)
        | (refine unr_end [_] [_] _ (by assumption) (by assumption) (by assumption) (by assumption) (by k_offL) ⟨by k_mem, ?_⟩)
        | (refine unr_end [_, _] [_, _] _ (by assumption) (by assumption) (by assumption) (by assumption) (by k_offL) ⟨by k_mem, ?_⟩)
        | (refine unr_end [_, _, _] [_, _, _] _ (by assumption) (by assumption) (by assumption) (by assumption) (by k_offL) ⟨by k_mem, ?_⟩)))
   | walk1
   | (dsimp only; walk1)
   | (leave1; walk_say "STEP leave1"; (try dsimp only))
   | fail "no step")
  · exact absurd rfl (by assumption : k1.wrap n ≠ k1.wrap n)
  · exact absurd rfl (by assumption : k2.wrap (k1.wrap n) ≠ k2.wrap (k1.wrap n))
  · exact (back_bad h1 h2 (k2 := k1) (by assumption) (by assumption)).elim
  · (rename News _ _ _ _ => kN9)
    rw [show (n == n) = true by simp]
    exact hret _ _ (by k_asm) (fun p hp => kN9 p (by rcases List.mem_cons.mp hp with h | h <;> simp [h]))
  · exact absurd rfl (by assumption : n ≠ n)
  · (rename News _ _ _ _ => kN9)
    rw [show (n == n) = true by simp]
    exact hret _ _ (by k_asm) (fun p hp => kN9 p (by rcases List.mem_cons.mp hp with h | h <;> simp [h]))
  · exact absurd rfl (by assumption : n ≠ n)
end
end
section
section
variable {w : World} {loose : List Str} {mean : ExcName → Option Value} {mg mb : Str → Option Value}
local macro_rules | `(tactic| k_all) => `(tactic| assumption)
local macro_rules | `(tactic| ke_room) => `(tactic| exact units64 (by assumption) (by decide))
local macro_rules | `(tactic| walk_at "assign Tuple") => `(tactic| (k_here; (rename IntsAre _ (List.map _ [_, _]) => hI9); (simp only [List.map_cons, List.map_nil] at hI9); (obtain ⟨ta9, tb9, e9⟩ := ints2 hI9); subst e9; clear hI9))
theorem t_shifts (news : List (Addr × Obj)) (n : Int) (t : Tok) (b : Addr) (k : Kd) (t1 : Tok) (p0 p1 : Int) (u0 u1 : Tok) (nn : Nat) (h1 : k.lo ≤ n) (h2 : n ≤ k.hi) :
    Tell PySem.Challenge.rw_ot0001_01.row.prog w (Mine.hd.heap_39 w.params) Mine.hd.view_39 loose mean mg mb 160 5 110 ((b, listOf #[.int p0 u0, .int p1 u1] nn) :: news) [.int n t, .str k.str t1, .ref b]
      (fun ret => ret (.bool true) ((b, listOf #[.int p0 u0, .int p1 u1] nn) :: news)) := by
  w_top off
  k_fill
  unfold Tell
  intro dp un gd cn cs a ccd cl outer A₀ base h₀ L m s Q E B F X N' T hk hd hu hret
  have hb := k.bits_le
  have hh := half_bits k
  refine wpAny_call ?_
  k_dflt (refine' code_defC ?k1 ?k2 ?k3 ?k4 ?k5 ?kA ?kF ?kK ?k6 ?k7 ?k8 ?k9 ?kB ?kD ?_ ?c2 ?c3 ?c4; (case kA => exact rfl); (case kF => exact rfl); (case kK => assumption); (case k1 => k_asm); (case k2 => k_asm); (case k3 => k_asm); (case k4 => k_asm); (case k5 => k_asm); (case k6 => k_is); (case k7 => k_is); (case k8 => ktr_room); (case k9 => exact BindsTo.of_eq rfl); (case kB => exact rfl); (case kD => decide +kernel); (case c2 => exact rfl); (case c3 => exact rfl); (case c4 => exact rfl); k_whole; intro g' L' h' tk' cells' FG' F' N' Y' B' X' T' l1; (have hneL : ∀ p ∈ news, p.1 ≠ L' + 1 := fun p hp => Nat.ne_of_lt (Nat.lt_succ_of_lt (l1 p (.tail _ hp)))); (try k_lt l1); k_cells Y'; (try simp only [List.cons_append, List.nil_append] at N'); (try dsimp only); (try k_lift B'); (try k_fold))
  repeat' (first
   | (k_unfold; (try dsimp only))
   | (k_end; kc_close)
   | (with_reducible first
    | ((with_reducible show wpAny _ _ (subscriptTail _ _ (Value.ref _) _) _ _ _); first
      | ((k_here; (with_reducible show wpAny _ _ (subscriptTail _ _ (Value.ref _) (Value.int _ _)) _ _ _); k_dflt (first
        | (refine' my_at0 ?hk ?k1 ?k2 ?_ ?k6; (case hk => decide); (case k1 => k_asm); (case k2 => k_mem); (case k6 => with_unfolding_all rfl); k_whole)
        | (refine' my_at1 ?hk ?k1 ?k2 ?_ ?k6; (case hk => decide); (case k1 => k_asm); (case k2 => k_mem); (case k6 => with_unfolding_all rfl); k_whole)
        | (refine' my_at2 ?hk ?k1 ?k2 ?_ ?k6; (case hk => decide); (case k1 => k_asm); (case k2 => k_mem); (case k6 => with_unfolding_all rfl); k_whole))))
      | ((k_here; (with_reducible show wpAny _ _ (subscriptTail _ _ (Value.ref 15) (Value.str (Kd.str _) _)) _ _ _); k_dflt (refine' bits_item _ _ ?k1 ?k2 ?_; (case k1 => k_asm); (case k2 => k_asm)); intro t9)))
    | ((with_reducible show wpAny _ _ (call (Value.ref _) _) _ _ _); first
      | ((k_here; (with_reducible show wpAny _ _ (call (Value.ref 64) _) _ _ _); k_dflt (ktr_call (t_shr _ _ _ _ _ _ _ _) 0; intro D9 x9 t9 b9 e9 f9 l9; subst x9; subst b9; intro h9 tk9 F9 N9; (try k_lt l9); (try dsimp only); (try k_fold))))
      | ((k_here; (with_reducible show wpAny _ _ (call (Value.ref 64) _) _ _ _); k_dflt (ktr_call (t_shl _ _ _ _ _ _ _ _) 0; intro D9 x9 t9 b9 e9 f9 l9; subst x9; subst b9; intro h9 tk9 F9 N9; (try k_lt l9); (try dsimp only); (try k_fold))))
      | ((k_here; (with_reducible show wpAny _ _ (call (Value.ref 141) _) _ _ _); k_dflt (ktr_call (t_mshr _ _ _ _ _ _ ?m1 ?m2 ?m3 ?m4 _ _ _ _) 0; (case m1 => k_mem); (case m2 => assumption); (case m3 => assumption); (case m4 => assumption); intro D9 u9 n9 i9; intro h9 tk9 F9 N9; (try dsimp only); (try k_fold))))
      | ((k_here; (with_reducible show wpAny _ _ (call (Value.ref 141) _) _ _ _); k_dflt (ktr_call (t_mshl _ _ _ _ _ _ ?m1 ?m2 _ _ _ _) 0; (case m1 => k_mem); (case m2 => assumption); intro D9 u9 n9 i9; intro h9 tk9 F9 N9; (try dsimp only); (try k_fold))))
      | ((k_here; (with_reducible show wpAny _ _ (call (Value.ref 127) _) _ _ _); k_dflt (ktr_call (t_value _ _ _ _ _ _ ?m1 ?m2 _) 0; (case m1 => k_mem); (case m2 => assumption); intro x9 t9 e9; (try simp only [Kd.wrap_wrap] at e9); subst x9; intro h9 tk9 F9 N9; (try dsimp only); (try k_fold))))
      | ((k_here; (with_reducible show wpAny _ _ (call (Value.ref 120) _) _ _ _); k_dflt (ktr_call (t_row _ _ _ _ _ (by omega)) 0; intro D9 u9 n9 i9 l9; intro h9 tk9 F9 N9; (try k_lt l9); (try dsimp only); (try k_fold))))
      | ((k_here; (with_reducible show wpAny _ _ (call (Value.ref 113) _) _ _ _); k_dflt (ktr_call (t_width _ _ _) 0; intro x9 t9 e9; subst e9; intro h9 tk9 F9 N9; (try dsimp only); (try k_fold)))))
    | ((with_reducible show wpAny _ _ (pyIter (Value.ref _)) _ _ _); first
      | ((k_here; (with_reducible show wpAny _ _ (pyIter (Value.ref _)) (fun it s₂ => LoopAtV _ _ _ _ _ _ _ _ _ it s₂) _ _); (rename Fr _ _ _ _ => lF'); (rename News _ _ _ _ => lN'); (with_unfolding_all refine' iter_still2 (vs := [_, _]) (ns := [_, _]) (Str.ofString "op") (Str.ofString "due") (by rfl) (by k_mem) (.cons _ _ (.cons _ _ .nil)) lF' lN' (fun n' t' m1' h' tk' own' hmem' hoff' F' N' => ?_) (fun m1' h' tk' F' N' => ?_)); (all_goals (try clear lF' lN')); (all_goals (try simp only [List.cons_append] at N')); (all_goals (try k_fold))))
      | (((with_reducible show wpAny _ _ (pyIter (Value.ref _)) (fun it s₂ => LoopAtV _ _ _ _ _ _ _ _ _ it s₂) _ _); (rename Fr _ _ _ _ => lF'); (rename News _ _ _ _ => lN'); (with_unfolding_all refine iter_listUnr (vs := [_, _]) (by rfl) lF' lN' (by k_mem) (by rfl) (by rfl) ?_); clear lF'; intro i' l1; (have l2 := allLt_of l1); (try k_lt l1))))
    | ((with_reducible show UnrEnd ..); first
      | (first
        | (refine unr_drop [_] _ (by assumption) (by assumption) (by assumption) ⟨by k_mem, ?_⟩)
        | (refine unr_drop [_, _, _] _ (by assumption) (by assumption) (by assumption) ⟨by k_mem, ?_⟩)
        | (refine unr_drop [_, _] _ (by assumption) (by assumption) (by assumption) ⟨by k_mem, ?_⟩)
        | (refine unr_drop [] _ (by assumption) (by assumption) (by assumption) ⟨by k_mem, ?_⟩)))
    | ((with_reducible show InvEndN ..); first
      | (((rename News _ _ _ _ => nE'); (refine InvEndN.intro (by assumption) nE' ⟨rfl, by (intro z h1 h2 h3; first | rfl | (simp only [if_neg h1, if_neg h2, if_neg h3]; done) | (simp [h1, h2, h3]; done) | (simp_all; done))⟩ (by rfl) (fun p hp => .tail _ (List.mem_append.mpr (Or.inl hp))) (fun p hp => by simp only [List.mem_cons, List.mem_append, hp, or_true]))))))
   | ((with_reducible show UnrEnd ..); first
      | (first
        | (refine unr_drop [_] _ (by assumption) (by assumption) (by assumption) ⟨by k_mem, ?_⟩)
        | (refine unr_drop [_, _, _] _ (by assumption) (by assumption) (by assumption) ⟨by k_mem, ?_⟩)
        | (refine unr_drop [_, _] _ (by assumption) (by assumption) (by assumption) ⟨by k_mem, ?_⟩)
        | (refine unr_drop [] _ (by assumption) (by assumption) (by assumption) ⟨by k_mem, ?_⟩)))
   | ((with_reducible show InvEndN ..); first
      | (((rename News _ _ _ _ => nE'); (refine InvEndN.intro (by assumption) nE' ⟨rfl, by (intro z h1 h2 h3; first | rfl | (simp only [if_neg h1, if_neg h2, if_neg h3]; done) | (simp [h1, h2, h3]; done) | (simp_all; done))⟩ (by rfl) (fun p hp => .tail _ (List.mem_append.mpr (Or.inl hp))) (fun p hp => by simp only [List.mem_cons, List.mem_append, hp, or_true])))))
   | walk1
   | (dsimp only; walk1)
   | (leave1; walk_say "STEP leave1"; (try dsimp only))
   | fail "no step")
  · exact (over_bad1 (by assumption) (by assumption)).elim
  · exact (over_bad2 (by assumption) (by assumption)).elim
  · (rename News _ _ _ _ => kN9)
    rw [shifts_eq]
    exact hret _ _ (by k_asm) (fun p hp => kN9 p (by rcases List.mem_cons.mp hp with h | h <;> simp [h]))
end
end
end
section
section
variable {w : World} {loose : List Str} {mean : ExcName → Option Value} {mg mb : Str → Option Value}
local macro_rules | `(tactic| k_all) => `(tactic| assumption)
local macro_rules | `(tactic| ke_room) => `(tactic| exact units64 (by assumption) (by decide))
local macro_rules | `(tactic| walk_at "exec Assign cons ListComp") => `(tactic| (k_here; k_dflt (refine LCg.Assign_ListComp_U (F₀ := by k_asm) (by rfl) (by with_unfolding_all rfl) (by with_unfolding_all rfl) (by decide) (by rfl) (by decide) (by rfl) (by rfl) (by rfl) ?_)))
local macro_rules | `(tactic| walk_at "CompSrc") => `(tactic| (k_here; k_dflt (refine LCg.CompSrc.ledger (by rfl) (by k_asm) (by k_asm) (by k_mem) (row_size (by assumption) (by omega)) ?_; intro g'; (refine' kcf_list (fun z => 1 - z) (by assumption) (fun k' t' I' oI' C' oC' D' m' ys' h' tk' E' hk' hC' hx' F' N' off' ne' hMark' => ?_) ?_); (all_goals (try (simp only [LCg.Off3, and_true] at off'))); (all_goals (try k_fold)))))
theorem t_signs (news : List (Addr × Obj)) (n : Int) (t : Tok) (k : Kd) (t1 : Tok) (h1 : k.lo ≤ n) (h2 : n ≤ k.hi) :
    Tell PySem.Challenge.rw_ot0001_01.row.prog w (Mine.hd.heap_39 w.params) Mine.hd.view_39 loose mean mg mb 165 5 110 news [.int n t, .str k.str t1]
      (fun ret => ret (.bool true) news) := by
  w_top off
  k_fill
  unfold Tell
  intro dp un gd cn cs a ccd cl outer A₀ base h₀ L m s Q E B F X N' T hk hd hu hret
  have hb := k.bits_le
  have hkl := k.len
  refine wpAny_call ?_
  k_dflt cell_enter
  repeat' (first
   | (k_unfold; (try dsimp only))
   | (k_end; kc_close)
   | (with_reducible first
    | ((with_reducible show wpAny _ _ (subscriptTail _ _ (Value.ref _) _) _ _ _); first
      | ((k_here; (with_reducible show wpAny _ _ (subscriptTail _ (PySem.Expr.Slice _ _ none _) (Value.ref _) (Value.ref _)) _ _ _); k_dflt (refine' kmk_slice_ints ?Fodd ?Nodd ?lodd ?podd ?qodd ?iodd ?modd ?codd ?_ ?sodd ?todd ?zodd; (case Fodd => k_asm); (case Nodd => k_asm); (case lodd => exact News.isList (by k_asm) (by k_mem)); (case podd => exact IsPart.int _ _); (case qodd => exact IsPart.none); (case iodd => assumption); (case modd => exact kmk_from (by assumption) (by omega)); (case codd => exact rfl); (case sodd => with_unfolding_all rfl); (case todd => kmk_pure); (case zodd => exact row_size (by assumption) (by omega))); intro D' ws' h' F' N' l1 hI' hC' hL'; (try k_lt l1); (try k_sweep)))
      | ((k_here; (with_reducible show wpAny _ _ (subscriptTail _ _ (Value.ref _) (Value.int _ _)) _ _ _); k_dflt (first
        | (refine' my_at0 ?hk ?k1 ?k2 ?_ ?k6; (case hk => decide); (case k1 => k_asm); (case k2 => k_mem); (case k6 => with_unfolding_all rfl); k_whole)
        | (refine' my_at1 ?hk ?k1 ?k2 ?_ ?k6; (case hk => decide); (case k1 => k_asm); (case k2 => k_mem); (case k6 => with_unfolding_all rfl); k_whole)
        | (refine' my_at2 ?hk ?k1 ?k2 ?_ ?k6; (case hk => decide); (case k1 => k_asm); (case k2 => k_mem); (case k6 => with_unfolding_all rfl); k_whole))))
      | ((k_here; (with_reducible show wpAny _ _ (subscriptTail _ _ (Value.ref 15) (Value.str (Kd.str _) _)) _ _ _); k_dflt (refine' bits_item _ _ ?k1 ?k2 ?_; (case k1 => k_asm); (case k2 => k_asm)); intro t9)))
    | ((with_reducible show wpAny _ _ (call (Value.ref _) _) _ _ _); first
      | ((k_here; (with_reducible show wpAny _ _ (call (Value.ref 127) _) _ _ _); k_dflt ((rename IntsAre _ (List.map _ (rowOf _ _)) => hI9); (rw [inv_row] at hI9))))
      | ((k_here; (with_reducible show wpAny _ _ (call (Value.ref 29) _) _ _ _); k_dflt (ktr_call (t_least _ _ _) 0; intro x9 t9 e9; subst e9; intro h9 tk9 F9 N9; (try dsimp only); (try k_fold))))
      | ((k_here; (with_reducible show wpAny _ _ (call (Value.ref 78) _) _ _ _); k_dflt (ktr_call (t_inverted _ _ _ _ _) 0; intro x9 t9 e9; subst x9; intro h9 tk9 F9 N9; (try dsimp only); (try k_fold))))
      | ((k_here; (with_reducible show wpAny _ _ (call (Value.ref 71) _) _ _ _); k_dflt (ktr_call (t_negated _ _ _ _ _) 0; intro D9 x9 t9 b9 e9 f9 l9; subst x9; subst b9; intro h9 tk9 F9 N9; (try k_lt l9); (try dsimp only); (try k_fold))))
      | ((k_here; (with_reducible show wpAny _ _ (call (Value.ref 127) _) _ _ _); k_dflt (ktr_call (t_value _ _ _ _ _ _ ?m1 ?m2 _) 0; (case m1 => k_mem); (case m2 => assumption); intro x9 t9 e9; (try simp only [Kd.wrap_wrap] at e9); subst x9; intro h9 tk9 F9 N9; (try dsimp only); (try k_fold))))
      | ((k_here; (with_reducible show wpAny _ _ (call (Value.ref 120) _) _ _ _); k_dflt (ktr_call (t_row _ _ _ _ _ (by omega)) 0; intro D9 u9 n9 i9 l9; intro h9 tk9 F9 N9; (try k_lt l9); (try dsimp only); (try k_fold))))
      | ((k_here; (with_reducible show wpAny _ _ (call (Value.ref 113) _) _ _ _); k_dflt (ktr_call (t_width _ _ _) 0; intro x9 t9 e9; subst e9; intro h9 tk9 F9 N9; (try dsimp only); (try k_fold)))))
    | ((with_reducible show wpAny _ _ (call (Value.builtin _) _) _ _ _); first
      | ((k_here; (with_reducible show wpAny _ _ (call (Value.builtin _) [Value.ref _, Value.int _ _]) _ _ _); k_dflt (refine index_list_ints (News.isList (by k_asm) (by k_mem)) (by assumption) (lay_row _ (by omega)) (any_mem (by assumption)) ?_); (have hix := row_idx (by assumption))))
      | ((k_here; (with_reducible show wpAny _ _ (call (Value.builtin "len") [Value.ref _]) _ _ _); k_dflt (refine KM.len_K (by k_asm) (by k_mem) (row_len (by assumption)) (by omega) ?_))))
    | ((with_reducible show wpAny _ _ (binaryOp _ (Value.ref _) (Value.ref _)) _ _ _); first
      | ((k_here; (with_reducible show wpAny _ _ (binaryOp _ (Value.ref _) (Value.ref _)) _ _ _); k_dflt (refine' kmk_add_ints ?Fodd ?Nodd ?aodd ?bodd ?iodd ?jodd ?_ ?zodd; (case Fodd => k_asm); (case Nodd => k_asm); (case aodd => exact News.isList (by k_asm) (by k_mem)); (case bodd => exact News.isList (by k_asm) (by k_mem)); (case iodd => with_reducible assumption); (case jodd => with_reducible assumption); (case zodd => first | exact more_szA (by omega) | exact more_szB (by omega) (by omega))); intro D' ws' h' F' N' l1 hI'; (first | (replace hI' := more_1 (by assumption) hI') | (replace hI' := more_2 (by assumption) hI') | skip); (try k_lt l1); (try k_sweep)))))
   | walk1
   | (dsimp only; walk1)
   | (leave1; walk_say "STEP leave1"; (try dsimp only))
   | fail "no step")
  · exact absurd rfl (by assumption : k.wrap (-1 - n) ≠ k.wrap (-1 - n))
  · exact absurd (inv_back h1 h2) (by assumption)
  · (rename News _ _ _ _ => kN9)
    rw [neg_over_s h1 h2 (first_t (by assumption)), beq_self_eq_true]
    exact hret _ _ (by k_asm) (fun p hp => kN9 p (by simp [hp]))
  · (rename News _ _ _ _ => kN9)
    rw [neg_over_u h1 h2 (first_f (by assumption)), beq_self_eq_true]
    exact hret _ _ (by k_asm) (fun p hp => kN9 p (by simp [hp]))
  · (rename News _ _ _ _ => kN9)
    rw [neg_over_s h1 h2 (first_t (by assumption)), beq_self_eq_true]
    exact hret _ _ (by k_asm) (fun p hp => kN9 p (by simp [hp]))
  · (rename News _ _ _ _ => kN9)
    rw [neg_over_u h1 h2 (first_f (by assumption)), beq_self_eq_true]
    exact hret _ _ (by k_asm) (fun p hp => kN9 p (by simp [hp]))
end
end
end
section
section
variable {w : World} {loose : List Str} {mean : ExcName → Option Value} {mg mb : Str → Option Value}
/-- a draw from a list, wherever source and list stand on the ledger -/
theorem t_oneU (news : List (Addr × Obj)) (g : Obj → List (Addr × Obj)) (b c : Addr) (its : Array Value) (mm : Nat) (x y : Int) (tx ty : Tok) (nn : Nat) (U : UpdF c (listOf #[.int x tx, .int y ty] nn) news g) (hb : (b, listOf its mm) ∈ news) (hbc : b ≠ c)
    (N : Nat) (hN : its.size = N) (h1 : 0 < N) (h2 : N ≤ 100) (hy : 0 ≤ y ∧ y < 2147483647) :
    Tell PySem.Challenge.rw_ot0001_01.row.prog w (Mine.hd.heap_39 w.params) Mine.hd.view_39 loose mean mg mb 99 2 16 news [.ref c, .ref b]
      (fun ret => ∀ v x' y' tx' ty' nn', v ∈ its.toList → 0 ≤ y' → y' < 2147483647 → ret v (g (listOf #[.int x' tx', .int y' ty'] nn'))) := by
  obtain ⟨pre, post, rfl, hg, h3, h4⟩ := U.split
  have hne : ∀ p ∈ pre ++ post, p.1 ≠ c := fun p hp => (List.mem_append.mp hp).elim (h3 p) (h4 p)
  refine (t_one0 (pre ++ post) b c its mm x y tx ty nn (fun p hp => (List.mem_cons.mp hp).elim (fun e => e ▸ hbc) (hne p)) N hN h1 h2 hy).sub ?_ ?_
  · intro p hp
    rcases List.mem_cons.mp hp with e | hp
    · exact e ▸ List.mem_append.mpr (.inr (.head _))
    · rcases List.mem_cons.mp hp with e | hp
      · exact e ▸ hb
      · exact (List.mem_append.mp hp).elim (fun h => List.mem_append.mpr (.inl h)) fun h => List.mem_append.mpr (.inr (.tail _ h))
  · intro ret mono h v x' y' tx' ty' nn' hv hy1 hy2
    refine mono _ _ _ ?_ (h v x' y' tx' ty' nn' hv hy1 hy2)
    intro p hp
    rw [hg] at hp
    rcases List.mem_append.mp hp with hp | hp
    · exact .tail _ (.tail _ (List.mem_append.mpr (.inl hp)))
    · rcases List.mem_cons.mp hp with e | hp
      · exact e ▸ .head _
      · exact .tail _ (.tail _ (List.mem_append.mpr (.inr hp)))
/-- a number of a kind, wherever the source stands on the ledger -/
theorem t_numberU (news : List (Addr × Obj)) (g : Obj → List (Addr × Obj)) (c : Addr) (x y : Int) (tx ty : Tok) (nn : Nat) (U : UpdF c (listOf #[.int x tx, .int y ty] nn) news g) (k : Kd) (t : Tok) (hy : 0 ≤ y ∧ y < 2147483647) :
    Tell PySem.Challenge.rw_ot0001_01.row.prog w (Mine.hd.heap_39 w.params) Mine.hd.view_39 loose mean mg mb 148 2 16 news [.ref c, .str k.str t]
      (fun ret => ∀ z t x' y' tx' ty' nn', k.lo ≤ z → z ≤ k.hi → 0 ≤ y' → y' < 2147483647 → ret (.int z t) (g (listOf #[.int x' tx', .int y' ty'] nn'))) := by
  obtain ⟨pre, post, rfl, hg, h3, h4⟩ := U.split
  have hne : ∀ p ∈ pre ++ post, p.1 ≠ c := fun p hp => (List.mem_append.mp hp).elim (h3 p) (h4 p)
  refine (t_number0 (pre ++ post) c x y tx ty nn hne k t hy).sub ?_ ?_
  · intro p hp
    rcases List.mem_cons.mp hp with e | hp
    · exact e ▸ List.mem_append.mpr (.inr (.head _))
    · exact (List.mem_append.mp hp).elim (fun h => List.mem_append.mpr (.inl h)) fun h => List.mem_append.mpr (.inr (.tail _ h))
  · intro ret mono h z t x' y' tx' ty' nn' hz1 hz2 hy1 hy2
    refine mono _ _ _ ?_ (h z t x' y' tx' ty' nn' hz1 hz2 hy1 hy2)
    intro p hp
    rw [hg] at hp
    rcases List.mem_append.mp hp with hp | hp
    · exact .tail _ (List.mem_append.mpr (.inl hp))
    · rcases List.mem_cons.mp hp with e | hp
      · exact e ▸ .head _
      · exact .tail _ (List.mem_append.mpr (.inr hp))
theorem kinds_of {v : Value} {t1 t2 t3 t4 t5 t6 t7 t8 t9 : Tok} (h : v ∈ (#[.str (Kd.str .i8) t1, .str (Kd.str .i16) t2, .str (Kd.str .i32) t3, .str (Kd.str .i64) t4, .str (Kd.str .u8) t5, .str (Kd.str .u16) t6, .str (Kd.str .u32) t7, .str (Kd.str .u64) t8, .str (Kd.str .us) t9] : Array Value).toList) :
    ∃ k t, v = .str (Kd.str k) t := by
  simp only [List.mem_cons, List.not_mem_nil, or_false] at h
  rcases h with e | e | e | e | e | e | e | e | e <;> exact ⟨_, _, e⟩
theorem places_of {v : Value} {a b c d e f g h i j k : Int} {t1 t2 t3 t4 t5 t6 t7 t8 t9 t10 t11 : Tok} (hv : v ∈ (#[.int a t1, .int b t2, .int c t3, .int d t4, .int e t5, .int f t6, .int g t7, .int h t8, .int i t9, .int j t10, .int k t11] : Array Value).toList) :
    ∃ p t, v = .int p t := by
  simp only [List.mem_cons, List.not_mem_nil, or_false] at hv
  rcases hv with e | e | e | e | e | e | e | e | e | e | e <;> exact ⟨_, _, e⟩
end
section
variable {prog : Program} {w : World} {A : Around} {E : Value → Shared → Prop} {s : Shared} {env : Env} {h₀ : Heap} {x : Str} {body : List Stmt} {Q : Flow → Shared → Prop}
/-- a loop over a list of kinds whose turns change nothing -/
theorem iter_kinds {ax : Addr} {vs : List Value} {n : Nat} {m₀ : Str → Option Value} {news : List (Addr × Obj)} (hv : ∀ v ∈ vs, ∃ k t, v = .str (Kd.str k) t)
    (hh : A.handled = none) (F : Fr h₀ env.locals s.heap m₀) (N : News h₀ env.locals s.heap news) (hm : (ax, listOf vs.toArray n) ∈ news)
    (turn : ∀ (k : Kd) (t : Tok) I it h tk (R : (Str → Option Value) → List (Addr × Obj) → Prop), AllLt I news → (8 ≤ k.bits ∧ k.bits ≤ 64) → k.lo = k.hi + 1 - 2 ^ ((k.bits : Int)).toNat → Fr h₀ env.locals h (fun y => if y = x then some (.str k.str t) else m₀ y) → News h₀ env.locals h ((I, it) :: news) →
      R (fun y => if y = x then some (.str k.str t) else m₀ y) news →
      wpAny (model prog w) A (execs body env) (UnrPost h₀ env.locals { s with heap := h, toks := tk } I it R Q) E { s with heap := h, toks := tk })
    (done : ∀ (m₁ : Str → Option Value) h tk, Fr h₀ env.locals h (fun y => if y = x then m₁ y else m₀ y) → News h₀ env.locals h news → Q .next { s with heap := h, toks := tk }) :
    wpAny (model prog w) A (pyIter (.ref ax)) (fun it s₂ => LoopAtV prog w A h₀ env x body Q E it s₂) E s := by
  refine iter_listUnr (vs := vs) (lo := listOf vs.toArray n) hh F N hm rfl rfl fun I hI => ?_
  have hlt : AllLt I news := allLt_of hI
  have key : ∀ (vs' : List Value), (∀ v ∈ vs', ∃ k t, v = .str (Kd.str k) t) → ∀ m : Str → Option Value, (∀ y, y ≠ x → m y = m₀ y) →
      ListRest prog w A E h₀ env x body Q s I (ax, listOf vs.toArray n) vs' m news := by
    intro vs'
    induction vs' with
    | nil =>
      intro _ m hmm
      refine ListRest.zero fun h tk F' N' => done m h tk ?_ N'
      have e : (fun y => if y = x then m y else m₀ y) = m := by
        funext y; by_cases h : y = x
        · simp [h]
        · simp [h, hmm y h]
      rw [e]; exact F'
    | cons v r ih =>
      intro hvs m hmm
      obtain ⟨k, t, rfl⟩ := hvs v (.head _)
      refine ListRest.succ fun it h tk _ F' N' => ?_
      have e : (fun y => if y = x then some (Value.str k.str t) else m y) = fun y => if y = x then some (Value.str k.str t) else m₀ y := by
        funext y; by_cases h : y = x
        · simp [h]
        · simp [h, hmm y h]
      rw [e] at F'
      exact turn k t I it h tk _ hlt k.bits_le (by rw [toNat_cast]; have := k.hi_lo; omega) F' N' ⟨hm, ih (fun v hv => hvs v (.tail _ hv)) _ fun y hy => by simp [hy]⟩
  exact key vs hv m₀ fun _ _ => rfl
/-- a loop over a range of at most two turns that stores names, and one cell anew in each turn, and drops what it makes -/
theorem iter_cell {r c : Addr} {b₀ : Int} {t₀ u₀ v₀ : Tok} {n : Nat} {m₀ : Str → Option Value} {o₀ : Obj} {w₀ : Option Value} (y1 y2 y3 : Str)
    (hh : A.handled = none) (hr : IsRange s.heap r 0 b₀ 1 t₀ u₀ v₀) (hsmall : Builtin.Range.small 0 b₀ 1 = true) (hn : Builtin.Range.rangeSize 0 b₀ 1 = (n : Int)) (hn2 : n ≤ 2) (F : Fr h₀ env.locals s.heap m₀)
    (N : News h₀ env.locals s.heap [(c, o₀)]) (hd : o₀.data = .cell w₀)
    (turn : ∀ (i : Int) t (m₁ : Str → Option Value) o v I it h tk (R : (Str → Option Value) → List (Addr × Obj) → Prop), 0 ≤ i → i ≤ 1 → (@LT.lt Nat _ c I) →
      Fr h₀ env.locals h (fun y => if y = x then some (.int i t) else if y = y1 then m₁ y else if y = y2 then m₁ y else if y = y3 then m₁ y else m₀ y) → News h₀ env.locals h [(I, it), (c, o)] → o.data = .cell v →
      (∀ m' o' v', (∀ z, z ≠ x → z ≠ y1 → z ≠ y2 → z ≠ y3 → m' z = m₀ z) → o'.data = .cell v' → R m' [(c, o')]) →
      wpAny (model prog w) A (execs body env) (UnrPost h₀ env.locals { s with heap := h, toks := tk } I it R Q) E { s with heap := h, toks := tk })
    (done : ∀ (m₁ : Str → Option Value) o v h tk, Fr h₀ env.locals h (fun y => if y = x then m₁ y else if y = y1 then m₁ y else if y = y2 then m₁ y else if y = y3 then m₁ y else m₀ y) → News h₀ env.locals h [(c, o)] → o.data = .cell v → Q .next { s with heap := h, toks := tk }) :
    wpAny (model prog w) A (pyIter (.ref r)) (fun it s₂ => LoopAtV prog w A h₀ env x body Q E it s₂) E s := by
  refine iter_rangeUnr (n := n) hh hr hsmall hn F N fun I hI => ?_
  have hlt : c < I := hI _ (.head _)
  have hmap : ∀ (m v : Str → Option Value), (∀ z, z ≠ x → z ≠ y1 → z ≠ y2 → z ≠ y3 → m z = m₀ z) → (fun z => if z = x then v z else m z) = fun z => if z = x then v z else if z = y1 then m z else if z = y2 then m z else if z = y3 then m z else m₀ z := by
    intro m v ho
    funext z
    by_cases h1 : z = x
    · simp only [if_pos h1]
    · simp only [if_neg h1]
      by_cases h2 : z = y1
      · simp only [if_pos h2]
      · simp only [if_neg h2]
        by_cases h3 : z = y2
        · simp only [if_pos h3]
        · simp only [if_neg h3]
          by_cases h4 : z = y3
          · simp only [if_pos h4]
          · simp only [if_neg h4]; exact ho z h1 h2 h3 h4
  have key : ∀ (k i : Nat), i + k = n → ∀ (m : Str → Option Value) o v, (∀ z, z ≠ x → z ≠ y1 → z ≠ y2 → z ≠ y3 → m z = m₀ z) → o.data = .cell v →
      RangeRest prog w A E h₀ env x body Q s I 0 n k i m [(c, o)] := by
    intro k
    induction k with
    | zero =>
      intro i _ m o v ho hdo
      refine RangeRest.zero fun h tk F' N' => done m o v h tk ?_ N' hdo
      rw [← hmap m m ho]
      have e : (fun z => if z = x then m z else m z) = m := by funext z; by_cases h1 : z = x <;> simp [h1]
      rw [e]; exact F'
    | succ k ih =>
      intro i hi m o v ho hdo
      refine RangeRest.succ fun t h tk F' N' => ?_
      rw [hmap m (fun _ => some (.int (0 + (i : Int)) t)) ho] at F'
      exact turn _ t m o v I _ h tk _ (by omega) (by omega) hlt F' N' hdo fun m' o' v' ho' hdo' => ih (i + 1) (by omega) m' o' v' ho' hdo'
  exact key n 0 (by omega) m₀ o₀ w₀ (fun _ _ _ _ _ => rfl) hd
end
end
section
theorem unr_cell {h₀ : Heap} {L I c : Addr} {it o : Obj} {rest : (Str → Option Value) → List (Addr × Obj) → Prop} {s₁ : Shared} {h' : Heap} {tk : Nat} {m' : Str → Option Value} {all : List (Addr × Obj)} (F : Fr h₀ L h' m') (N : News h₀ L h' all)
    (hI : ((I, it) : Addr × Obj) ∈ all) (hc : ((c, o) : Addr × Obj) ∈ all) (hlt : @LT.lt Nat _ c I) (r : rest m' [(c, o)]) : UnrEnd h₀ L s₁ I it rest { s₁ with heap := h', toks := tk } := by
  refine UnrEnd.intro F N [(c, o)] (fun p hp => ?_) (fun p hp => ?_) r
  · rcases List.mem_cons.mp hp with e | hp
    · exact e ▸ hI
    · rw [List.mem_singleton.mp hp]; exact hc
  · rw [List.mem_singleton.mp hp]; exact Nat.ne_of_lt hlt
structure KeepP (P : Prop) : Prop where
  out : P
theorem keepOf {h₀ h : Heap} {L : Addr} {a c d e : Addr × Obj} (_ : News h₀ L h [a, c, d, e]) (h1 : c.1 ≠ a.1) (h2 : c.1 ≠ d.1) (h3 : c.1 ≠ e.1) : KeepP ((@Ne Nat c.1 a.1) ∧ (@Ne Nat c.1 d.1) ∧ (@Ne Nat c.1 e.1)) := ⟨⟨h1, h2, h3⟩⟩
theorem sel7 {h₀ h : Heap} {L : Addr} {a c d e : Addr × Obj} (N : News h₀ L h [a, c, d, e]) : News h₀ L h [c, a, d, e] := fun p hp => N p (by
  simp only [List.mem_cons, List.not_mem_nil, or_false] at hp ⊢
  rcases hp with e | e | e | e <;> simp [e])
theorem front {h₀ h : Heap} {L : Addr} {p : Addr × Obj} {news : List (Addr × Obj)} (hm : p ∈ news) (N : News h₀ L h news) : News h₀ L h (p :: news) :=
  fun q hq => (List.mem_cons.mp hq).elim (fun e => e ▸ N p hm) (N q)
theorem back {h₀ h : Heap} {L : Addr} {p : Addr × Obj} {news : List (Addr × Obj)} (N : News h₀ L h (p :: news)) : News h₀ L h news := fun q hq => N q (.tail _ hq)
section
local macro_rules | `(tactic| k_ne) => `(tactic| (refine neN ?_; (try dsimp only); first | (with_reducible assumption) | (with_reducible exact Ne.symm (by assumption)) | (with_reducible exact Nat.ne_of_gt (by assumption)) | (with_reducible exact Nat.ne_of_lt (by assumption)) | omega))
local macro_rules | `(tactic| walk_at "exec Assign cons ListComp") => `(tactic| (k_here; k_dflt (refine LCg.Assign_ListComp_U (F₀ := by k_asm) (by rfl) (by with_unfolding_all rfl) (by with_unfolding_all rfl) (by decide) (by rfl) (by decide) (by rfl) (by rfl) (by rfl) ?_)))
local macro_rules | `(tactic| walk_at "CompSrc") => `(tactic| (k_here; k_dflt (refine LCg.CompSrc.range (by rfl) (by k_asm) (by k_asm) (by assumption) (by first | decide | rfl) (by first | rfl | decide) (by first | size_fits | exact Nat.le_of_ble_eq_true rfl) ?_; intro g'; lcg_lit)))
local macro_rules | `(tactic| walk_at "exec For Name Call cons nil") => `(tactic| (k_here; (rename Fr _ _ _ _ => lF'); (with_unfolding_all refine' For_invVF lF' ?k1 ?k2 ?_; (case k1 => exact rfl); (case k2 => exact rfl); k_whole)))
theorem all_holds : PySem.Challenge.rw_ot0001_01.Holds := Mine.hd (by
  k_go0
  (all_goals try k_fold)
  repeat' (first
   | (k_unfold; (try dsimp only))
   | (k_end; kc_close)
   | (with_reducible first
    | ((with_reducible show wpAny _ _ (subscriptTail _ _ (Value.ref _) _) _ _ _); first
      | ((k_here; (with_reducible show wpAny _ _ (subscriptTail _ _ (Value.ref _) (Value.int _ _)) _ _ _); k_dflt (first
        | (refine' my_at0 ?hk ?k1 ?k2 ?_ ?k6; (case hk => decide); (case k1 => k_asm); (case k2 => k_mem); (case k6 => with_unfolding_all rfl); k_whole)
        | (refine' my_at1 ?hk ?k1 ?k2 ?_ ?k6; (case hk => decide); (case k1 => k_asm); (case k2 => k_mem); (case k6 => with_unfolding_all rfl); k_whole)
        | (refine' my_at2 ?hk ?k1 ?k2 ?_ ?k6; (case hk => decide); (case k1 => k_asm); (case k2 => k_mem); (case k6 => with_unfolding_all rfl); k_whole))))
      | ((k_here; (with_reducible show wpAny _ _ (subscriptTail _ _ (Value.ref 15) (Value.str (Kd.str _) _)) _ _ _); k_dflt (refine' bits_item _ _ ?k1 ?k2 ?_; (case k1 => k_asm); (case k2 => k_asm)); intro t9)))
    | ((with_reducible show wpAny _ _ (call (Value.ref _) _) _ _ _); first
      | ((k_here; (with_reducible show wpAny _ _ (call (Value.ref 165) _) _ _ _); k_dflt (ktr_call (t_signs _ _ _ _ _ ?p1 ?p2) 0; (case p1 => assumption); (case p2 => assumption); intro h9 tk9 F9 N9; (try dsimp only); (try k_fold))))
      | ((k_here; (with_reducible show wpAny _ _ (call (Value.ref 160) _) _ _ _); k_dflt (refine' Tell.use (t_shifts _ _ _ _ _ _ _ _ _ _ _ ?p1w160 ?p2w160) ?k1w160 ?k2w160 ?k3w160 ?k4xw160 ?k5w160 ?kKw160 ?kdw160 ?kuw160  ?_; (case k1w160 => k_asm); (case k2w160 => k_asm); (case k3w160 => k_asm); (case k4xw160 => ((refine front ?zmw160 ?znw160); (case znw160 => k_asm); (case zmw160 => k_mem))); (case k5w160 => k_asm); (case kKw160 => first | exact rfl | assumption); (case kdw160 => ktr_room); (case kuw160 => ktr_units); (case p1w160 => assumption); (case p2w160 => assumption); intro h9 tk9 F9 N9; (replace N9 := back N9); (try dsimp only); (try k_fold))))
      | ((k_here; (with_reducible show wpAny _ _ (call (Value.ref 155) _) _ _ _); k_dflt (refine' Tell.use (t_casts _ _ _ _ _ _ _ _ _ _ _ ?p1w155 ?p2w155) ?k1w155 ?k2w155 ?k3w155 ?k4xw155 ?k5w155 ?kKw155 ?kdw155 ?kuw155  ?_; (case k1w155 => k_asm); (case k2w155 => k_asm); (case k3w155 => k_asm); (case k4xw155 => ((refine front ?zmw155 ?znw155); (case znw155 => k_asm); (case zmw155 => k_mem))); (case k5w155 => k_asm); (case kKw155 => first | exact rfl | assumption); (case kdw155 => ktr_room); (case kuw155 => ktr_units); (case p1w155 => assumption); (case p2w155 => assumption); intro h9 tk9 F9 N9; (replace N9 := back N9); (try dsimp only); (try k_fold))))
      | ((k_here; (with_reducible show wpAny _ _ (call (Value.ref 85) _) _ _ _); k_dflt (refine' TellB.use (t_pool _ _ _ _ ?p1w85 ?p2w85 ?p3w85 _ _ ?p4w85 ?p5w85) ?k1w85 ?k2w85 ?k3w85 ?k4xw85 ?k5w85 ?kKw85 ?kdw85 ?kuw85 ?kPw85 ?_; (case k1w85 => k_asm); (case k2w85 => k_asm); (case k3w85 => k_asm); (case k4xw85 => k_asm); (case k5w85 => k_asm); (case kKw85 => first | exact rfl | assumption); (case kdw85 => ktr_room); (case kuw85 => ktr_units); (case kPw85 => assumption); (case p1w85 => assumption); (case p2w85 => assumption); (case p3w85 => omega); (case p4w85 => omega); (case p5w85 => omega); intro D9 x9 y9 u9 w9 hf9 hg9 l9 h9 tk9 F9 N9; (have hy9 := And.intro hf9 hg9); (try k_lt l9); (try dsimp only); (try k_fold))))
      | ((k_here; (with_reducible show wpAny _ _ (call (Value.ref 148) _) _ _ _); (repeat ((with_reducible rename _ ∧ _ => hz8); (obtain ⟨hz6, hz7⟩ := hz8))); k_dflt (ktr_call (t_numberU _ _ _ _ _ _ _ _ ?mU _ _ ?my) 0; (case mU => k_updF); (case my => exact And.intro (by assumption) (by assumption)); intro z9 t9 x9 y9 u9 w9 n9 hz9 hw9 hf9 hg9 h9 tk9 F9 N9; (try dsimp only at N9); (have hK9 := keepOf N9 (by k_ne) (by k_ne) (by k_ne)); (replace N9 := sel7 N9); (repeat (rename _ ∧ _ => hz8; clear hz8)); (obtain ⟨f7, f8, f9⟩ := KeepP.out hK9); (try dsimp only at f7 f8 f9); (try dsimp only); (try k_fold))))
      | ((k_here; (with_reducible show wpAny _ _ (call (Value.ref 99) _) _ _ _); (repeat ((with_reducible rename _ ∧ _ => hz8); (obtain ⟨hz6, hz7⟩ := hz8))); k_dflt (ktr_call (t_oneU _ _ _ _ _ _ _ _ _ _ _ ?mU ?mb ?mc _ ?mN ?m1 ?m2 ?my) 0; (case mU => k_updF); (case mb => k_mem); (case mc => k_ne); (case mN => exact rfl); (case m1 => exact Nat.le_of_ble_eq_true rfl); (case m2 => exact Nat.le_of_ble_eq_true rfl); (case my => exact And.intro (by assumption) (by assumption)); intro v9 x9 y9 u9 w9 n9 hv9 hf9 hg9 h9 tk9 F9 N9; (first | (with_reducible have hk9 := kinds_of hv9; obtain ⟨k9, q9, e9⟩ := hk9; subst e9) | (with_reducible have hk9 := places_of hv9; obtain ⟨p9, q9, e9⟩ := hk9; subst e9)); (try dsimp only at N9); (try dsimp only); (try k_fold))))
      | ((k_here; (with_reducible show wpAny _ _ (call (Value.ref 106) _) _ _ _); k_dflt (ktr_call (t_kinds _) 0; intro D9 q1 q2 q3 q4 q5 q6 q7 q8 q9 l9 h9 tk9 F9 N9; (try k_lt l9); (try dsimp only); (try k_fold))))
      | ((k_here; (with_reducible show wpAny _ _ (call (Value.ref 50) _) _ _ _); k_dflt (ktr_call (t_wrapped _ .i16 _ _ _) 0; intro x9 t9 e9; (first | (rw [show Kd.wrap .i16 1 = 1 from by decide] at e9) | skip); subst x9; intro h9 tk9 F9 N9; (try dsimp only); (try k_fold))))
      | ((k_here; (with_reducible show wpAny _ _ (call (Value.ref 50) _) _ _ _); k_dflt (ktr_call (t_wrapped _ .u8 _ _ _) 0; intro x9 t9 e9; (first | (rw [show Kd.wrap .u8 (-1) = 255 from by decide] at e9) | skip); subst x9; intro h9 tk9 F9 N9; (try dsimp only); (try k_fold))))
      | ((k_here; (with_reducible show wpAny _ _ (call (Value.ref 50) _) _ _ _); k_dflt (ktr_call (t_wrapped _ .i8 _ _ _) 0; intro x9 t9 e9; (first | (rw [show Kd.wrap .i8 255 = -1 from by decide] at e9) | skip); subst x9; intro h9 tk9 F9 N9; (try dsimp only); (try k_fold))))
      | ((k_here; (with_reducible show wpAny _ _ (call (Value.ref 43) _) _ _ _); k_dflt (ktr_call (t_fits _ .u8 _ _ _) 0; intro b9 e9; (first | (rw [show Kd.fits .u8 _ = false from by decide] at e9) | skip); subst e9; intro h9 tk9 F9 N9; (try dsimp only); (try k_fold))))
      | ((k_here; (with_reducible show wpAny _ _ (call (Value.ref 43) _) _ _ _); k_dflt (ktr_call (t_fits _ .i8 _ _ _) 0; intro b9 e9; (first | (rw [show Kd.fits .i8 _ = false from by decide] at e9) | skip); subst e9; intro h9 tk9 F9 N9; (try dsimp only); (try k_fold))))
      | ((k_here; (with_reducible show wpAny _ _ (call (Value.ref 113) _) _ _ _); k_dflt (ktr_call (t_width _ _ _) 0; intro x9 t9 e9; subst e9; intro h9 tk9 F9 N9; (try dsimp only); (try k_fold))))
      | ((k_here; (with_reducible show wpAny _ _ (call (Value.ref 36) _) _ _ _); k_dflt (ktr_call (t_greatest _ _ _) 0; intro x9 t9 e9; subst e9; intro h9 tk9 F9 N9; (try dsimp only); (try k_fold))))
      | ((k_here; (with_reducible show wpAny _ _ (call (Value.ref 29) _) _ _ _); k_dflt (ktr_call (t_least _ _ _) 0; intro x9 t9 e9; subst e9; intro h9 tk9 F9 N9; (try dsimp only); (try k_fold))))
      | ((k_here; (with_reducible show wpAny _ _ (call (Value.ref 22) _) _ _ _); k_dflt (ktr_call (t_is_signed _ _ _) 0; intro b9 e9; subst e9; intro h9 tk9 F9 N9; (try dsimp only); (try k_fold)))))
    | ((with_reducible show wpAny _ _ (pyIter (Value.ref _)) _ _ _); first
      | ((k_here; (with_reducible show wpAny _ _ (pyIter (Value.ref _)) (fun it s₂ => LoopAtV _ _ _ _ _ _ _ _ _ it s₂) _ _); (rename Fr _ _ _ _ => lF'); (rename News _ _ _ _ => lN'); (rename IsRange _ _ _ _ _ _ _ _ => rgX); (with_unfolding_all refine' iter_cell (Str.ofString "kinds") (Str.ofString "number") (Str.ofString "places") (by rfl) rgX (by first | exact small_one (by l_bnd) (by l_bnd) (by l_bnd) (by l_bnd) | decide) (by first | exact rangeSize_nat _ _ | rfl) (by omega) lF' lN' (by assumption) (fun i' t' m1' o' v' ad' it' h' tk' R' hi0' hi1' hlt' F' N' hd' hR' => ?_) (fun m1' o' v' h' tk' F' N' hd' => ?_)); (all_goals (try clear lF' lN')); (all_goals (try k_fold))))
      | ((k_here; (with_reducible show wpAny _ _ (pyIter (Value.ref _)) (fun it s₂ => LoopAtV _ _ _ _ _ _ _ _ _ it s₂) _ _); (rename Fr _ _ _ _ => lF'); (rename News _ _ _ _ => lN'); (with_unfolding_all refine' iter_kinds (vs := [_, _, _, _, _, _, _, _, _]) (fun v hv => kinds_of hv) (by rfl) lF' lN' (by k_mem) (fun k' t' i' it' h' tk' R' hlt' hbt' hhl' F' N' hR' => ?_) (fun m1' h' tk' F' N' => ?_)); (all_goals (try clear lF' lN')); (all_goals (try k_fold)))))
    | ((with_reducible show UnrEnd ..); first
      | (((with_reducible rename ∀ (_ : Str → Option Value) (_ : Obj) (_ : Option Value), _ → _ → _ => hR9); k_dflt (refine' unr_cell ?ueF ?ueN ?ueI ?uec ?uel (hR9 _ _ _ ?ues ?ued); (case ueF => k_asm); (case ueN => k_asm); (case ueI => k_mem); (case uec => k_mem); (case uel => assumption); (case ued => assumption); (case ues => intro z h1 h2 h3 h4; first | rfl | (simp only [if_neg h1, if_neg h2, if_neg h3, if_neg h4]; done) | (simp [h1, h2, h3, h4]; done)))))
      | (k_dflt (refine unr_drop [] _ (by k_asm) (by k_asm) (by assumption) (by assumption))))
    | ((with_reducible show LCg.CompRest ..); first
      | ((with_unfolding_all first
        | (refine LCg.CompRest.succ ?_; intro v' I' oI' C' oC' D' m' h' tk' E' hv' hC' hx' F' N' off' ne'; obtain ⟨t9', hv9'⟩ := hv'; subst hv9'; simp only [LCg.Off3, and_true] at off'; (have off8 := KeepP.mk off'); obtain ⟨ne1, ne2, ne3⟩ := ne'; (first
           | obtain ⟨⟨p1, p2, p3⟩, ⟨p4, p5, p6⟩, ⟨p7, p8, p9⟩, ⟨q1, q2, q3⟩⟩ := off'
           | obtain ⟨⟨p1, p2, p3⟩, ⟨p4, p5, p6⟩, ⟨p7, p8, p9⟩⟩ := off'))
        | refine LCg.CompRest.zero ?_)))
    | ((with_reducible show LCg.CompEnd ..); first
      | ((k_here; (rename News _ _ _ _ => nE9); k_dflt (first
        | (refine' LCg.CompEnd.intro ?fr nE9 [(_, _), (_, _), (_, _)] ?sub ?off True.intro ?_; (case fr => k_asm); (case off => (simp only [LCg.Off3, and_true]; exact KeepP.out (by assumption))); (case sub => lcg_sub))
        | (refine' LCg.CompEnd.intro ?fr nE9 [(_, _), (_, _), (_, _), (_, _)] ?sub ?off True.intro ?_; (case fr => k_asm); (case off => (simp only [LCg.Off3, and_true]; exact KeepP.out (by assumption))); (case sub => lcg_sub)))))))
   | ((with_reducible show UnrEnd ..); first
      | (((with_reducible rename ∀ (_ : Str → Option Value) (_ : Obj) (_ : Option Value), _ → _ → _ => hR9); k_dflt (refine' unr_cell ?ueF ?ueN ?ueI ?uec ?uel (hR9 _ _ _ ?ues ?ued); (case ueF => k_asm); (case ueN => k_asm); (case ueI => k_mem); (case uec => k_mem); (case uel => assumption); (case ued => assumption); (case ues => intro z h1 h2 h3 h4; first | rfl | (simp only [if_neg h1, if_neg h2, if_neg h3, if_neg h4]; done) | (simp [h1, h2, h3, h4]; done)))))
      | (k_dflt (refine unr_drop [] _ (by k_asm) (by k_asm) (by assumption) (by assumption))))
   | walk1
   | (dsimp only; walk1)
   | (leave1; walk_say "STEP leave1"; (try dsimp only))
   | fail "no step"))
end
end
end
end Mine
theorem PySem.Challenge.cw_ot0001_01_holds : PySem.Challenge.rw_ot0001_01.Holds := by
  exact Mine.all_holds
