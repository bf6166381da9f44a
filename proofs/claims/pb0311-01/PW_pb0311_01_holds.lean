import PyProof.Rows.All
import Wide.All
import OpenK.AllK
import Wide.FinOn
import Lean
import PySem.Challenge.RW_pb0311_01
open PySem PySem.W PyProof.Rows
set_option Elab.async false
set_option maxRecDepth 100000
namespace Mine
set_option maxHeartbeats 8000000 in
open_top hd for PySem.Challenge.rw_pb0311_01

/-- a mask of 32 bits as Python's int -/
def J (v : BitVec 32) : Int := (v.toNat : Int)
theorem J_nonneg (v : BitVec 32) : 0 ≤ J v := Int.natCast_nonneg _
theorem J_lt (v : BitVec 32) : J v < 4294967296 := by have := v.isLt; unfold J; omega
theorem J_inj {u v : BitVec 32} : J u = J v ↔ u = v := by
  unfold J
  constructor
  · intro h; exact BitVec.eq_of_toNat_eq (by omega)
  · rintro rfl; rfl
theorem J_toNat (v : BitVec 32) : (J v).toNat = v.toNat := by unfold J; omega
theorem J_of {n : Int} (h0 : 0 ≤ n) (h1 : n < 4294967296) : J (BitVec.ofNat 32 n.toNat) = n := by
  unfold J
  rw [BitVec.toNat_ofNat, Nat.mod_eq_of_lt (by omega)]
  omega
theorem J_and (u v : BitVec 32) : Builtin.bitAnd (J u) (J v) = J (u &&& v) := by
  rw [bitAnd_pp (J_nonneg u) (J_nonneg v), J_toNat, J_toNat]
  unfold J
  rw [BitVec.toNat_and]
theorem J_or (u v : BitVec 32) : Builtin.bitOr (J u) (J v) = J (u ||| v) := by
  rw [bitOr_and, J_and]
  unfold J
  rw [BitVec.toNat_and, BitVec.toNat_or]
  have := nat_or_add_and u.toNat v.toNat
  omega
theorem nat_xor_and (m : Nat) : ∀ n : Nat, (m ^^^ n) + (m &&& n) = (m ||| n) := by
  induction m using Nat.strongRecOn with
  | ind m ih =>
    intro n
    by_cases h0 : m = 0
    · subst h0; simp
    · have ih' := ih (m / 2) (by omega) (n / 2)
      rw [← Nat.or_div_two, ← Nat.and_div_two, ← Nat.xor_div_two] at ih'
      have o1 := @Nat.or_mod_two_eq_one m n
      have a1 := @Nat.and_mod_two_eq_one m n
      have x1 := @Nat.xor_mod_two_eq_one m n
      omega
theorem J_xor (u v : BitVec 32) : Builtin.bitXor (J u) (J v) = J (u ^^^ v) := by
  show Builtin.bitOr (J u) (J v) - Builtin.bitAnd (J u) (J v) = _
  rw [J_or, J_and]
  unfold J
  rw [BitVec.toNat_and, BitVec.toNat_or, BitVec.toNat_xor]
  have := nat_xor_and u.toNat v.toNat
  omega
theorem J_full : (4294967295 : Int) = J (BitVec.allOnes 32) := by decide
theorem J_not (v : BitVec 32) : Builtin.bitXor (J v) 4294967295 = J (~~~v) := by
  rw [J_full, J_xor, BitVec.xor_allOnes]
theorem J_sub (u v : BitVec 32) : Builtin.bitAnd (J u) (Builtin.bitXor (J v) 4294967295) = J (u &&& ~~~v) := by rw [J_not, J_and]
theorem J_zero : (0 : Int) = J 0#32 := by decide
/-- the bit at a place, 0 or 1 -/
def bitI (v : BitVec 32) (k : Nat) : Int := if v.getLsbD k then 1 else 0
theorem J_bit (v : BitVec 32) (k : Nat) : Builtin.bitAnd ((J v).fdiv (2 ^ k)) 1 = bitI v k := by
  have e : (J v).fdiv (2 ^ k) = ((v.toNat / 2 ^ k : Nat) : Int) := by
    unfold J
    rw [Int.fdiv_eq_ediv_of_nonneg _ (Int.le_of_lt (Int.pow_pos (by decide)))]
    norm_cast
  rw [e, bitAnd_pp (Int.natCast_nonneg _) (by decide)]
  unfold bitI
  rw [BitVec.getLsbD, Nat.testBit_eq_decide_div_mod_eq]
  have h : ((v.toNat / 2 ^ k : Nat) : Int).toNat &&& (1 : Int).toNat = (v.toNat / 2 ^ k) % 2 := by
    rw [Int.toNat_natCast]
    exact Nat.and_two_pow_sub_one_eq_mod _ 1
  rw [h]
  by_cases h1 : v.toNat / 2 ^ k % 2 = 1
  · simp [h1]
  · have : v.toNat / 2 ^ k % 2 = 0 := by omega
    simp [this]

/-- the bits from lo to hi -/
def RI (lo hi : Int) : BitVec 32 := if hi < lo then 0#32 else BitVec.ofNat 32 ((2 ^ (hi.toNat + 1 - lo.toNat) - 1) * 2 ^ lo.toNat)
theorem RI_bit {lo hi : Int} (h0 : 0 ≤ lo) {k : Nat} (hk : k < 32) : (RI lo hi).getLsbD k = (decide (lo ≤ (k : Int)) && decide ((k : Int) ≤ hi)) := by
  unfold RI
  by_cases h : hi < lo
  · rw [if_pos h, BitVec.getLsbD_zero]
    symm
    rw [Bool.and_eq_false_iff]
    by_cases h1 : lo ≤ (k : Int)
    · right; simp; omega
    · left; simp; omega
  · rw [if_neg h, BitVec.getLsbD_ofNat, Nat.testBit_mul_two_pow, Nat.testBit_two_pow_sub_one]
    rw [Bool.eq_iff_iff]
    simp only [Bool.and_eq_true, decide_eq_true_eq]
    omega
theorem J_RI {lo hi : Int} (h0 : 0 ≤ lo) (h : ¬ hi < lo) (h1 : hi ≤ 31) : (1 * 2 ^ (hi - lo + 1).toNat - 1) * 2 ^ lo.toNat = J (RI lo hi) := by
  unfold RI J
  rw [if_neg h, BitVec.toNat_ofNat]
  have e : (hi - lo + 1).toNat = hi.toNat + 1 - lo.toNat := by omega
  have hlt : (2 ^ (hi.toNat + 1 - lo.toNat) - 1) * 2 ^ lo.toNat < 2 ^ 32 := by
    have h2 : (2 ^ (hi.toNat + 1 - lo.toNat) - 1) * 2 ^ lo.toNat < 2 ^ (hi.toNat + 1 - lo.toNat) * 2 ^ lo.toNat :=
      Nat.mul_lt_mul_of_pos_right (Nat.sub_lt (Nat.two_pow_pos _) (by decide)) (Nat.two_pow_pos _)
    rw [← Nat.pow_add] at h2
    exact Nat.lt_of_lt_of_le h2 (Nat.pow_le_pow_right (by decide) (by omega))
  rw [Nat.mod_eq_of_lt hlt, e, Int.one_mul, Int.natCast_mul, Int.natCast_sub (Nat.two_pow_pos _)]
  norm_cast
theorem J_RI0 {lo hi : Int} (h : hi < lo) : (0 : Int) = J (RI lo hi) := by unfold RI; rw [if_pos h]; decide
theorem RI_snoc {lo k : Int} (h0 : 0 ≤ lo) (h : lo ≤ k) (h1 : k ≤ 31) (v : BitVec 32) : (v ||| RI lo (k - 1)) ||| RI k k = v ||| RI lo k := by
  refine BitVec.eq_of_getLsbD_eq fun i hi => ?_
  simp only [BitVec.getLsbD_or]
  rw [RI_bit h0 hi, RI_bit h0 hi, RI_bit (by omega) hi, Bool.or_assoc]
  congr 1
  rw [Bool.eq_iff_iff]
  simp only [Bool.or_eq_true, Bool.and_eq_true, decide_eq_true_eq]
  omega

abbrev okP (p : Int × Int) : Prop := 0 ≤ p.1 ∧ p.1 ≤ 31 ∧ 0 ≤ p.2 ∧ p.2 ≤ 31
/-- the set of some ranges -/
def foldS (v : BitVec 32) (ps : List (Int × Int)) : BitVec 32 := ps.foldl (fun v p => v ||| RI p.1 p.2) v
theorem foldS_bit {ps : List (Int × Int)} (hok : ∀ p ∈ ps, okP p) {k : Nat} (hk : k < 32) : ∀ v, (foldS v ps).getLsbD k = (v.getLsbD k || ps.any fun p => decide (p.1 ≤ (k : Int)) && decide ((k : Int) ≤ p.2)) := by
  induction ps with
  | nil => intro v; simp [foldS]
  | cons p r ih =>
    intro v
    have := ih (fun q hq => hok q (.tail _ hq)) (v ||| RI p.1 p.2)
    show (foldS (v ||| RI p.1 p.2) r).getLsbD k = _
    rw [this, BitVec.getLsbD_or, RI_bit (hok p (.head _)).1 hk, List.any_cons, Bool.or_assoc]
/-- the single elements of a mask, as ranges -/
def singles (a : BitVec 32) : List (Int × Int) := ((List.range 32).filter fun k => a.getLsbD k).map fun k : Nat => ((k : Int), (k : Int))
theorem singles_ok (a : BitVec 32) : ∀ p ∈ singles a, okP p := by
  intro p hp
  obtain ⟨k, hk, rfl⟩ := List.mem_map.mp hp
  have := List.mem_range.mp (List.mem_filter.mp hk).1
  refine ⟨?_, ?_, ?_, ?_⟩ <;> simp <;> omega
theorem singles_any (a : BitVec 32) {k : Nat} (hk : k < 32) : ((singles a).any fun p => decide (p.1 ≤ (k : Int)) && decide ((k : Int) ≤ p.2)) = a.getLsbD k := by
  rw [Bool.eq_iff_iff, List.any_eq_true]
  constructor
  · rintro ⟨p, hp, h⟩
    obtain ⟨j, hj, rfl⟩ := List.mem_map.mp hp
    simp only [Bool.and_eq_true, decide_eq_true_eq] at h
    have e : j = k := by omega
    subst e
    exact (List.mem_filter.mp hj).2
  · intro h
    exact ⟨((k : Int), (k : Int)), List.mem_map.mpr ⟨k, List.mem_filter.mpr ⟨List.mem_range.mpr hk, h⟩, rfl⟩, by simp⟩
theorem fold_singles (a : BitVec 32) : foldS 0#32 (singles a) = a := by
  refine BitVec.eq_of_getLsbD_eq fun i hi => ?_
  rw [foldS_bit (singles_ok a) hi, singles_any a hi]
  simp
theorem fold_singles2 (a : BitVec 32) : foldS 0#32 ((singles a).reverse ++ singles a) = a := by
  refine BitVec.eq_of_getLsbD_eq fun i hi => ?_
  rw [foldS_bit (fun p hp => (List.mem_append.mp hp).elim (fun h => singles_ok a p (List.mem_reverse.mp h)) (singles_ok a p)) hi, List.any_append, List.any_reverse, singles_any a hi]
  simp
/-- what the law unites: each range cut to 0..31 -/
abbrev cut0 (x : Int) : Int := if 0 > x then 0 else x
abbrev cut31 (x : Int) : Int := if 31 < x then 31 else x
def cutS (v : BitVec 32) (ps : List (Int × Int)) : BitVec 32 := ps.foldl (fun v p => v ||| RI (cut0 p.1) (cut31 p.2)) v
theorem cutS_eq {ps : List (Int × Int)} (hok : ∀ p ∈ ps, okP p) : ∀ v, cutS v ps = foldS v ps := by
  induction ps with
  | nil => intro v; rfl
  | cons p r ih =>
    intro v
    have h := hok p (.head _)
    show cutS (v ||| RI (cut0 p.1) (cut31 p.2)) r = foldS (v ||| RI p.1 p.2) r
    rw [show cut0 p.1 = p.1 from if_neg (by have := h.1; omega), show cut31 p.2 = p.2 from if_neg (by have := h.2.2.2; omega)]
    exact ih (fun q hq => hok q (.tail _ hq)) _
theorem RI_none {lo hi : Int} (h : hi < lo) : RI lo hi = 0#32 := if_pos h
theorem or_none (v : BitVec 32) {lo hi : Int} (h : hi < lo) : v ||| RI lo hi = v := by rw [RI_none h]; exact BitVec.or_zero
theorem none_or (v : BitVec 32) : 0#32 ||| v = v := BitVec.zero_or
theorem cutS_take {ps : List (Int × Int)} {i : Nat} {p : Int × Int} (h : ps[i]? = some p) (v : BitVec 32) : cutS v (ps.take (i + 1)) = cutS v (ps.take i) ||| RI (cut0 p.1) (cut31 p.2) := by
  unfold cutS
  rw [List.take_add_one, h, Option.toList_some, List.foldl_append]
  rfl

/-- a contract of a def: what a call of it hands back, in any frame -/
def Ctr (w : World) (mean : ExcName → Option Value) (mg mb : Str → Option Value) (dd : Nat) (f : Addr) (news : List (Addr × Obj)) (vs : List Value) (Out : Value → List (Addr × Obj) → Prop) : Prop :=
  ∀ (dp un : Nat) (gd : Option (List Code)) (cn : Str) (cs : Scope) (a : Addr) (ccd : Value) (cl : List (Str × Addr)) (outer : List Env) (A₀ : Around) (base h₀ : Heap) (L : Addr) (m : Str → Option Value) (s : Shared) (Q E : Value → Shared → Prop),
    Below A₀ base outer h₀ → Fr h₀ L s.heap m → (Mine.hd.heap_39 w.params).In h₀ → News h₀ L s.heap news → Top Mine.hd.view_39 (looseW Mine.hd.view_39 []) mean mg mb h₀ → cs.kind = .function → dp + dd < recursionLimit → un + 1000 * dd < cLine →
    (∀ r tl h' tk', Fr h₀ L h' m → News h₀ L h' (tl ++ news) → (∀ q ∈ news, ∀ p ∈ tl, q.1 < p.1) → Out r tl → Q r { s with heap := h', toks := tk' }) →
    wpAny (model PySem.Challenge.rw_pb0311_01.row.prog w) (ktrTop dp un gd cn cs L a ccd cl outer) (call (.ref f) vs) Q E s

def OutI (x : Int) (r : Value) (tl : List (Addr × Obj)) : Prop := tl = [] ∧ ∃ t, r = .int x t
def OutB (x : Bool) (r : Value) (tl : List (Addr × Obj)) : Prop := tl = [] ∧ r = .bool x
abbrev tup2 (u v : Value) : Obj := { cls := .type "tuple", data := .seq [u, v].toArray }
def OutT (x : Int) (c : Str) (r : Value) (tl : List (Addr × Obj)) : Prop := ∃ D t t', r = .ref D ∧ tl = [(D, tup2 (.int x t) (.str c t'))]

section
variable {w : World} {mean : ExcName → Option Value} {mg mb : Str → Option Value} {dd : Nat} {f : Addr} {news : List (Addr × Obj)} {vs : List Value}
  {dp un : Nat} {gd : Option (List Code)} {cn : Str} {cs : Scope} {a : Addr} {ccd : Value} {cl : List (Str × Addr)} {outer : List Env} {A₀ : Around} {base h₀ : Heap} {L : Addr} {m : Str → Option Value} {s : Shared} {Q E : Value → Shared → Prop}
theorem Ctr.useI {x : Int} (C : Ctr w mean mg mb dd f news vs (OutI x)) (B : Below A₀ base outer h₀) (F : Fr h₀ L s.heap m) (X : (Mine.hd.heap_39 w.params).In h₀) (N : News h₀ L s.heap news) (T : Top Mine.hd.view_39 (looseW Mine.hd.view_39 []) mean mg mb h₀)
    (hk : cs.kind = .function) (hd : dp + dd < recursionLimit) (hu : un + 1000 * dd < cLine) (ret : ∀ t h' tk', Fr h₀ L h' m → News h₀ L h' news → Q (.int x t) { s with heap := h', toks := tk' }) :
    wpAny (model PySem.Challenge.rw_pb0311_01.row.prog w) (ktrTop dp un gd cn cs L a ccd cl outer) (call (.ref f) vs) Q E s :=
  C dp un gd cn cs a ccd cl outer A₀ base h₀ L m s Q E B F X N T hk hd hu fun r tl h' tk' F' N' _ o => by
    obtain ⟨rfl, t, rfl⟩ := o
    exact ret t h' tk' F' N'
theorem Ctr.useB {x : Bool} (C : Ctr w mean mg mb dd f news vs (OutB x)) (B : Below A₀ base outer h₀) (F : Fr h₀ L s.heap m) (X : (Mine.hd.heap_39 w.params).In h₀) (N : News h₀ L s.heap news) (T : Top Mine.hd.view_39 (looseW Mine.hd.view_39 []) mean mg mb h₀)
    (hk : cs.kind = .function) (hd : dp + dd < recursionLimit) (hu : un + 1000 * dd < cLine) (ret : ∀ h' tk', Fr h₀ L h' m → News h₀ L h' news → Q (.bool x) { s with heap := h', toks := tk' }) :
    wpAny (model PySem.Challenge.rw_pb0311_01.row.prog w) (ktrTop dp un gd cn cs L a ccd cl outer) (call (.ref f) vs) Q E s :=
  C dp un gd cn cs a ccd cl outer A₀ base h₀ L m s Q E B F X N T hk hd hu fun r tl h' tk' F' N' _ o => by
    obtain ⟨rfl, rfl⟩ := o
    exact ret h' tk' F' N'
theorem Ctr.useT {x : Int} {c : Str} (C : Ctr w mean mg mb dd f news vs (OutT x c)) (B : Below A₀ base outer h₀) (F : Fr h₀ L s.heap m) (X : (Mine.hd.heap_39 w.params).In h₀) (N : News h₀ L s.heap news) (T : Top Mine.hd.view_39 (looseW Mine.hd.view_39 []) mean mg mb h₀)
    (hk : cs.kind = .function) (hd : dp + dd < recursionLimit) (hu : un + 1000 * dd < cLine) (ret : ∀ D t t' h' tk', Fr h₀ L h' m → News h₀ L h' ((D, ({ cls := .type "tuple", data := .seq [Value.int x t, Value.str c t'].toArray } : Obj)) :: news) → (∀ p ∈ news, p.1 < D) → Q (.ref D) { s with heap := h', toks := tk' }) :
    wpAny (model PySem.Challenge.rw_pb0311_01.row.prog w) (ktrTop dp un gd cn cs L a ccd cl outer) (call (.ref f) vs) Q E s :=
  C dp un gd cn cs a ccd cl outer A₀ base h₀ L m s Q E B F X N T hk hd hu fun r tl h' tk' F' N' hl o => by
    obtain ⟨D, t, t', rfl, rfl⟩ := o
    exact ret D t t' h' tk' F' N' fun p hp => hl p hp _ (List.mem_singleton.mpr rfl)
theorem endI {x y : Int} {t : Tok} {h' : Heap} {tk' : Nat} (hret : ∀ r tl h' tk', Fr h₀ L h' m → News h₀ L h' (tl ++ news) → (∀ q ∈ news, ∀ p ∈ tl, q.1 < p.1) → OutI x r tl → Q r { s with heap := h', toks := tk' }) (e : y = x) (F : Fr h₀ L h' m) (N : News h₀ L h' news) :
    Q (.int y t) { s with heap := h', toks := tk' } := hret _ [] h' tk' F N (fun _ _ _ h => nomatch h) ⟨rfl, t, by rw [e]⟩
theorem endB {x y : Bool} {h' : Heap} {tk' : Nat} (hret : ∀ r tl h' tk', Fr h₀ L h' m → News h₀ L h' (tl ++ news) → (∀ q ∈ news, ∀ p ∈ tl, q.1 < p.1) → OutB x r tl → Q r { s with heap := h', toks := tk' }) (e : y = x) (F : Fr h₀ L h' m) (N : News h₀ L h' news) :
    Q (.bool y) { s with heap := h', toks := tk' } := hret _ [] h' tk' F N (fun _ _ _ h => nomatch h) ⟨rfl, by rw [e]⟩
theorem endT {x y : Int} {c : Str} {t t' : Tok} {D : Addr} {h' : Heap} {tk' : Nat} (hret : ∀ r tl h' tk', Fr h₀ L h' m → News h₀ L h' (tl ++ news) → (∀ q ∈ news, ∀ p ∈ tl, q.1 < p.1) → OutT x c r tl → Q r { s with heap := h', toks := tk' }) (e : y = x) (F : Fr h₀ L h' m)
    (N : News h₀ L h' ((D, tup2 (.int y t) (.str c t')) :: news)) (hl : ∀ p ∈ news, p.1 < D) : Q (.ref D) { s with heap := h', toks := tk' } :=
  hret _ [(D, tup2 (.int y t) (.str c t'))] h' tk' F N (fun q hq p hp => by rw [List.mem_singleton.mp hp]; exact hl q hq) ⟨D, t, t', rfl, by rw [e]⟩
theorem newsDrop {h₀ h : Heap} {L : Addr} {news add : List (Addr × Obj)} (N : News h₀ L h (add ++ news)) : News h₀ L h news := fun p hp => N p (List.mem_append_right _ hp)
end


section
variable {prog : Program} {A : Around} {E Q : Value → Shared → Prop} {s : Shared} {u v : BitVec 32} {t t' : Tok}
theorem andJ (h : Q (.int (J (u &&& v)) s.toks) { s with toks := s.toks + 1 }) : wpAny (model prog w) A (binaryOp .BitAnd (.int (J u) t) (.int (J v) t')) Q E s := and_int (by rw [J_and]; exact h)
theorem xorJ (h : Q (.int (J (~~~v)) s.toks) { s with toks := s.toks + 1 }) : wpAny (model prog w) A (binaryOp .BitXor (.int (J v) t) (.int 4294967295 t')) Q E s := xor_int (by rw [J_not]; exact h)
theorem eqJ_tt (e : u = 0#32) (h : Q (.bool true) s) : wpAny (model prog w) A (compareOp .Eq (.int (J u) t) (.int 0 t')) Q E s := eq_int (by rw [show (J u == 0) = true from by rw [e]; decide]; exact h)
theorem eqJ_ff (e : ¬ u = 0#32) (h : Q (.bool false) s) : wpAny (model prog w) A (compareOp .Eq (.int (J u) t) (.int 0 t')) Q E s := eq_int (by
  rw [show (J u == 0) = false from by
    rw [J_zero, beq_eq_false_iff_ne]
    exact fun q => e (J_inj.mp q)]
  exact h)
end
local macro_rules | `(tactic| walk_at "MY enter") => `(tactic| (refine' code_def ?k1 ?k2 ?k3 ?k4 ?k5 ?kA ?kF ?kK ?k6 ?k7 ?k8 ?k9 ?kB ?_ ?c2 ?c3 ?c4 ?c5; (case kA => exact rfl); (case kF => exact rfl); (case kK => first | exact rfl | assumption); (case k1 => k_asm); (case k2 => k_asm); (case k3 => k_asm); (case k4 => k_asm); (case k5 => k_asm); (case k6 => k_is); (case k7 => k_is); (case k8 => ktr_room); (case k9 => exact BindsTo.of_eq rfl); (case c5 => decide); (case kB => exact locs rfl); (case c2 => exact rfl); (case c3 => exact rfl); (case c4 => exact rfl); k_whole; intro g' L' h' FG' F' N' B' X' T'; (try dsimp only); (try k_lift B'); (try k_fold)))
local macro_rules | `(tactic| walk_at "MY news") => `(tactic| first | k_asm | (refine' cb_drop ?N ?S; (case N => k_asm); (case S => (intro p hp; (repeat (first | exact hp | refine List.mem_cons_of_mem _ ?_))))))
local macro_rules | `(tactic| walk_at "MY use") => `(tactic| ((case B => k_asm); (case F => k_asm); (case X => k_asm); (case N => k_asm); (case T => k_asm); (case hk => first | exact rfl | assumption)))
local macro_rules | `(tactic| units_room) => `(tactic| (have hcL' := cLine_is; (try simp only [units_in1, units_deeper, Around.mark_units, units_caller]); (try dsimp only [ktrTop]); omega))
local macro_rules | `(tactic| walk_at "MY room") => `(tactic| ((case hd => ktr_room); (case hu => ktr_units)))
local macro_rules | `(tactic| walk_at "call ref") => `(tactic| (k_here; k_dflt (refine wpAny_call ?_; walk_at "MY enter")))
section
variable {w : World} {mean : ExcName → Option Value} {mg mb : Str → Option Value} {news : List (Addr × Obj)}
set_option maxHeartbeats 2000000 in
theorem two_or (u v : BitVec 32) (t0 t1 t2 : Tok) :
    Ctr w mean mg mb 2 103 news [.str (Str.ofString "s+") t0, .int (J u) t1, .int (J v) t2] (OutI (J (u ||| v))) := by
  unfold Ctr
  w_top off
  k_fill
  intro dp un gd cn cs a ccd cl outer A₀ base h₀ L m s Q E B F X N T hk hd hu hret
  refine wpAny_call ?_
  k_dflt (walk_at "MY enter")
  k_steps
  all_goals exact endI hret (J_or u v) (by k_asm) (by walk_at "MY news")
set_option maxHeartbeats 2000000 in
theorem two_and (u v : BitVec 32) (t0 t1 t2 : Tok) :
    Ctr w mean mg mb 2 103 news [.str (Str.ofString "s*") t0, .int (J u) t1, .int (J v) t2] (OutI (J (u &&& v))) := by
  unfold Ctr
  w_top off
  k_fill
  intro dp un gd cn cs a ccd cl outer A₀ base h₀ L m s Q E B F X N T hk hd hu hret
  refine wpAny_call ?_
  k_dflt (walk_at "MY enter")
  k_steps
  all_goals exact endI hret (J_and u v) (by k_asm) (by walk_at "MY news")
set_option maxHeartbeats 2000000 in
theorem two_sub (u v : BitVec 32) (t0 t1 t2 : Tok) :
    Ctr w mean mg mb 2 103 news [.str (Str.ofString "s-") t0, .int (J u) t1, .int (J v) t2] (OutI (J (u &&& ~~~v))) := by
  unfold Ctr
  w_top off
  k_fill
  intro dp un gd cn cs a ccd cl outer A₀ base h₀ L m s Q E B F X N T hk hd hu hret
  refine wpAny_call ?_
  k_dflt (walk_at "MY enter")
  k_steps
  all_goals exact endI hret (J_sub u v) (by k_asm) (by walk_at "MY news")
set_option maxHeartbeats 2000000 in
theorem two_xor (u v : BitVec 32) (t0 t1 t2 : Tok) :
    Ctr w mean mg mb 2 103 news [.str (Str.ofString "s/") t0, .int (J u) t1, .int (J v) t2] (OutI (J (u ^^^ v))) := by
  unfold Ctr
  w_top off
  k_fill
  intro dp un gd cn cs a ccd cl outer A₀ base h₀ L m s Q E B F X N T hk hd hu hret
  refine wpAny_call ?_
  k_dflt (walk_at "MY enter")
  k_steps
  all_goals exact endI hret (J_xor u v) (by k_asm) (by walk_at "MY news")
set_option maxHeartbeats 2000000 in
theorem not_ (u : BitVec 32) (t1 : Tok) : Ctr w mean mg mb 2 110 news [.int (J u) t1] (OutI (J (~~~u))) := by
  unfold Ctr
  w_top off
  k_fill
  intro dp un gd cn cs a ccd cl outer A₀ base h₀ L m s Q E B F X N T hk hd hu hret
  refine wpAny_call ?_
  k_dflt (walk_at "MY enter")
  k_steps
  all_goals exact endI hret (J_not u) (by k_asm) (by walk_at "MY news")
end
local macro_rules | `(tactic| walk_at "binaryOp BitAnd int int") => `(tactic| (k_here; with_reducible refine andJ ?_))
local macro_rules | `(tactic| walk_at "binaryOp BitXor int int") => `(tactic| (k_here; with_reducible refine xorJ ?_))
local macro_rules | `(tactic| walk_at "compareOp Eq int int") => `(tactic| (k_here; with_reducible first | refine eqJ_tt (by assumption) ?_ | refine eqJ_ff (by assumption) ?_))
section
variable {w : World} {mean : ExcName → Option Value} {mg mb : Str → Option Value} {news : List (Addr × Obj)}
set_option maxHeartbeats 2000000 in
theorem within_ (u v : BitVec 32) (t1 t2 : Tok) : Ctr w mean mg mb 2 117 news [.int (J u) t1, .int (J v) t2] (OutB (decide (u &&& ~~~v = 0#32))) := by
  by_cases hz : u &&& ~~~v = 0#32
  all_goals (
    unfold Ctr
    w_top off
    k_fill
    intro dp un gd cn cs a ccd cl outer A₀ base h₀ L m s Q E B F X N T hk hd hu hret
    refine wpAny_call ?_
    k_dflt (walk_at "MY enter")
    k_steps
    all_goals exact endB hret (by simp [hz]) (by k_asm) (by walk_at "MY news"))
set_option maxHeartbeats 2000000 in
theorem has_in (v : BitVec 32) (k : Nat) (hk : k < 32) (t1 t2 : Tok) : Ctr w mean mg mb 2 138 news [.int (k : Int) t1, .int (J v) t2] (OutT (bitI v k) (Str.ofString "")) := by
  unfold Ctr
  w_top off
  k_fill
  intro dp un gd cn cs a ccd cl outer A₀ base h₀ L m s Q E B F X N T hk hd hu hret
  refine wpAny_call ?_
  k_dflt (walk_at "MY enter")
  k_steps
  all_goals (refine' endT hret ?e ?F ?N ?l; (case F => k_asm); (case N => k_asm); (case l => assumption); (case e => rw [Int.toNat_natCast]; exact J_bit v k))
set_option maxHeartbeats 2000000 in
theorem has_out (v : BitVec 32) (e : Int) (he : e < 0 ∨ 31 < e) (t1 t2 : Tok) : Ctr w mean mg mb 2 138 news [.int e t1, .int (J v) t2] (OutT 0 (Str.ofString "bad_element")) := by
  rcases he with he | he
  all_goals (
    unfold Ctr
    w_top off
    k_fill
    intro dp un gd cn cs a ccd cl outer A₀ base h₀ L m s Q E B F X N T hk hd hu hret
    refine wpAny_call ?_
    k_dflt (walk_at "MY enter")
    k_steps
    all_goals (refine' endT hret ?e ?F ?N ?l; (case F => k_asm); (case N => k_asm); (case l => assumption); (case e => rfl)))
set_option maxHeartbeats 2000000 in
theorem mask_range_ (lo hi : Int) (h0 : 0 ≤ lo) (h1 : lo ≤ 31) (h2 : 0 ≤ hi) (h3 : hi ≤ 31) (t1 t2 : Tok) : Ctr w mean mg mb 2 84 news [.int lo t1, .int hi t2] (OutI (J (RI lo hi))) := by
  by_cases hz : hi < lo
  all_goals (
    unfold Ctr
    w_top off
    k_fill
    intro dp un gd cn cs a ccd cl outer A₀ base h₀ L m s Q E B F X N T hk hd hu hret
    refine wpAny_call ?_
    k_dflt (walk_at "MY enter")
    k_steps
    all_goals first | exact endI hret (J_RI0 hz) (by k_asm) (by walk_at "MY news") | exact endI hret (J_RI h0 hz h3) (by k_asm) (by walk_at "MY news"))
end

theorem bvext {x y : BitVec 32} (h : ∀ i, i < 32 → x.getLsbD i = y.getLsbD i) : x = y := BitVec.eq_of_getLsbD_eq fun i hi => h i hi
section
variable {prog : Program} {w : World} {A : Around} {E Q : Value → Shared → Prop} {s : Shared} {u v : BitVec 32} {t t' : Tok}
theorem neJ_ff (e : u = v) (h : Q (.bool false) s) : wpAny (model prog w) A (compareOp .NotEq (.int (J u) t) (.int (J v) t')) Q E s := ne_int (by rw [show (J u != J v) = false from by rw [e]; simp]; exact h)
theorem eqJ_0 (e : u = 0#32) (h : Q (.bool true) s) : wpAny (model prog w) A (compareOp .Eq (.int (J u) t) (.int 0 t')) Q E s := eqJ_tt e h
theorem eqJ_1 (e : u = BitVec.allOnes 32) (h : Q (.bool true) s) : wpAny (model prog w) A (compareOp .Eq (.int (J u) t) (.int 4294967295 t')) Q E s := eq_int (by rw [show (J u == 4294967295) = true from by rw [e]; decide]; exact h)
theorem eqJ_d (h : Q (.bool (decide (u = v))) s) : wpAny (model prog w) A (compareOp .Eq (.int (J u) t) (.int (J v) t')) Q E s := eq_int (by rw [show (J u == J v) = decide (u = v) from by rw [Bool.eq_iff_iff]; simp [J_inj]]; exact h)
theorem eqJ_d0 (h : Q (.bool (decide (u = 0#32))) s) : wpAny (model prog w) A (compareOp .Eq (.int (J u) t) (.int 0 t')) Q E s := eq_int (by rw [show (J u == 0) = decide (u = 0#32) from by rw [J_zero, Bool.eq_iff_iff]; simp [J_inj]]; exact h)
end
local macro_rules | `(tactic| walk_at "MY bits") => `(tactic| (refine bvext fun i hi => ?_; (simp only [BitVec.getLsbD_and, BitVec.getLsbD_or, BitVec.getLsbD_xor, BitVec.getLsbD_not, BitVec.getLsbD_zero, BitVec.getLsbD_allOnes, hi, decide_true, Bool.true_and]); first | done | (generalize BitVec.getLsbD _ i = p; first | (revert p; decide) | (generalize BitVec.getLsbD _ i = q; first | (revert p q; decide) | (generalize BitVec.getLsbD _ i = r; revert p q r; decide)))))
local macro_rules | `(tactic| walk_at "call ref") => `(tactic| (k_here; (with_reducible first | show wpAny _ _ (call (Value.ref 103) _) _ _ _ | show wpAny _ _ (call (Value.ref 110) _) _ _ _); k_dflt (refine' Ctr.useI ?C ?B ?F ?X ?N ?T ?hk ?hd ?hu ?_; walk_at "MY use"; (case C => first | exact two_or _ _ _ _ _ | exact two_and _ _ _ _ _ | exact two_sub _ _ _ _ _ | exact two_xor _ _ _ _ _ | exact not_ _ _); walk_at "MY room"; intro t' h' tk' F' N'; (try k_sweep))))
local macro_rules | `(tactic| walk_at "call ref") => `(tactic| (k_here; (with_reducible show wpAny _ _ (call (Value.ref 117) _) _ _ _); k_dflt (refine' Ctr.useB ?C ?B ?F ?X ?N ?T ?hk ?hd ?hu ?_; walk_at "MY use"; (case C => exact within_ _ _ _ _); walk_at "MY room"; intro h' tk' F' N'; (try k_sweep))))
local macro_rules | `(tactic| walk_at "compareOp NotEq int int") => `(tactic| (k_here; (with_reducible refine neJ_ff ?e ?_); (case e => k_dflt (walk_at "MY bits"))))
local macro_rules | `(tactic| walk_at "compareOp Eq int int") => `(tactic| (k_here; first | ((with_reducible refine eqJ_0 ?e ?_); (case e => k_dflt (walk_at "MY bits"))) | ((with_reducible refine eqJ_1 ?e ?_); (case e => k_dflt (walk_at "MY bits")))))
section
variable {w : World} {mean : ExcName → Option Value} {mg mb : Str → Option Value} {news : List (Addr × Obj)}
set_option maxHeartbeats 2000000 in
theorem algebra_ (a b c : BitVec 32) (t1 t2 t3 : Tok) : Ctr w mean mg mb 4 124 news [.int (J a) t1, .int (J b) t2, .int (J c) t3] (OutB true) := by
  unfold Ctr
  w_top off
  k_fill
  intro dp un gd cn cs ax ccd cl outer A₀ base h₀ L m s Q E B F X N T hk hd hu hret
  refine wpAny_call ?_
  k_dflt (walk_at "MY enter")
  k_steps
  all_goals exact endB hret rfl (by k_asm) (by walk_at "MY news")
theorem sub_iff (u v : BitVec 32) : u &&& ~~~v = 0#32 ↔ u &&& v = u := by
  have e : u = (u &&& v) ||| (u &&& ~~~v) := by walk_at "MY bits"
  constructor
  · intro h; rw [h] at e; simpa using e.symm
  · intro h; rw [← h]; walk_at "MY bits"
theorem sub_both {u v : BitVec 32} (h1 : u &&& v = u) (h2 : u &&& v = v) : u = v := h1.symm.trans h2
theorem sub_ne1 {u v : BitVec 32} (h1 : ¬ u &&& v = u) : ¬ u = v := fun e => h1 (by rw [e]; exact BitVec.and_self)
theorem sub_ne2 {u v : BitVec 32} (h1 : ¬ u &&& v = v) : ¬ u = v := fun e => h1 (by rw [e]; exact BitVec.and_self)
theorem within_tt (u v : BitVec 32) (t1 t2 : Tok) (h : u &&& ~~~v = 0#32) : Ctr w mean mg mb 2 117 news [.int (J u) t1, .int (J v) t2] (OutB true) := by
  have := within_ (w := w) (mean := mean) (mg := mg) (mb := mb) (news := news) u v t1 t2
  rwa [decide_eq_true h] at this
theorem within_ff (u v : BitVec 32) (t1 t2 : Tok) (h : ¬ u &&& ~~~v = 0#32) : Ctr w mean mg mb 2 117 news [.int (J u) t1, .int (J v) t2] (OutB false) := by
  have := within_ (w := w) (mean := mean) (mg := mg) (mb := mb) (news := news) u v t1 t2
  rwa [decide_eq_false h] at this
section
variable {prog : Program} {A : Around} {E Q : Value → Shared → Prop} {s : Shared} {u v : BitVec 32} {t t' : Tok}
theorem eqJ_t (e : u = v) (h : Q (.bool true) s) : wpAny (model prog w) A (compareOp .Eq (.int (J u) t) (.int (J v) t')) Q E s := eqJ_d (by rw [decide_eq_true e]; exact h)
theorem eqJ_f (e : ¬ u = v) (h : Q (.bool false) s) : wpAny (model prog w) A (compareOp .Eq (.int (J u) t) (.int (J v) t')) Q E s := eqJ_d (by rw [decide_eq_false e]; exact h)
end
end
local macro_rules | `(tactic| walk_at "compareOp Eq int int") => `(tactic| (k_here; with_reducible first | refine eqJ_t (by assumption) ?_ | refine eqJ_f (by assumption) ?_ | refine eqJ_tt (by assumption) ?_ | refine eqJ_ff (by assumption) ?_))
local macro_rules | `(tactic| walk_at "call ref") => `(tactic| (k_here; (with_reducible show wpAny _ _ (call (Value.ref 117) _) _ _ _); k_dflt (refine' Ctr.useB ?C ?B ?F ?X ?N ?T ?hk ?hd ?hu ?_; walk_at "MY use"; (case C => first | exact within_tt _ _ _ _ (by assumption) | exact within_ff _ _ _ _ (by assumption) | exact within_tt _ _ _ _ (by walk_at "MY bits")); walk_at "MY room"; intro h' tk' F' N'; (try k_sweep))))
section
variable {w : World} {mean : ExcName → Option Value} {mg mb : Str → Option Value} {news : List (Addr × Obj)}
set_option maxHeartbeats 2000000 in
theorem order_ (a b c : BitVec 32) (t1 t2 t3 : Tok) : Ctr w mean mg mb 4 131 news [.int (J a) t1, .int (J b) t2, .int (J c) t3] (OutB true) := by
  have hab : a &&& ~~~b = 0#32 ↔ a &&& b = a := sub_iff a b
  have hba : b &&& ~~~a = 0#32 ↔ a &&& b = b := by rw [sub_iff, BitVec.and_comm]
  by_cases z1 : a &&& ~~~b = 0#32 <;> by_cases z2 : b &&& ~~~a = 0#32
  · have e1 := hab.mp z1
    have e2 := hba.mp z2
    have e3 := sub_both e1 e2
    unfold Ctr
    w_top off
    k_fill
    intro dp un gd cn cs ax ccd cl outer A₀ base h₀ L m s Q E B F X N T hk hd hu hret
    refine wpAny_call ?_
    k_dflt (walk_at "MY enter")
    k_steps
    all_goals exact endB hret rfl (by k_asm) (by walk_at "MY news")
  · have e1 := hab.mp z1
    have e2 := fun q => z2 (hba.mpr q)
    have e3 := sub_ne2 e2
    unfold Ctr
    w_top off
    k_fill
    intro dp un gd cn cs ax ccd cl outer A₀ base h₀ L m s Q E B F X N T hk hd hu hret
    refine wpAny_call ?_
    k_dflt (walk_at "MY enter")
    k_steps
    all_goals exact endB hret rfl (by k_asm) (by walk_at "MY news")
  · have e1 := fun q => z1 (hab.mpr q)
    have e2 := hba.mp z2
    have e3 := sub_ne1 e1
    unfold Ctr
    w_top off
    k_fill
    intro dp un gd cn cs ax ccd cl outer A₀ base h₀ L m s Q E B F X N T hk hd hu hret
    refine wpAny_call ?_
    k_dflt (walk_at "MY enter")
    k_steps
    all_goals exact endB hret rfl (by k_asm) (by walk_at "MY news")
  · have e1 := fun q => z1 (hab.mpr q)
    have e2 := fun q => z2 (hba.mpr q)
    have e3 := sub_ne1 e1
    unfold Ctr
    w_top off
    k_fill
    intro dp un gd cn cs ax ccd cl outer A₀ base h₀ L m s Q E B F X N T hk hd hu hret
    refine wpAny_call ?_
    k_dflt (walk_at "MY enter")
    k_steps
    all_goals exact endB hret rfl (by k_asm) (by walk_at "MY news")
end

section
variable {w : World} {mean : ExcName → Option Value} {mg mb : Str → Option Value} {news : List (Addr × Obj)}
theorem bit_1 {v : BitVec 32} {k : Nat} (h : v.getLsbD k = true) : bitI v k = 1 := by unfold bitI; rw [h]; rfl
theorem bit_0 {v : BitVec 32} {k : Nat} (h : v.getLsbD k = false) : bitI v k = 0 := by unfold bitI; rw [h]; rfl
theorem has_1 (v : BitVec 32) (k : Nat) (hk : k < 32) (t1 t2 : Tok) (h : v.getLsbD k = true) : Ctr w mean mg mb 2 138 news [.int (k : Int) t1, .int (J v) t2] (OutT 1 (Str.ofString "")) := by
  have := has_in (w := w) (mean := mean) (mg := mg) (mb := mb) (news := news) v k hk t1 t2
  rwa [bit_1 h] at this
theorem has_0 (v : BitVec 32) (k : Nat) (hk : k < 32) (t1 t2 : Tok) (h : v.getLsbD k = false) : Ctr w mean mg mb 2 138 news [.int (k : Int) t1, .int (J v) t2] (OutT 0 (Str.ofString "")) := by
  have := has_in (w := w) (mean := mean) (mg := mg) (mb := mb) (news := news) v k hk t1 t2
  rwa [bit_0 h] at this
end
local macro_rules | `(tactic| walk_at "call ref") => `(tactic| (k_here; (with_reducible show wpAny _ _ (call (Value.ref 138) _) _ _ _); k_dflt (refine' Ctr.useT ?C ?B ?F ?X ?N ?T ?hk ?hd ?hu ?_; walk_at "MY use"; (case C => first | exact has_1 _ _ (by assumption) _ _ (by assumption) | exact has_0 _ _ (by assumption) _ _ (by assumption) | exact has_out _ _ (by assumption) _ _); walk_at "MY room"; intro D' t' u' h' tk' F' N' l1; (try k_lt l1); (try k_sweep))))
section
variable {w : World} {mean : ExcName → Option Value} {mg mb : Str → Option Value} {news : List (Addr × Obj)}
set_option maxHeartbeats 2000000 in
theorem members_out (a b : BitVec 32) (e : Int) (he : e < 0 ∨ 31 < e) (t1 t2 t3 : Tok) : Ctr w mean mg mb 4 145 news [.int (J a) t1, .int (J b) t2, .int e t3] (OutB true) := by
  rcases he with he' | he'
  · have he : e < 0 ∨ 31 < e := .inl he'
    unfold Ctr
    w_top off
    k_fill
    intro dp un gd cn cs ax ccd cl outer A₀ base h₀ L m s Q E B F X N T hk hd hu hret
    refine wpAny_call ?_
    k_dflt (walk_at "MY enter")
    k_steps
    all_goals exact endB hret rfl (by k_asm) (by walk_at "MY news")
  · have he : e < 0 ∨ 31 < e := .inr he'
    unfold Ctr
    w_top off
    k_fill
    intro dp un gd cn cs ax ccd cl outer A₀ base h₀ L m s Q E B F X N T hk hd hu hret
    refine wpAny_call ?_
    k_dflt (walk_at "MY enter")
    k_steps
    all_goals exact endB hret rfl (by k_asm) (by walk_at "MY news")
set_option maxHeartbeats 2000000 in
theorem members_in (d1 d2 : Addr) (o1 o2 : Obj) (a b : BitVec 32) (k : Nat) (hk : k < 32) (t1 t2 t3 : Tok) : Ctr w mean mg mb 4 145 [(d1, o1), (d2, o2)] [.int (J a) t1, .int (J b) t2, .int (k : Int) t3] (OutB true) := by
  obtain ⟨p, ha⟩ : ∃ p, a.getLsbD k = p := ⟨_, rfl⟩
  obtain ⟨q, hb⟩ : ∃ q, b.getLsbD k = q := ⟨_, rfl⟩
  have h1 : (a ||| b).getLsbD k = (p || q) := by rw [BitVec.getLsbD_or, ha, hb]
  have h2 : (a &&& b).getLsbD k = (p && q) := by rw [BitVec.getLsbD_and, ha, hb]
  have h3 : (a &&& ~~~b).getLsbD k = (p && !q) := by rw [BitVec.getLsbD_and, BitVec.getLsbD_not, ha, hb, decide_eq_true hk, Bool.true_and]
  have h4 : (a ^^^ b).getLsbD k = (p ^^ q) := by rw [BitVec.getLsbD_xor, ha, hb]
  have h5 : (~~~a).getLsbD k = !p := by rw [BitVec.getLsbD_not, ha, decide_eq_true hk, Bool.true_and]
  cases p <;> cases q
  all_goals (
    unfold Ctr
    w_top off
    k_fill
    intro dp un gd cn cs ax ccd cl outer A₀ base h₀ L m s Q E B F X N T hk hd hu hret
    refine wpAny_call ?_
    k_dflt (walk_at "MY enter")
    k_steps
    all_goals exact endB hret rfl (by k_asm) (by walk_at "MY news"))
theorem members_ (d1 d2 : Addr) (o1 o2 : Obj) (a b : BitVec 32) (e : Int) (t1 t2 t3 : Tok) : Ctr w mean mg mb 4 145 [(d1, o1), (d2, o2)] [.int (J a) t1, .int (J b) t2, .int e t3] (OutB true) := by
  by_cases h : 0 ≤ e ∧ e ≤ 31
  · obtain ⟨k, rfl⟩ := Int.eq_ofNat_of_zero_le h.1
    exact members_in d1 d2 o1 o2 a b k (by omega) t1 t2 t3
  · exact members_out a b e (by omega) t1 t2 t3
end

/-- the end of a loop's turn -/
def TEnd (h₀ : Heap) (L : Addr) (s₁ : Shared) (I : Addr) (it : Obj) (R : (Str → Option Value) → List (Addr × Obj) → Prop) (s₂ : Shared) : Prop :=
  ∃ h' tk m' nx, s₂ = { s₁ with heap := h', toks := tk } ∧ Fr h₀ L h' m' ∧ News h₀ L h' ((I, it) :: nx) ∧ (∀ p ∈ nx, p.1 ≠ I) ∧ R m' nx
def TPost (h₀ : Heap) (L : Addr) (s₁ : Shared) (I : Addr) (it : Obj) (R : (Str → Option Value) → List (Addr × Obj) → Prop) (Q : Flow → Shared → Prop) (f : Flow) (s₂ : Shared) : Prop :=
  match f with
  | .ret v => Q (.ret v) s₂
  | .brk => Q .next s₂
  | _ => TEnd h₀ L s₁ I it R s₂
theorem TPost.ret {h₀ : Heap} {L : Addr} {s₁ : Shared} {I : Addr} {it : Obj} {R : (Str → Option Value) → List (Addr × Obj) → Prop} {Q : Flow → Shared → Prop} {v : Value} {s₂ : Shared} (h : Q (.ret v) s₂) : TPost h₀ L s₁ I it R Q (.ret v) s₂ := h
theorem TPost.next {h₀ : Heap} {L : Addr} {s₁ : Shared} {I : Addr} {it : Obj} {R : (Str → Option Value) → List (Addr × Obj) → Prop} {Q : Flow → Shared → Prop} {s₂ : Shared} (h : TEnd h₀ L s₁ I it R s₂) : TPost h₀ L s₁ I it R Q .next s₂ := h
theorem TEnd.intro {h₀ : Heap} {L : Addr} {s₁ : Shared} {I : Addr} {it : Obj} {R : (Str → Option Value) → List (Addr × Obj) → Prop} {h' : Heap} {tk : Nat} {m' : Str → Option Value} {nx : List (Addr × Obj)}
    (F : Fr h₀ L h' m') (N : News h₀ L h' ((I, it) :: nx)) (off : ∀ p ∈ nx, p.1 ≠ I) (r : R m' nx) : TEnd h₀ L s₁ I it R { s₁ with heap := h', toks := tk } := ⟨h', tk, m', nx, rfl, F, N, off, r⟩

section
variable {prog : Program} {w : World} {A : Around} {E : Value → Shared → Prop} {s : Shared} {env : Env} {h₀ : Heap} {target : PySem.Expr} {x : Str} {body : List Stmt} {Q : Flow → Shared → Prop}
/-- a loop over a list of the ledger, by what holds between the turns -/
theorem items_go {I ax : Addr} {lo : Obj} {xs : List Value} (R : Nat → (Str → Option Value) → List (Addr × Obj) → Prop) (hk : ∀ i m nx, R i m nx → (ax, lo) ∈ nx)
    (turn : ∀ i v m nx h tk oI, xs[i]? = some v → R i m nx → (∀ p ∈ nx, p.1 ≠ I) → Fr h₀ env.locals h m → oI.cls = .type "list_iterator" → News h₀ env.locals h ((I, oI) :: nx) →
      wpAny (model prog w) A (assign target env v) (fun _ s₂ => wpAny (model prog w) A (execs body env) (TPost h₀ env.locals { s with heap := h, toks := tk } I oI (R (i + 1)) Q) E s₂) E { s with heap := h, toks := tk })
    (done : ∀ m nx h tk, R xs.length m nx → Fr h₀ env.locals h m → News h₀ env.locals h nx → Q .next { s with heap := h, toks := tk }) :
    ∀ (ys : List Value) (i : Nat) (m : Str → Option Value) (nx : List (Addr × Obj)), xs.drop i = ys → i ≤ xs.length → R i m nx → (∀ p ∈ nx, p.1 ≠ I) →
      ItemsRest prog w A E h₀ env target body Q s [(I, "list_iterator")] [(ax, lo)] (ys.map .val) m nx := by
  intro ys
  induction ys with
  | nil =>
    intro i m nx hd hi hR _
    have e : i = xs.length := by
      have := congrArg List.length hd
      rw [List.length_drop, List.length_nil] at this
      omega
    rw [e] at hR
    exact ItemsRest.zero fun h tk F N => done m nx h tk hR F N
  | cons v r ih =>
    intro i m nx hd hi hR off
    have hv : xs[i]? = some v := by
      have h1 : (xs.drop i)[0]? = some v := by rw [hd]; rfl
      rw [List.getElem?_drop, Nat.add_zero] at h1
      exact h1
    have hlt : i < xs.length := by
      have := congrArg List.length hd
      rw [List.length_drop, List.length_cons] at this
      omega
    have hd' : xs.drop (i + 1) = r := by
      rw [← List.tail_drop, hd]; rfl
    refine ItemsRest.val fun h tk F => AllObj.cons fun oI hc => AllObj.nil fun N => ?_
    refine wpAny_mono (turn i v m nx h tk oI hv hR off F hc N) (fun _ s₂ h₂ => ?_) fun _ _ e => e
    refine wpAny_mono h₂ (fun f s₃ h₃ => ?_) fun _ _ e => e
    have fin : TEnd h₀ env.locals { s with heap := h, toks := tk } I oI (R (i + 1)) s₃ →
        UnrEndW h₀ env.locals { s with heap := h, toks := tk } [(I, oI)] (fun m' n' => SubL [(ax, lo)] n' ∧ ItemsRest prog w A E h₀ env target body Q s [(I, "list_iterator")] [(ax, lo)] (r.map .val) m' n') s₃ := by
      rintro ⟨h', tk', m', nx', e, F', N', off', hR'⟩
      exact ⟨h', tk', m', nx', e, F', N', fun p hp q hq => by rw [List.mem_singleton.mp hq]; exact off' p hp, ⟨hk _ _ _ hR', trivial⟩, ih (i + 1) m' nx' hd' hlt hR' off'⟩
    cases f with
    | ret v => exact h₃
    | brk => exact h₃
    | next => exact fin h₃
    | cont => exact fin h₃
theorem list_go {ax : Addr} {n : Nat} {xs : List Value} {m₀ : Str → Option Value} {news : List (Addr × Obj)} (R : Nat → (Str → Option Value) → List (Addr × Obj) → Prop)
    (hh : A.handled = none) (F : Fr h₀ env.locals s.heap m₀) (N : News h₀ env.locals s.heap news) (hm : (ax, listOf xs.toArray n) ∈ news) (h0 : R 0 m₀ news) (hk : ∀ i m nx, R i m nx → (ax, listOf xs.toArray n) ∈ nx)
    (turn : ∀ I i v m nx h tk oI, (∀ p ∈ news, p.1 < I) → xs[i]? = some v → R i m nx → (∀ p ∈ nx, p.1 ≠ I) → Fr h₀ env.locals h m → oI.cls = .type "list_iterator" → News h₀ env.locals h ((I, oI) :: nx) →
      wpAny (model prog w) A (assign target env v) (fun _ s₂ => wpAny (model prog w) A (execs body env) (TPost h₀ env.locals { s with heap := h, toks := tk } I oI (R (i + 1)) Q) E s₂) E { s with heap := h, toks := tk })
    (done : ∀ m nx h tk, R xs.length m nx → Fr h₀ env.locals h m → News h₀ env.locals h nx → Q .next { s with heap := h, toks := tk }) :
    wpAny (model prog w) A (pyIter (.ref ax)) (fun it s₂ => TurnsAt prog w A h₀ env target body Q E it s₂) E s :=
  iter_listTurns hh F N hm rfl rfl fun I hI => items_go R hk (fun i v m nx h tk oI => turn I i v m nx h tk oI hI) done xs 0 m₀ news rfl (Nat.zero_le _) h0 fun p hp => Nat.ne_of_lt (hI p hp)
theorem range_go {I : Addr} {a : Int} {n : Nat} (R : Nat → (Str → Option Value) → List (Addr × Obj) → Prop)
    (turn : ∀ i m nx t h tk oI, i < n → R i m nx → (∀ p ∈ nx, p.1 ≠ I) → Fr h₀ env.locals h (fun y => if y = x then some (.int (a + (i : Int)) t) else m y) → News h₀ env.locals h ((I, oI) :: nx) →
      wpAny (model prog w) A (execs body env) (TPost h₀ env.locals { s with heap := h, toks := tk } I oI (R (i + 1)) Q) E { s with heap := h, toks := tk })
    (done : ∀ m nx h tk, R n m nx → Fr h₀ env.locals h m → News h₀ env.locals h nx → Q .next { s with heap := h, toks := tk }) :
    ∀ (k i : Nat) (m : Str → Option Value) (nx : List (Addr × Obj)), i + k = n → R i m nx → (∀ p ∈ nx, p.1 ≠ I) → RangeRest prog w A E h₀ env x body Q s I a n k i m nx := by
  intro k
  induction k with
  | zero =>
    intro i m nx hi hR _
    have e : i = n := by omega
    rw [e] at hR
    exact RangeRest.zero fun h tk F N => done m nx h tk hR F N
  | succ k ih =>
    intro i m nx hi hR off
    refine RangeRest.succ fun t h tk F N => ?_
    refine wpAny_mono (turn i m nx t h tk _ (by omega) hR off F N) (fun f s₃ h₃ => ?_) fun _ _ e => e
    have fin : TEnd h₀ env.locals { s with heap := h, toks := tk } I (itR (a + ((i + 1 : Nat) : Int)) ((n : Int) - ((i + 1 : Nat) : Int))) (R (i + 1)) s₃ →
        UnrEnd h₀ env.locals { s with heap := h, toks := tk } I (itR (a + ((i + 1 : Nat) : Int)) ((n : Int) - ((i + 1 : Nat) : Int))) (RangeRest prog w A E h₀ env x body Q s I a n k (i + 1)) s₃ := by
      rintro ⟨h', tk', m', nx', e, F', N', off', hR'⟩
      exact ⟨h', tk', m', nx', e, F', N', off', ih (i + 1) m' nx' (by omega) hR' off'⟩
    cases f with
    | ret v => exact h₃
    | brk => exact h₃
    | next => exact fin h₃
    | cont => exact fin h₃
theorem span_go {r : Addr} {a₀ b₀ : Int} {t₀ u₀ v₀ : Tok} {n : Nat} {m₀ : Str → Option Value} {news : List (Addr × Obj)} (R : Nat → (Str → Option Value) → List (Addr × Obj) → Prop)
    (hh : A.handled = none) (hr : IsRange s.heap r a₀ b₀ 1 t₀ u₀ v₀) (hsmall : Builtin.Range.small a₀ b₀ 1 = true) (hn : Builtin.Range.rangeSize a₀ b₀ 1 = (n : Int)) (F : Fr h₀ env.locals s.heap m₀) (N : News h₀ env.locals s.heap news) (h0 : R 0 m₀ news)
    (turn : ∀ I i m nx t h tk oI, (∀ p ∈ news, p.1 < I) → i < n → R i m nx → (∀ p ∈ nx, p.1 ≠ I) → Fr h₀ env.locals h (fun y => if y = x then some (.int (a₀ + (i : Int)) t) else m y) → News h₀ env.locals h ((I, oI) :: nx) →
      wpAny (model prog w) A (execs body env) (TPost h₀ env.locals { s with heap := h, toks := tk } I oI (R (i + 1)) Q) E { s with heap := h, toks := tk })
    (done : ∀ m nx h tk, R n m nx → Fr h₀ env.locals h m → News h₀ env.locals h nx → Q .next { s with heap := h, toks := tk }) :
    wpAny (model prog w) A (pyIter (.ref r)) (fun it s₂ => LoopAtV prog w A h₀ env x body Q E it s₂) E s :=
  iter_rangeUnr hh hr hsmall hn F N fun I hI => range_go R (fun i m nx t h tk oI => turn I i m nx t h tk oI hI) done n 0 m₀ news (Nat.zero_add _) h0 fun p hp => Nat.ne_of_lt (hI p hp)
end

/-- the ledger bears a list of pairs of ints -/
def PairIn (news : List (Addr × Obj)) (v : Value) (p : Int × Int) : Prop := ∃ D t t', v = .ref D ∧ (D, ({ cls := .type "tuple", data := .seq [Value.int p.1 t, Value.int p.2 t'].toArray } : Obj)) ∈ news
def PairsIn (news : List (Addr × Obj)) : List Value → List (Int × Int) → Prop
  | [], [] => True
  | v :: vs, p :: ps => PairIn news v p ∧ PairsIn news vs ps
  | _, _ => False
theorem PairIn.mono {news news' : List (Addr × Obj)} (hs : ∀ p ∈ news, p ∈ news') {v : Value} {p : Int × Int} (h : PairIn news v p) : PairIn news' v p := by
  obtain ⟨D, t, t', e, hm⟩ := h
  exact ⟨D, t, t', e, hs _ hm⟩
theorem PairsIn.mono {news news' : List (Addr × Obj)} (hs : ∀ p ∈ news, p ∈ news') : ∀ {vs : List Value} {ps : List (Int × Int)}, PairsIn news vs ps → PairsIn news' vs ps
  | [], [], _ => trivial
  | _ :: _, _ :: _, h => ⟨h.1.mono hs, PairsIn.mono hs h.2⟩
  | [], _ :: _, h => h.elim
  | _ :: _, [], h => h.elim
theorem PairsIn.length {news : List (Addr × Obj)} : ∀ {vs : List Value} {ps : List (Int × Int)}, PairsIn news vs ps → vs.length = ps.length
  | [], [], _ => rfl
  | _ :: _, _ :: _, h => by rw [List.length_cons, List.length_cons, PairsIn.length h.2]
  | [], _ :: _, h => h.elim
  | _ :: _, [], h => h.elim
theorem PairsIn.get {news : List (Addr × Obj)} : ∀ {vs : List Value} {ps : List (Int × Int)}, PairsIn news vs ps → ∀ {i : Nat} {v : Value}, vs[i]? = some v → ∃ p, ps[i]? = some p ∧ PairIn news v p
  | [], [], _, _, _, hv => by simp at hv
  | _ :: _, p :: _, h, 0, v, hv => ⟨p, rfl, by simp at hv; rw [← hv]; exact h.1⟩
  | _ :: _, _ :: _, h, i + 1, v, hv => by
    simp only [List.getElem?_cons_succ] at hv
    obtain ⟨q, hq, hP⟩ := PairsIn.get h.2 hv
    exact ⟨q, by simpa using hq, hP⟩
  | [], _ :: _, h, _, _, _ => h.elim
  | _ :: _, [], h, _, _, _ => h.elim
theorem PairsIn.append {news : List (Addr × Obj)} : ∀ {vs ws : List Value} {ps qs : List (Int × Int)}, PairsIn news vs ps → PairsIn news ws qs → PairsIn news (vs ++ ws) (ps ++ qs)
  | [], _, [], _, _, h => h
  | _ :: _, _, _ :: _, _, h, k => ⟨h.1, PairsIn.append h.2 k⟩
  | [], _, _ :: _, _, h, _ => h.elim
  | _ :: _, _, [], _, h, _ => h.elim
theorem PairsIn.reverse {news : List (Addr × Obj)} : ∀ {vs : List Value} {ps : List (Int × Int)}, PairsIn news vs ps → PairsIn news vs.reverse ps.reverse
  | [], [], _ => trivial
  | _ :: _, _ :: _, h => by
    rw [List.reverse_cons, List.reverse_cons]
    exact PairsIn.append (PairsIn.reverse h.2) ⟨h.1, trivial⟩
  | [], _ :: _, h => h.elim
  | _ :: _, [], h => h.elim
/-- off the free names the map is as it was -/
def KeepM (free : List Str) (m₀ m : Str → Option Value) : Prop := ∀ z, free.contains z = false → m z = m₀ z
theorem KeepM.base {free : List Str} {m₀ u : Str → Option Value} : KeepM free m₀ (fun z => if free.contains z then u z else m₀ z) := fun z h => by
  show (if free.contains z = true then u z else m₀ z) = m₀ z
  rw [if_neg (by rw [h]; decide)]
theorem KeepM.refl {free : List Str} {m₀ : Str → Option Value} : KeepM free m₀ m₀ := fun _ _ => rfl
theorem KeepM.set {free : List Str} {m₀ m : Str → Option Value} {x : Str} {v : Value} (hx : free.contains x = true) (h : KeepM free m₀ m) : KeepM free m₀ (fun y => if y = x then some v else m y) := fun z hz => by
  have e : z ≠ x := fun q => by rw [q, hx] at hz; cases hz
  simp only [if_neg e]
  exact h z hz
theorem KeepM.form1 {free : List Str} {m₀ m : Str → Option Value} {a : Str} {v : Value} (h1 : m a = some v) (h2 : KeepM free m₀ m) : m = fun z => if z = a then some v else if free.contains z then m z else m₀ z := by
  funext z
  by_cases e : z = a
  · simp only [if_pos e]; rw [e]; exact h1
  · simp only [if_neg e]
    cases h3 : free.contains z with
    | true => simp
    | false => simpa using h2 z h3
theorem KeepM.form2 {free : List Str} {m₀ m : Str → Option Value} {a b : Str} {v u : Value} (h1 : m a = some v) (h1' : m b = some u) (h2 : KeepM free m₀ m) : m = fun z => if z = a then some v else if z = b then some u else if free.contains z then m z else m₀ z := by
  funext z
  by_cases e : z = a
  · simp only [if_pos e]; rw [e]; exact h1
  · simp only [if_neg e]
    by_cases e' : z = b
    · simp only [if_pos e']; rw [e']; exact h1'
    · simp only [if_neg e']
      cases h3 : free.contains z with
      | true => simp
      | false => simpa using h2 z h3
section
variable {prog : Program} {w : World} {A : Around} {E : Value → Shared → Prop} {s : Shared} {env : Env} {h₀ : Heap} {target : PySem.Expr} {x : Str} {body : List Stmt} {Q : Flow → Shared → Prop}
/-- a loop over pairs that turns one mask -/
theorem pairs_go {ax : Addr} {n : Nat} {xs : List Value} {ps : List (Int × Int)} {m₀ : Str → Option Value} {news : List (Addr × Obj)} (a : Str) (free : List Str) (g : Nat → BitVec 32) (Kp : Nat → Prop)
    (hh : A.handled = none) (F : Fr h₀ env.locals s.heap m₀) (N : News h₀ env.locals s.heap news) (hm : (ax, listOf xs.toArray n) ∈ news) (hp : PairsIn news xs ps) (h0 : ∃ t, m₀ a = some (.int (J (g 0)) t)) (k0 : Kp 0)
    (turn : ∀ I i (a₁ a₂ : Int) D t t' h tk oI (u : Str → Option Value) ta, (∀ q ∈ news, q.1 < I) → ps[i]? = some (a₁, a₂) → Kp i → @LT.lt Nat _ D I → oI.cls = .type "list_iterator" →
      Fr h₀ env.locals h (fun z => if z = a then some (.int (J (g i)) ta) else if free.contains z then u z else m₀ z) → News h₀ env.locals h ((D, ({ cls := .type "tuple", data := .seq [Value.int a₁ t, Value.int a₂ t'].toArray } : Obj)) :: (I, oI) :: news) →
      wpAny (model prog w) A (assign target env (.ref D)) (fun _ s₂ => wpAny (model prog w) A (execs body env) (TPost h₀ env.locals { s with heap := h, toks := tk } I oI
        (fun m nx => nx = news ∧ (∃ t, m a = some (.int (J (g (i + 1))) t)) ∧ KeepM free m₀ m ∧ Kp (i + 1)) Q) E s₂) E { s with heap := h, toks := tk })
    (done : ∀ (u : Str → Option Value) ta h tk, Kp ps.length → Fr h₀ env.locals h (fun z => if z = a then some (.int (J (g ps.length)) ta) else if free.contains z then u z else m₀ z) → News h₀ env.locals h news → Q .next { s with heap := h, toks := tk }) :
    wpAny (model prog w) A (pyIter (.ref ax)) (fun it s₂ => TurnsAt prog w A h₀ env target body Q E it s₂) E s := by
  refine list_go (fun i m nx => nx = news ∧ (∃ t, m a = some (.int (J (g i)) t)) ∧ KeepM free m₀ m ∧ Kp i) hh F N hm ⟨rfl, h0, .refl, k0⟩ (fun i m nx hR => by rw [hR.1]; exact hm) ?_ ?_
  · rintro I i v m nx h tk oI hI hv ⟨rfl, ⟨ta, ha⟩, hK, hk⟩ _ F' hc N'
    obtain ⟨p, hp', D, t, t', rfl, hD⟩ := hp.get hv
    rw [KeepM.form1 ha hK] at F'
    refine turn I i p.1 p.2 D t t' h tk oI m ta hI hp' hk (hI _ hD) hc F' fun q hq => ?_
    rcases List.mem_cons.mp hq with rfl | hq
    · exact N' _ (List.mem_cons_of_mem _ hD)
    · exact N' _ hq
  · rintro m nx h tk ⟨rfl, ⟨ta, ha⟩, hK, hk⟩ F' N'
    rw [hp.length] at ha hk
    rw [KeepM.form1 ha hK] at F'
    exact done m ta h tk hk F' N'
end

theorem allLt_mem {d : Addr} : ∀ {l : List (Addr × Obj)}, AllLt d l → ∀ p ∈ l, p.1 < d
  | [], _, _, h => nomatch h
  | _ :: _, h, p, hp => by
    rcases List.mem_cons.mp hp with rfl | hp
    · exact h.1
    · exact allLt_mem h.2 p hp
section
variable {prog : Program} {w : World} {A : Around} {E Q : Value → Shared → Prop} {s : Shared} {u v : BitVec 32} {t t' : Tok}
theorem iorJ (h : Q (.int (J (u ||| v)) s.toks) { s with toks := s.toks + 1 }) : wpAny (model prog w) A (inplaceOp .BitOr (.int (J u) t) (.int (J v) t')) Q E s := ior_int (by rw [J_or]; exact h)
end
theorem foldS_take {ps : List (Int × Int)} {i : Nat} {p : Int × Int} (h : ps[i]? = some p) (v : BitVec 32) : foldS v (ps.take (i + 1)) = foldS v (ps.take i) ||| RI p.1 p.2 := by
  unfold foldS
  rw [List.take_add_one, h, Option.toList_some, List.foldl_append]
  rfl
theorem ok_take {ps : List (Int × Int)} {i : Nat} {p : Int × Int} (h : ps[i]? = some p) (h1 : ∀ q ∈ ps.take i, okP q) (h2 : okP p) : ∀ q ∈ ps.take (i + 1), okP q := by
  rw [List.take_add_one, h, Option.toList_some]
  intro q hq
  rcases List.mem_append.mp hq with hq | hq
  · exact h1 q hq
  · rw [List.mem_singleton.mp hq]; exact h2
/-- what fold_set gives back -/
def setV (ps : List (Int × Int)) : Int := if ∀ p ∈ ps, okP p then J (foldS 0#32 ps) else 0
def setC (ps : List (Int × Int)) : Str := if ∀ p ∈ ps, okP p then Str.ofString "" else Str.ofString "bad_element"
local macro_rules | `(tactic| walk_at "MY keep") => `(tactic| (repeat (first | exact KeepM.base | exact KeepM.refl | refine KeepM.set (by rfl) ?_)))
local macro_rules | `(tactic| walk_at "TPost") => `(tactic| (k_dflt (refine TPost.ret ?_)))
local macro_rules | `(tactic| walk_at "inplaceOp BitOr int int") => `(tactic| (k_here; with_reducible refine iorJ ?_))
local macro_rules | `(tactic| walk_at "exec For Tuple Name cons nil") => `(tactic| (k_here; (rename Fr _ _ _ _ => lF'); (with_unfolding_all refine' For_turns lF' ?_; k_whole)))
local macro_rules | `(tactic| walk_at "call ref") => `(tactic| (k_here; (with_reducible show wpAny _ _ (call (Value.ref 84) _) _ _ _); k_dflt (refine' Ctr.useI ?C ?B ?F ?X ?N ?T ?hk ?hd ?hu ?_; walk_at "MY use"; (case C => exact mask_range_ _ _ (by omega) (by omega) (by omega) (by omega) _ _); walk_at "MY room"; intro t' h' tk' F' N'; (try k_sweep))))
section
variable {w : World} {mean : ExcName → Option Value} {mg mb : Str → Option Value} {news : List (Addr × Obj)}
set_option maxHeartbeats 2000000 in
theorem fold_ (l : Addr) (n : Nat) (xs : List Value) (ps : List (Int × Int)) (hm : (l, listOf xs.toArray n) ∈ news) (hp : PairsIn news xs ps) : Ctr w mean mg mb 4 91 news [.ref l] (OutT (setV ps) (setC ps)) := by
  unfold Ctr
  w_top off
  k_fill
  intro dp un gd cn cs a ccd cl outer A₀ base h₀ L m s Q E B F X N T hk hd hu hret
  refine wpAny_call ?_
  k_dflt (walk_at "MY enter")
  k_steps
  rename Fr _ _ _ _ => lF
  rename News _ _ _ _ => lN
  with_unfolding_all refine' pairs_go (Str.ofString "found") [Str.ofString "found", Str.ofString "low", Str.ofString "high"] (fun i => foldS 0#32 (ps.take i)) (fun i => ∀ q ∈ ps.take i, okP q) (by rfl) lF lN hm hp ⟨_, rfl⟩ (fun q hq => by simp at hq) ?_ ?_
  · clear lF lN
    intro I i lo hi D t t' h tk oI u ta hI hpi hok hD hc F' N'
    dsimp only [envOf] at F' N'
    k_fold
    by_cases hq : okP (lo, hi)
    · have q0 : 0 ≤ lo := hq.1
      have q1 : lo ≤ 31 := hq.2.1
      have q2 : 0 ≤ hi := hq.2.2.1
      have q3 : hi ≤ 31 := hq.2.2.2
      k_steps
      all_goals (
        refine TPost.next ?_
        refine' TEnd.intro ?F ?N ?o ?r
        (case F => k_asm)
        (case r => (refine ⟨rfl, ⟨?t, ?e⟩, ?k, ok_take hpi hok hq⟩; (case e => (rw [foldS_take hpi]; exact rfl)); (case k => walk_at "MY keep")))
        (case N => walk_at "MY news")
        (case o => exact fun q hq => Nat.ne_of_lt (hI q hq)))
    · have hbad : ¬ ∀ p ∈ ps, okP p := fun q => hq (q _ (List.mem_of_getElem? hpi))
      have hV : setV ps = 0 := if_neg hbad
      have hC : setC ps = Str.ofString "bad_element" := if_neg hbad
      rw [hV, hC] at hret
      have hcs : lo < 0 ∨ (0 ≤ lo ∧ 31 < lo) ∨ (0 ≤ lo ∧ lo ≤ 31 ∧ hi < 0) ∨ (0 ≤ lo ∧ lo ≤ 31 ∧ 0 ≤ hi ∧ 31 < hi) := by
        have : ¬ (0 ≤ lo ∧ lo ≤ 31 ∧ 0 ≤ hi ∧ hi ≤ 31) := hq
        omega
      rcases hcs with q0 | ⟨q0, q1⟩ | ⟨q0, q1, q2⟩ | ⟨q0, q1, q2, q3⟩
      all_goals (
        k_steps
        all_goals (
          refine' endT hret ?e ?F ?N ?l
          (case F => k_asm)
          (case N => (refine' cb_drop ?N2 ?S; (case N2 => k_asm); (case S => (intro p hp; rcases List.mem_cons.mp hp with rfl | hp; exact List.mem_cons_self; (repeat (first | exact hp | refine List.mem_cons_of_mem _ ?_))))))
          (case l => first | assumption | ((rename (_ ∧ AllLt _ _) => hl9); exact allLt_mem hl9.2) | ((rename (_ ∧ _ ∧ AllLt _ _) => hl9); exact allLt_mem hl9.2.2) | ((rename (_ ∧ _ ∧ _ ∧ AllLt _ _) => hl9); exact allLt_mem hl9.2.2.2))
          (case e => first | rfl | rw [List.take_length])
          done))
  · clear lF lN
    intro u ta h tk hok F' N'
    dsimp only [envOf] at F' N'
    rw [List.take_length] at hok
    have hV : setV ps = J (foldS 0#32 ps) := if_pos hok
    have hC : setC ps = Str.ofString "" := if_pos hok
    rw [hV, hC] at hret
    k_steps
    all_goals (
      refine' endT hret ?e ?F ?N ?l
      (case F => k_asm)
      (case N => (refine' cb_drop ?N2 ?S; (case N2 => k_asm); (case S => (intro p hp; rcases List.mem_cons.mp hp with rfl | hp; exact List.mem_cons_self; (repeat (first | exact hp | refine List.mem_cons_of_mem _ ?_))))))
      (case l => first | assumption | ((rename (_ ∧ AllLt _ _) => hl9); exact allLt_mem hl9.2) | ((rename (_ ∧ _ ∧ AllLt _ _) => hl9); exact allLt_mem hl9.2.2) | ((rename (_ ∧ _ ∧ _ ∧ AllLt _ _) => hl9); exact allLt_mem hl9.2.2.2))
      (case e => first | rfl | rw [List.take_length])
      done)
end

/-- a contract that reads a list laid below -/
def CtrL (w : World) (mean : ExcName → Option Value) (mg mb : Str → Option Value) (dd : Nat) (f : Addr) (l : Addr) (xs : List Value) (news : List (Addr × Obj)) (vs : List Value) (Out : Value → List (Addr × Obj) → Prop) : Prop :=
  ∀ (dp un : Nat) (gd : Option (List Code)) (cn : Str) (cs : Scope) (a : Addr) (ccd : Value) (cl : List (Str × Addr)) (outer : List Env) (A₀ : Around) (base h₀ : Heap) (L : Addr) (m : Str → Option Value) (s : Shared) (Q E : Value → Shared → Prop),
    Below A₀ base outer h₀ → base.IsList l xs.toArray → Fr h₀ L s.heap m → (Mine.hd.heap_39 w.params).In h₀ → News h₀ L s.heap news → Top Mine.hd.view_39 (looseW Mine.hd.view_39 []) mean mg mb h₀ → cs.kind = .function → dp + dd < recursionLimit → un + 1000 * dd < cLine →
    (∀ r tl h' tk', Fr h₀ L h' m → News h₀ L h' (tl ++ news) → (∀ q ∈ news, ∀ p ∈ tl, q.1 ≠ p.1) → Out r tl → Q r { s with heap := h', toks := tk' }) →
    wpAny (model PySem.Challenge.rw_pb0311_01.row.prog w) (ktrTop dp un gd cn cs L a ccd cl outer) (call (.ref f) vs) Q E s
abbrev Word32 (x : Int) : Prop := 0 ≤ x ∧ x < 4294967296
def OutM (r : Value) (tl : List (Addr × Obj)) : Prop := ∃ D k us ms, r = .ref D ∧ tl = [(D, listOf us.toArray k)] ∧ IntsAre us ms ∧ ms.length = 14 ∧ ∀ x ∈ ms, Word32 x
/-- the end of a turn of the masks' loop -/
def MEnd (h₀ : Heap) (L : Addr) (s : Shared) (D : Addr) (rest : List (Addr × Obj)) (m₀ : Str → Option Value) (n : Nat) (s₃ : Shared) : Prop :=
  ∃ h' tk m' us j ms, s₃ = { s with heap := h', toks := tk } ∧ Fr h₀ L h' m' ∧ News h₀ L h' ((D, listOf us.toArray j) :: rest) ∧ IntsAre us ms ∧ (∀ x ∈ ms, Word32 x) ∧ n < ms.length ∧ ms.length ≤ 14 ∧ (∃ a t, m' (Str.ofString "last_of") = some (.int a t) ∧ Word32 a) ∧ KeepM [Str.ofString "last_of"] m₀ m'
def MPost (h₀ : Heap) (L : Addr) (s : Shared) (D : Addr) (rest : List (Addr × Obj)) (m₀ : Str → Option Value) (Q : Flow → Shared → Prop) (n : Nat) (f : Flow) (s₃ : Shared) : Prop :=
  match f with
  | .brk => Q .next s₃
  | .ret v => Q (.ret v) s₃
  | _ => MEnd h₀ L s D rest m₀ n s₃
theorem MEnd.intro {h₀ : Heap} {L : Addr} {s : Shared} {D : Addr} {rest : List (Addr × Obj)} {m₀ m' : Str → Option Value} {n : Nat} {h' : Heap} {tk : Nat} {us : List Value} {j : Nat} {ms : List Int}
    (F : Fr h₀ L h' m') (N : News h₀ L h' ((D, listOf us.toArray j) :: rest)) (hi : IntsAre us ms) (hb : ∀ x ∈ ms, Word32 x) (h1 : n < ms.length) (h2 : ms.length ≤ 14) (ha : ∃ a t, m' (Str.ofString "last_of") = some (.int a t) ∧ Word32 a) (hk : KeepM [Str.ofString "last_of"] m₀ m') :
    MEnd h₀ L s D rest m₀ n { s with heap := h', toks := tk } := ⟨h', tk, m', us, j, ms, rfl, F, N, hi, hb, h1, h2, ha, hk⟩
section
variable {prog : Program} {w : World} {A : Around} {E : Value → Shared → Prop} {Q : Flow → Shared → Prop} {s : Shared} {env : Env} {h₀ : Heap} {L : Addr}
theorem masks_while {test : PySem.Expr} {body : List Stmt} {pos : Pos} {m₀ : Str → Option Value} {D : Addr} {rest : List (Addr × Obj)} {vs : List Value} {k : Nat} {ns : List Int}
    (F : Fr h₀ L s.heap m₀) (N : News h₀ L s.heap ((D, listOf vs.toArray k) :: rest)) (hi : IntsAre vs ns) (hb : ∀ x ∈ ns, Word32 x) (hl : ns.length ≤ 14) (ha : ∃ a t, m₀ (Str.ofString "last_of") = some (.int a t) ∧ Word32 a)
    (turn : ∀ us j ms a t (u : Str → Option Value) h tk, IntsAre us ms → (∀ x ∈ ms, Word32 x) → ms.length ≤ 14 → us.length ≤ 14 → 0 ≤ a → a < 4294967296 →
      Fr h₀ L h (fun z => if z = Str.ofString "last_of" then some (.int a t) else if [Str.ofString "last_of"].contains z then u z else m₀ z) → News h₀ L h ((D, listOf us.toArray j) :: rest) →
      wpAny (model prog w) A (isTrue test env (eval test env)) (fun b s₂ =>
        if b = true then wpAny (model prog w) A (execs body env) (MPost h₀ L s D rest m₀ Q ms.length) E s₂ else Q .next s₂) E { s with heap := h, toks := tk })
    (hE : PassesOwn (model prog w) A env E := by passes_own) :
    wpAny (model prog w) A (exec (.While test body [] pos) env) Q E s := by
  refine While_inv2 (fun n m nx => ∃ us j ms, nx = (D, listOf us.toArray j) :: rest ∧ IntsAre us ms ∧ (∀ x ∈ ms, Word32 x) ∧ ms.length ≤ 14 ∧ n = 14 - ms.length ∧ (∃ a t, m (Str.ofString "last_of") = some (.int a t) ∧ Word32 a) ∧ KeepM [Str.ofString "last_of"] m₀ m) F N ⟨vs, k, ns, rfl, hi, hb, hl, rfl, ha, .refl⟩ ?_ hE
  rintro n m₁ nx h tk F₁ N₁ ⟨us, j, ms, rfl, hi', hb', hl', rfl, ⟨a, t, ha', hw⟩, hK⟩
  rw [KeepM.form1 ha' hK] at F₁
  refine wpAny_mono (turn us j ms a t m₁ h tk hi' hb' hl' (by rw [hi'.length]; exact hl') hw.1 hw.2 F₁ N₁) (fun b s₂ p => ?_) fun _ _ x => x
  cases b with
  | false => simpa using p
  | true =>
    simp only [if_true] at p ⊢
    refine wpAny_mono p (fun f s₃ q => ?_) fun _ _ x => x
    have fin : MEnd h₀ L s D rest m₀ ms.length s₃ → WhileStep2 h₀ L s (fun n m nx => ∃ us j ms, nx = (D, listOf us.toArray j) :: rest ∧ IntsAre us ms ∧ (∀ x ∈ ms, Word32 x) ∧ ms.length ≤ 14 ∧ n = 14 - ms.length ∧ (∃ a t, m (Str.ofString "last_of") = some (.int a t) ∧ Word32 a) ∧ KeepM [Str.ofString "last_of"] m₀ m) Q (14 - ms.length) .next s₃ := by
      rintro ⟨h', tk', m', us', j', ms', e, F', N', hi9, hb9, h19, h29, ha9, hk9⟩
      exact ⟨h', tk', m', _, 14 - ms'.length, e, F', N', by omega, us', j', ms', rfl, hi9, hb9, h29, rfl, ha9, hk9⟩
    cases f with
    | ret v => exact q
    | brk => exact q
    | next => exact fin q
    | cont => exact fin q
end
theorem word_mods (ns : List Int) : ∀ x ∈ (ns.take 14).map (fun k => k.fmod 4294967296), Word32 x := by
  intro x hx
  obtain ⟨k, _, rfl⟩ := List.mem_map.mp hx
  exact ⟨fmod_lo k (by decide), fmod_hi k (by decide)⟩
theorem word_mod (k : Int) : Word32 (k.fmod 4294967296) := ⟨fmod_lo k (by decide), fmod_hi k (by decide)⟩
theorem word_snoc {ms : List Int} (h : ∀ x ∈ ms, Word32 x) (k : Int) : ∀ x ∈ ms ++ [k.fmod 4294967296], Word32 x := by
  intro x hx
  rcases List.mem_append.mp hx with hx | hx
  · exact h x hx
  · rw [List.mem_singleton.mp hx]; exact word_mod k
local macro_rules | `(tactic| walk_at "exec While Compare cons nil") => `(tactic| (k_here; (rename Fr _ _ _ _ => lF'); (rename News _ _ _ _ => lN'); (with_unfolding_all refine' masks_while lF' lN' ?hi ?hb ?hl ?ha ?_); (case hi => l_ints); (case hb => first | exact word_mods _); (case hl => (simp only [List.length_map, List.length_take]; omega)); (case ha => exact ⟨_, _, rfl, by decide, by decide⟩); (clear lF' lN'); (intro us j ms av tv u h tk hi1 hb1 hl1 hl2 ha1 ha2 F' N'); (try dsimp only [envOf] at F' N'); (try k_fold)))
section
variable {w : World} {mean : ExcName → Option Value} {mg mb : Str → Option Value} {news : List (Addr × Obj)}
set_option maxHeartbeats 2000000 in
theorem masks_ (d : Addr) (o : Obj) (l : Addr) (xs : List Value) (ns : List Int) (hi : IntsAre xs ns) (hlen : ns.length ≤ 63) : CtrL w mean mg mb 2 96 l xs [(d, o)] [.ref l] OutM := by
  unfold CtrL
  w_top off
  k_fill
  intro dp un gd cn cs a ccd cl outer A₀ base h₀ L m s Q E B hbase F X N T hk hd hu hret
  refine wpAny_call ?_
  k_dflt (walk_at "MY enter")
  k_steps
  · (rename News _ _ _ _ => N9); (try simp only [List.push_toArray] at N9)
    (rename ∀ x ∈ _, Word32 x => hb9)
    show MEnd _ _ _ _ _ _ _ _
    refine' MEnd.intro ?F N9 ?hi ?hb ?h1 ?h2 ?ha ?hk
    (case F => k_asm)
    (case ha => exact ⟨_, _, rfl, word_mod _⟩)
    (case hi => exact IntsAre.append (by assumption) (IntsAre.cons _ _ IntsAre.nil))
    (case hb => exact word_snoc hb9 _)
    (case h1 => (rw [List.length_append, List.length_singleton]; omega))
    (case h2 => (rw [List.length_append, List.length_singleton]; omega))
    (case hk => walk_at "MY keep")
  · (rename News _ _ _ _ => N9)
    (rename ∀ x ∈ _, Word32 x => hb9)
    (rename IntsAre _ _ => hi9)
    refine' hret _ [_] _ _ ?F2 ?N2 ?l2 ⟨_, _, _, _, rfl, rfl, hi9, ?h2, hb9⟩
    (case F2 => k_asm)
    (case N2 => exact fun p hp => N9 p (by
      rcases List.mem_cons.mp hp with rfl | hp
      · exact List.mem_cons_self
      · exact List.mem_cons_of_mem _ (List.mem_cons_of_mem _ hp)))
    (case l2 => (intro q hq p hp; rw [List.mem_singleton.mp hq, List.mem_singleton.mp hp]; (rename (_ ≠ _) ∧ (_ ≠ _) => ho); exact ho.2))
    (case h2 => omega)
end

/-- the single elements below a place -/
def selTo (a : BitVec 32) (i : Nat) : List (Int × Int) := ((List.range i).filter fun k => a.getLsbD k).map fun k : Nat => ((k : Int), (k : Int))
theorem selTo_32 (a : BitVec 32) : selTo a 32 = singles a := rfl
theorem selTo_1 {a : BitVec 32} {i : Nat} (h : a.getLsbD i = true) : selTo a (i + 1) = selTo a i ++ [((i : Int), (i : Int))] := by
  unfold selTo
  rw [List.range_succ, List.filter_append, List.map_append]
  simp [h]
theorem selTo_0 {a : BitVec 32} {i : Nat} (h : a.getLsbD i = false) : selTo a (i + 1) = selTo a i := by
  unfold selTo
  rw [List.range_succ, List.filter_append, List.map_append]
  simp [h]
def SYes (h₀ : Heap) (L : Addr) (m : Str → Option Value) (s₁ : Shared) (I C D : Addr) (all : List (Addr × Obj)) (k : Int) (y : Value) (s₂ : Shared) : Prop :=
  ∃ h' tk T t t', s₂ = { s₁ with heap := h', toks := tk } ∧ y = .ref T ∧ Fr h₀ L h' m ∧ News h₀ L h' ((T, ({ cls := .type "tuple", data := .seq [Value.int k t, Value.int k t'].toArray } : Obj)) :: all) ∧ T ≠ I ∧ T ≠ C ∧ T ≠ D
def SNo (h₀ : Heap) (L : Addr) (m : Str → Option Value) (s₁ : Shared) (all : List (Addr × Obj)) (s₂ : Shared) : Prop :=
  ∃ h' tk, s₂ = { s₁ with heap := h', toks := tk } ∧ Fr h₀ L h' m ∧ News h₀ L h' all
theorem SYes.intro {h₀ : Heap} {L : Addr} {m : Str → Option Value} {s₁ : Shared} {I C D : Addr} {all : List (Addr × Obj)} {k : Int} {T : Addr} {t t' : Tok} {h' : Heap} {tk : Nat} (F : Fr h₀ L h' m)
    (N : News h₀ L h' ((T, ({ cls := .type "tuple", data := .seq [Value.int k t, Value.int k t'].toArray } : Obj)) :: all)) (h : T ≠ I ∧ T ≠ C ∧ T ≠ D) : SYes h₀ L m s₁ I C D all k (.ref T) { s₁ with heap := h', toks := tk } := ⟨h', tk, T, t, t', rfl, rfl, F, N, h⟩
theorem SNo.intro {h₀ : Heap} {L : Addr} {m : Str → Option Value} {s₁ : Shared} {all : List (Addr × Obj)} {h' : Heap} {tk : Nat} (F : Fr h₀ L h' m) (N : News h₀ L h' all) : SNo h₀ L m s₁ all { s₁ with heap := h', toks := tk } := ⟨h', tk, rfl, F, N⟩
section
variable {prog : Program} {w : World} {A : Around} {s : Shared} {h₀ : Heap} {L : Addr} {m : Str → Option Value} {env : Env}
theorem singles_go {a : BitVec 32} {oa : Obj} {ta : Tok} {ct elt : PySem.Expr} {x : Str} {scope : Scope} {cl : List (Str × Addr)} {base : List (Addr × Obj)} {Fin : List Value → List (Addr × Obj) → Prop} (_ha : oa.data = .cell (some (.int (J a) ta)))
    (turn1 : ∀ (k : Nat) t I oI C oC D m₂ ys news h tk (E' : Value → Shared → Prop), a.getLsbD k = true → k < 32 → LCg.NsObj oC m₂ → m₂ x = some (.int (k : Int) t) → Fr h₀ L h m → News h₀ L h ((I, oI) :: (C, oC) :: (D, LCg.lst ys) :: (base ++ news)) → LCg.Off3 I C D base → ((@Ne Nat I C) ∧ (@Ne Nat I D) ∧ (@Ne Nat C D)) →
      wpAny (model prog w) A (isTrue ct (compEnvC scope cl C env) (eval ct (compEnvC scope cl C env))) (fun ok s' => if ok = true then
        wpAny (model prog w) A (eval elt (compEnvC scope cl C env)) (fun y s₂ => SYes h₀ L m { s with heap := h, toks := tk } I C D ((I, oI) :: (C, oC) :: (D, LCg.lst ys) :: (base ++ news)) k y s₂) E' s'
        else False) E' { s with heap := h, toks := tk })
    (turn0 : ∀ (k : Nat) t I oI C oC D m₂ ys news h tk (E' : Value → Shared → Prop), a.getLsbD k = false → k < 32 → LCg.NsObj oC m₂ → m₂ x = some (.int (k : Int) t) → Fr h₀ L h m → News h₀ L h ((I, oI) :: (C, oC) :: (D, LCg.lst ys) :: (base ++ news)) → LCg.Off3 I C D base → ((@Ne Nat I C) ∧ (@Ne Nat I D) ∧ (@Ne Nat C D)) →
      wpAny (model prog w) A (isTrue ct (compEnvC scope cl C env) (eval ct (compEnvC scope cl C env))) (fun ok s' => if ok = true then
        wpAny (model prog w) A (eval elt (compEnvC scope cl C env)) (fun _ _ => False) E' s'
        else SNo h₀ L m { s with heap := h, toks := tk } ((I, oI) :: (C, oC) :: (D, LCg.lst ys) :: (base ++ news)) s') E' { s with heap := h, toks := tk })
    (fin : ∀ ys news, PairsIn news ys (singles a) → ys.length ≤ 64 → Fin ys (base ++ news)) :
    LCt.CompRestT prog w A h₀ L m env ct elt x scope cl s (fun _ => True) (fun i v => ∃ t, v = .int (0 + (i : Int)) t) Fin 32 0 [] base := by
  have key : ∀ (j i : Nat) (ys : List Value) (news : List (Addr × Obj)), i + j = 32 → PairsIn news ys (selTo a i) → LCt.CompRestT prog w A h₀ L m env ct elt x scope cl s (fun _ => True) (fun i v => ∃ t, v = .int (0 + (i : Int)) t) Fin j i ys (base ++ news) := by
    intro j
    induction j with
    | zero =>
      intro i ys news hi hp
      have e : i = 32 := by omega
      subst e
      refine LCt.CompRestT.zero (fin ys news hp ?_)
      rw [hp.length, selTo, List.length_map]
      have := List.length_filter_le (fun k => a.getLsbD k) (List.range 32)
      rw [List.length_range] at this
      omega
    | succ j ih =>
      intro i ys news hi hp
      refine LCt.CompRestT.succ ?_
      rintro v I oI C oC D m₂ h tk E' ⟨t, rfl⟩ hC hx F N off ne
      rw [Int.zero_add] at hx
      have off1 := off.mem
      have offb : LCg.Off3 I C D base := LCg.Off3.of fun p hp => off1 p (List.mem_append_left _ hp)
      cases hb : a.getLsbD i with
      | true =>
        refine wpAny_mono (turn1 i t I oI C oC D m₂ ys news h tk E' hb (by omega) hC hx F N offb ne) (fun b s₂ hq => ?_) fun _ _ e => e
        cases b with
        | false => simp at hq
        | true =>
          simp only [if_true] at hq ⊢
          refine wpAny_mono hq (fun y s₃ hr => ?_) fun _ _ e => e
          obtain ⟨h', tk', T, u, u', e, rfl, F', N', n1, n2, n3⟩ := hr
          refine ⟨h', tk', base ++ ((T, ({ cls := .type "tuple", data := .seq [Value.int (i : Int) u, Value.int (i : Int) u'].toArray } : Obj)) :: news), e, F', ?_, ?_, trivial, ?_⟩
          · intro p hp'
            rcases List.mem_cons.mp hp' with rfl | hp'
            · exact N' _ (by simp)
            · rcases List.mem_cons.mp hp' with rfl | hp'
              · exact N' _ (by simp)
              · rcases List.mem_cons.mp hp' with rfl | hp'
                · exact N' _ (by simp)
                · rcases List.mem_append.mp hp' with hp' | hp'
                  · exact N' _ (List.mem_cons_of_mem _ (List.mem_cons_of_mem _ (List.mem_cons_of_mem _ (List.mem_cons_of_mem _ (List.mem_append_left _ hp')))))
                  · rcases List.mem_cons.mp hp' with rfl | hp'
                    · exact N' _ List.mem_cons_self
                    · exact N' _ (List.mem_cons_of_mem _ (List.mem_cons_of_mem _ (List.mem_cons_of_mem _ (List.mem_cons_of_mem _ (List.mem_append_right _ hp')))))
          · refine LCg.Off3.of fun p hp' => ?_
            rcases List.mem_append.mp hp' with hp' | hp'
            · exact off1 p (List.mem_append_left _ hp')
            · rcases List.mem_cons.mp hp' with rfl | hp'
              · exact ⟨n1, n2, n3⟩
              · exact off1 p (List.mem_append_right _ hp')
          · refine ih (i + 1) _ _ (by omega) ?_
            rw [selTo_1 hb]
            exact PairsIn.append (hp.mono fun p h => List.mem_cons_of_mem _ h) ⟨⟨T, u, u', rfl, List.mem_cons_self⟩, trivial⟩
      | false =>
        refine wpAny_mono (turn0 i t I oI C oC D m₂ ys news h tk E' hb (by omega) hC hx F N offb ne) (fun b s₂ hq => ?_) fun _ _ e => e
        cases b with
        | false =>
          simp only [Bool.false_eq_true, if_false] at hq ⊢
          obtain ⟨h', tk', e, F', N'⟩ := hq
          exact ⟨h', tk', base ++ news, e, F', N', off, trivial, ih (i + 1) _ _ (by omega) (by rw [selTo_0 hb]; exact hp)⟩
        | true =>
          simp only [if_true] at hq ⊢
          exact wpAny_mono hq (fun _ _ hr => hr.elim) fun _ _ e => e
  have h := key 32 0 [] [] rfl trivial
  rw [List.append_nil] at h
  exact h
theorem rev_pairs {l : Addr} {ys : List Value} {news : List (Addr × Obj)} {E Q : Value → Shared → Prop} {value slice : PySem.Expr} {vk : Value} {ops : List Value} (F : Fr h₀ L s.heap m) (N : News h₀ L s.heap news) (hl : s.heap.IsList l ys.toArray) (pk : IsPart vk (some (-1))) (hz : ys.length ≤ 64)
    (h : ∀ D h', Fr h₀ L h' m → News h₀ L h' ((D, listOf ys.reverse.toArray 0) :: news) → (∀ p ∈ news, p.1 < D) → Q (.ref D) { s with heap := h' })
    (hs : subscripted slice false (.ref l) (.ref s.heap.objs.size) = operate ops (getItem (.ref l) (.ref s.heap.objs.size))) (ht : ∀ r, letTemporaryGo value (.ref l) r = pure ()) :
    wpAny (model prog w) A (subscriptTail value slice (.ref l) (.ref s.heap.objs.size)) Q E { s with heap := s.heap.push { cls := .type "slice", data := .fields #[.none, .none, vk] } } :=
  krv_lit (its := ys.toArray) (zs := ys.reverse) F N hl pk rfl h hs ht (by rw [List.size_toArray, PySem.sizeLine_eq]; omega)
theorem add_pairs {a b : Addr} {xs ys : List Value} {news : List (Addr × Obj)} {E Q : Value → Shared → Prop} (F : Fr h₀ L s.heap m) (N : News h₀ L s.heap news) (ha : s.heap.IsList a xs.toArray) (hb : s.heap.IsList b ys.toArray) (hx : xs.length ≤ 64) (hy : ys.length ≤ 64)
    (h : ∀ D h', Fr h₀ L h' m → News h₀ L h' ((D, listOf (xs ++ ys).toArray 0) :: news) → (∀ p ∈ news, p.1 < D) → Q (.ref D) { s with heap := h' }) : wpAny (model prog w) A (binaryOp .Add (.ref a) (.ref b)) Q E s :=
  kmk_add_lit (its := xs.toArray) (its2 := ys.toArray) F N ha hb rfl h (by rw [List.toList_toArray, List.toList_toArray, PySem.sizeLine_eq]; omega)
end
section
variable {w : World} {mean : ExcName → Option Value} {mg mb : Str → Option Value} {news : List (Addr × Obj)}
theorem setV_singles (a : BitVec 32) : setV (singles a) = J a := by unfold setV; rw [if_pos (singles_ok a), fold_singles]
theorem setC_singles (a : BitVec 32) : setC (singles a) = Str.ofString "" := if_pos (singles_ok a)
theorem singles2_ok (a : BitVec 32) : ∀ p ∈ (singles a).reverse ++ singles a, okP p := fun p hp => (List.mem_append.mp hp).elim (fun h => singles_ok a p (List.mem_reverse.mp h)) (singles_ok a p)
theorem setV_singles2 (a : BitVec 32) : setV ((singles a).reverse ++ singles a) = J a := by unfold setV; rw [if_pos (singles2_ok a), fold_singles2]
theorem setC_singles2 (a : BitVec 32) : setC ((singles a).reverse ++ singles a) = Str.ofString "" := if_pos (singles2_ok a)
theorem fold_s1 {tl : List (Addr × Obj)} {a : BitVec 32} (l : Addr) (n : Nat) (xs : List Value) (hm : (l, listOf xs.toArray n) ∈ news) (hp : PairsIn tl xs (singles a)) (hs : ∀ p ∈ tl, p ∈ news) : Ctr w mean mg mb 4 91 news [.ref l] (OutT (J a) (Str.ofString "")) := by
  have := fold_ (w := w) (mean := mean) (mg := mg) (mb := mb) (news := news) l n xs _ hm (hp.mono hs)
  rwa [setV_singles, setC_singles] at this
theorem fold_s2 {tl : List (Addr × Obj)} {a : BitVec 32} (l : Addr) (n : Nat) (xs : List Value) (hm : (l, listOf (xs.reverse ++ xs).toArray n) ∈ news) (hp : PairsIn tl xs (singles a)) (hs : ∀ p ∈ tl, p ∈ news) : Ctr w mean mg mb 4 91 news [.ref l] (OutT (J a) (Str.ofString "")) := by
  have := fold_ (w := w) (mean := mean) (mg := mg) (mb := mb) (news := news) l n _ _ hm (PairsIn.append (hp.mono hs).reverse (hp.mono hs))
  rwa [setV_singles2, setC_singles2] at this
end

/-- the bounds that the law draws -/
abbrev rngP (p : Int × Int) : Prop := -1 ≤ p.1 ∧ p.1 ≤ 33 ∧ -1 ≤ p.2 ∧ p.2 ≤ 33
theorem KeepM.form0 {free : List Str} {m₀ m : Str → Option Value} (h2 : KeepM free m₀ m) : m = fun z => if free.contains z then m z else m₀ z := by
  funext z
  cases h3 : free.contains z with
  | true => simp
  | false => simpa using h2 z h3
theorem KeepM.over {free fr2 : List Str} {m₀ m u : Str → Option Value} (hs : (fr2.all fun z => free.contains z) = true) (h : KeepM free m₀ m) : KeepM free m₀ (fun z => if fr2.contains z then u z else m z) := fun z hz => by
  have e : fr2.contains z = false := by
    cases h3 : fr2.contains z with
    | false => rfl
    | true =>
      have h4 := List.all_eq_true.mp hs z (List.contains_iff_mem.mp h3)
      rw [hz] at h4; cases h4
  show (if fr2.contains z = true then u z else m z) = m₀ z
  rw [if_neg (by rw [e]; decide)]
  exact h z hz
def AEnd (h₀ : Heap) (L : Addr) (s₁ : Shared) (I : Addr) (oI : Obj) (P : Addr) (base tl : List (Addr × Obj)) (xs : List Value) (free : List Str) (m₀ : Str → Option Value) (s₂ : Shared) : Prop :=
  ∃ h' tk m' k T a b t t', s₂ = { s₁ with heap := h', toks := tk } ∧ Fr h₀ L h' m' ∧ News h₀ L h' ((T, ({ cls := .type "tuple", data := .seq [Value.int a t, Value.int b t'].toArray } : Obj)) :: (I, oI) :: (P, listOf (xs ++ [Value.ref T]).toArray k) :: (base ++ tl)) ∧ rngP (a, b) ∧ T ≠ P ∧ T ≠ I ∧ KeepM free m₀ m'
def APost (h₀ : Heap) (L : Addr) (s₁ : Shared) (I : Addr) (oI : Obj) (P : Addr) (base tl : List (Addr × Obj)) (xs : List Value) (free : List Str) (m₀ : Str → Option Value) (f : Flow) (s₂ : Shared) : Prop :=
  match f with
  | .next => AEnd h₀ L s₁ I oI P base tl xs free m₀ s₂
  | _ => False
theorem AEnd.intro {h₀ : Heap} {L : Addr} {s₁ : Shared} {I : Addr} {oI : Obj} {P : Addr} {base tl : List (Addr × Obj)} {xs : List Value} {free : List Str} {m₀ m' : Str → Option Value} {h' : Heap} {tk k : Nat} {T : Addr} {a b : Int} {t t' : Tok}
    (F : Fr h₀ L h' m') (N : News h₀ L h' ((T, ({ cls := .type "tuple", data := .seq [Value.int a t, Value.int b t'].toArray } : Obj)) :: (I, oI) :: (P, listOf (xs ++ [Value.ref T]).toArray k) :: (base ++ tl))) (hr : rngP (a, b)) (h1 : T ≠ P) (h2 : T ≠ I) (hk : KeepM free m₀ m') :
    APost h₀ L s₁ I oI P base tl xs free m₀ .next { s₁ with heap := h', toks := tk } := ⟨h', tk, m', k, T, a, b, t, t', rfl, F, N, hr, h1, h2, hk⟩
section
variable {prog : Program} {w : World} {A : Around} {E : Value → Shared → Prop} {s : Shared} {env : Env} {h₀ : Heap} {target : PySem.Expr} {x : Str} {body : List Stmt} {Q : Flow → Shared → Prop}
/-- the loop that draws the pairs -/
theorem each_go {r P : Addr} {n : Int} {t₀ u₀ v₀ : Tok} {k₀ : Nat} {m₀ : Str → Option Value} {base : List (Addr × Obj)} (hh : A.handled = none) (hr : IsRange s.heap r 0 n 1 t₀ u₀ v₀) (hn0 : 0 ≤ n) (hn4 : n ≤ 4) (F : Fr h₀ env.locals s.heap m₀)
    (N : News h₀ env.locals s.heap ((P, listOf ([] : List Value).toArray k₀) :: base)) (hb : ∀ p ∈ base, p.1 ≠ P)
    (turn : ∀ I i xs k tl (u : Str → Option Value) t h tk oI, @LT.lt Nat _ P I → (∀ p ∈ base, p.1 < I) → (∀ p ∈ tl, p.1 ≠ P) → (∀ p ∈ tl, p.1 ≠ I) → xs.length ≤ 4 → i < 4 →
      Fr h₀ env.locals h (fun y => if y = x then some (.int (i : Nat) t) else if [x].contains y then u y else m₀ y) → News h₀ env.locals h ((I, oI) :: (P, listOf (List.toArray xs) k) :: (base ++ tl)) →
      wpAny (model prog w) A (execs body env) (APost h₀ env.locals { s with heap := h, toks := tk } I oI P base tl xs [x] m₀) E { s with heap := h, toks := tk })
    (done : ∀ xs ps k tl (u : Str → Option Value) h tk, PairsIn tl xs ps → (∀ p ∈ ps, rngP p) → (∀ p ∈ tl, p.1 ≠ P) → Fr h₀ env.locals h (fun y => if [x].contains y then u y else m₀ y) → News h₀ env.locals h ((P, listOf (List.toArray xs) k) :: (base ++ tl)) → Q .next { s with heap := h, toks := tk }) :
    wpAny (model prog w) A (pyIter (.ref r)) (fun it s₂ => LoopAtV prog w A h₀ env x body Q E it s₂) E s := by
  obtain ⟨j, rfl⟩ := Int.eq_ofNat_of_zero_le hn0
  refine span_go (n := j) (fun i m nx => ∃ xs ps k tl, nx = (P, listOf (List.toArray xs) k) :: (base ++ tl) ∧ PairsIn tl xs ps ∧ xs.length = i ∧ (∀ p ∈ ps, rngP p) ∧ (∀ p ∈ tl, p.1 ≠ P) ∧ KeepM [x] m₀ m) hh hr (small_one (by decide) (by decide) (by omega) (by omega)) (by rw [rangeSize_nat]; simp) F N
    ⟨[], [], k₀, [], by rw [List.append_nil], trivial, rfl, fun _ h => (nomatch h), fun _ h => (nomatch h), .refl⟩ ?_ ?_
  · rintro I i m nx t h tk oI hI hi ⟨xs, ps, k, tl, rfl, hp, hl, hrg, htl, hK⟩ off F' N'
    rw [Int.zero_add] at F'
    rw [KeepM.form0 hK] at F'
    have hPI : @LT.lt Nat _ P I := hI (P, _) List.mem_cons_self
    have hi4 : i < 4 := by omega
    have htI : ∀ p ∈ tl, p.1 ≠ I := fun p hp' => off p (List.mem_cons_of_mem _ (List.mem_append_right _ hp'))
    refine wpAny_mono (turn I i xs k tl m t h tk oI hPI (fun p hp' => hI p (List.mem_cons_of_mem _ hp')) htl htI (by omega) hi4 F' N') (fun f s₂ hq => ?_) fun _ _ e => e
    cases f with
    | ret v => exact hq.elim
    | brk => exact hq.elim
    | cont => exact hq.elim
    | next =>
      obtain ⟨h', tk', m', k', T, a, b, u, u', e, F'', N'', hab, hTP, hTI, hK'⟩ := hq
      have hsub : ∀ p ∈ (I, oI) :: (P, listOf (xs ++ [Value.ref T]).toArray k') :: (base ++ ((T, ({ cls := .type "tuple", data := .seq [Value.int a u, Value.int b u'].toArray } : Obj)) :: tl)), p ∈ (T, ({ cls := .type "tuple", data := .seq [Value.int a u, Value.int b u'].toArray } : Obj)) :: (I, oI) :: (P, listOf (xs ++ [Value.ref T]).toArray k') :: (base ++ tl) := by
        intro p hp'
        simp only [List.mem_cons, List.mem_append] at hp' ⊢
        rcases hp' with h1 | h1 | h1 | h1 | h1
        · exact .inr (.inl h1)
        · exact .inr (.inr (.inl h1))
        · exact .inr (.inr (.inr (.inl h1)))
        · exact .inl h1
        · exact .inr (.inr (.inr (.inr h1)))
      refine ⟨h', tk', m', (P, listOf (xs ++ [Value.ref T]).toArray k') :: (base ++ ((T, _) :: tl)), e, F'', fun p hp' => N'' p (hsub p hp'), ?_, xs ++ [.ref T], ps ++ [(a, b)], k', (T, _) :: tl, rfl, ?_, ?_, ?_, ?_, hK'⟩
      · intro p hp'
        rcases List.mem_cons.mp hp' with rfl | hp'
        · exact Nat.ne_of_lt hPI
        · rcases List.mem_append.mp hp' with hp' | hp'
          · exact Nat.ne_of_lt (hI p (List.mem_cons_of_mem _ hp'))
          · rcases List.mem_cons.mp hp' with rfl | hp'
            · exact hTI
            · exact htI p hp'
      · exact PairsIn.append (hp.mono fun p h => List.mem_cons_of_mem _ h) ⟨⟨T, u, u', rfl, List.mem_cons_self⟩, trivial⟩
      · rw [List.length_append, hl]; rfl
      · intro p hp'
        rcases List.mem_append.mp hp' with hp' | hp'
        · exact hrg p hp'
        · rw [List.mem_singleton.mp hp']; exact hab
      · intro p hp'
        rcases List.mem_cons.mp hp' with rfl | hp'
        · exact hTP
        · exact htl p hp'
  · rintro m nx h tk ⟨xs, ps, k, tl, rfl, hp, _, hrg, htl, hK⟩ F' N'
    rw [KeepM.form0 hK] at F'
    exact done xs ps k tl m h tk hp hrg htl F' N'
/-- the loop over the spots of one range -/
theorem spot_go {r : Addr} {a₀ b₀ : Int} {t₀ u₀ v₀ : Tok} {m₀ : Str → Option Value} {news : List (Addr × Obj)} {v : BitVec 32} (a : Str) (hh : A.handled = none) (hr : IsRange s.heap r a₀ (b₀ + 1) 1 t₀ u₀ v₀) (h0 : 0 ≤ a₀) (h33 : a₀ ≤ 33) (hb0 : -1 ≤ b₀) (hb : b₀ ≤ 31)
    (F : Fr h₀ env.locals s.heap m₀) (N : News h₀ env.locals s.heap news) (ha : ∃ t, m₀ a = some (.int (J v) t))
    (turn : ∀ I k (vk : BitVec 32) (u : Str → Option Value) t ta h tk oI, (∀ p ∈ news, p.1 < I) → 0 ≤ k → k ≤ 31 →
      Fr h₀ env.locals h (fun y => if y = x then some (.int k t) else if y = a then some (.int (J vk) ta) else if [a, x].contains y then u y else m₀ y) → News h₀ env.locals h ((I, oI) :: news) →
      wpAny (model prog w) A (execs body env) (TPost h₀ env.locals { s with heap := h, toks := tk } I oI (fun m nx => nx = news ∧ (∃ t, m a = some (.int (J (vk ||| RI k k)) t)) ∧ KeepM [a, x] m₀ m) Q) E { s with heap := h, toks := tk })
    (done : ∀ (u : Str → Option Value) ta h tk, Fr h₀ env.locals h (fun y => if y = a then some (.int (J (v ||| RI a₀ b₀)) ta) else if [a, x].contains y then u y else m₀ y) → News h₀ env.locals h news → Q .next { s with heap := h, toks := tk }) :
    wpAny (model prog w) A (pyIter (.ref r)) (fun it s₂ => LoopAtV prog w A h₀ env x body Q E it s₂) E s := by
  refine span_go (n := (b₀ + 1 - a₀).toNat) (fun i m nx => nx = news ∧ (∃ t, m a = some (.int (J (v ||| RI a₀ (a₀ + (i : Int) - 1))) t)) ∧ KeepM [a, x] m₀ m) hh hr (small_one (by omega) (by omega) (by omega) (by omega)) (rangeSize_nat _ _) F N ⟨rfl, ?_, .refl⟩ ?_ ?_
  · obtain ⟨t, e⟩ := ha
    exact ⟨t, by rw [or_none v (by omega)]; exact e⟩
  · rintro I i m nx t h tk oI hI hi ⟨rfl, ⟨ta, ha'⟩, hK⟩ _ F' N'
    rw [KeepM.form1 ha' hK] at F'
    refine wpAny_mono (turn I (a₀ + (i : Int)) _ m t ta h tk oI hI (by omega) (by omega) F' N') (fun f s₂ hq => ?_) fun _ _ e => e
    have fin : TEnd h₀ env.locals { s with heap := h, toks := tk } I oI (fun m nx' => nx' = nx ∧ (∃ t, m a = some (.int (J (v ||| RI a₀ (a₀ + (i : Int) - 1) ||| RI (a₀ + (i : Int)) (a₀ + (i : Int)))) t)) ∧ KeepM [a, x] m₀ m) s₂ →
        TEnd h₀ env.locals { s with heap := h, toks := tk } I oI (fun m nx' => nx' = nx ∧ (∃ t, m a = some (.int (J (v ||| RI a₀ (a₀ + ((i + 1 : Nat) : Int) - 1))) t)) ∧ KeepM [a, x] m₀ m) s₂ := by
      rintro ⟨h', tk', m', nx', e, F'', N'', off', e2, ⟨t2, e3⟩, hK'⟩
      refine ⟨h', tk', m', nx', e, F'', N'', off', e2, ⟨t2, ?_⟩, hK'⟩
      rw [RI_snoc h0 (by omega) (by omega)] at e3
      rw [show a₀ + ((i + 1 : Nat) : Int) - 1 = a₀ + (i : Int) by omega]
      exact e3
    cases f with
    | ret v => exact hq
    | brk => exact hq
    | next => exact fin hq
    | cont => exact fin hq
  · rintro m nx h tk ⟨rfl, ⟨ta, ha'⟩, hK⟩ F' N'
    have e : v ||| RI a₀ (a₀ + ((b₀ + 1 - a₀).toNat : Int) - 1) = v ||| RI a₀ b₀ := by
      by_cases c : b₀ < a₀
      · rw [or_none v (by omega), or_none v c]
      · rw [show a₀ + ((b₀ + 1 - a₀).toNat : Int) - 1 = b₀ by omega]
    rw [e] at ha'
    rw [KeepM.form1 ha' hK] at F'
    exact done m ta h tk F' N'
/-- the loop over the ranges -/
theorem rows_go {ax : Addr} {n : Nat} {xs : List Value} {ps : List (Int × Int)} {m₀ : Str → Option Value} {news tl : List (Addr × Obj)} (a b : Str) (free : List Str)
    (hh : A.handled = none) (F : Fr h₀ env.locals s.heap m₀) (N : News h₀ env.locals s.heap news) (hm : (ax, listOf xs.toArray n) ∈ news) (hp : PairsIn tl xs ps) (hs : ∀ p ∈ tl, p ∈ news) (hr : ∀ p ∈ ps, rngP p) (ha : ∃ t, m₀ a = some (.int 0 t)) (hb : m₀ b = some (.bool false))
    (turn : ∀ I (a₁ a₂ : Int) D t t' h tk oI (u : Str → Option Value) ta (v : BitVec 32) (bv : Bool), (∀ q ∈ news, q.1 < I) → -1 ≤ a₁ → a₁ ≤ 33 → -1 ≤ a₂ → a₂ ≤ 33 → @LT.lt Nat _ D I →
      Fr h₀ env.locals h (fun z => if z = a then some (.int (J v) ta) else if z = b then some (.bool bv) else if free.contains z then u z else m₀ z) → News h₀ env.locals h ((D, ({ cls := .type "tuple", data := .seq [Value.int a₁ t, Value.int a₂ t'].toArray } : Obj)) :: (I, oI) :: news) →
      wpAny (model prog w) A (assign target env (.ref D)) (fun _ s₂ => wpAny (model prog w) A (execs body env) (TPost h₀ env.locals { s with heap := h, toks := tk } I oI
        (fun m nx => nx = news ∧ (∃ t, m a = some (.int (J (v ||| RI (cut0 a₁) (cut31 a₂))) t)) ∧ (∃ bv', m b = some (.bool bv') ∧ bv' = (bv || !decide (okP (a₁, a₂)))) ∧ KeepM free m₀ m) Q) E s₂) E { s with heap := h, toks := tk })
    (good : (∀ p ∈ ps, okP p) → ∀ (u : Str → Option Value) ta h tk, Fr h₀ env.locals h (fun z => if z = a then some (.int (J (foldS 0#32 ps)) ta) else if z = b then some (.bool false) else if free.contains z then u z else m₀ z) → News h₀ env.locals h news → Q .next { s with heap := h, toks := tk })
    (poor : (¬ ∀ p ∈ ps, okP p) → ∀ (u : Str → Option Value) ta h tk v, Fr h₀ env.locals h (fun z => if z = a then some (.int (J v) ta) else if z = b then some (.bool true) else if free.contains z then u z else m₀ z) → News h₀ env.locals h news → Q .next { s with heap := h, toks := tk }) :
    wpAny (model prog w) A (pyIter (.ref ax)) (fun it s₂ => TurnsAt prog w A h₀ env target body Q E it s₂) E s := by
  have hp' := hp.mono hs
  refine list_go (fun i m nx => nx = news ∧ (∃ t, m a = some (.int (J (cutS 0#32 (ps.take i))) t)) ∧ (∃ bv, m b = some (.bool bv) ∧ (bv = false ↔ ∀ p ∈ ps.take i, okP p)) ∧ KeepM free m₀ m) hh F N hm ⟨rfl, ?_, ⟨false, hb, by simp⟩, .refl⟩ (fun i m nx hR => by rw [hR.1]; exact hm) ?_ ?_
  · obtain ⟨t, e⟩ := ha
    exact ⟨t, e⟩
  · rintro I i v m nx h tk oI hI hv ⟨rfl, ⟨ta, ha'⟩, ⟨bv, hb', hbv⟩, hK⟩ _ F' _ N'
    obtain ⟨p, hpi, D, t, t', rfl, hD⟩ := hp'.get hv
    obtain ⟨h1, h2, h3, h4⟩ := hr p (List.mem_of_getElem? hpi)
    rw [KeepM.form2 ha' hb' hK] at F'
    refine wpAny_mono (turn I p.1 p.2 D t t' h tk oI m ta _ bv hI h1 h2 h3 h4 (hI _ hD) F' fun q hq => ?_) (fun _ s₂ hq => wpAny_mono hq (fun f s₃ hq => ?_) fun _ _ e => e) fun _ _ e => e
    · rcases List.mem_cons.mp hq with rfl | hq
      · exact N' _ (List.mem_cons_of_mem _ hD)
      · exact N' _ hq
    · have fin : TEnd h₀ env.locals { s with heap := h, toks := tk } I oI (fun m nx' => nx' = nx ∧ (∃ t, m a = some (.int (J (cutS 0#32 (ps.take i) ||| RI (cut0 p.1) (cut31 p.2))) t)) ∧ (∃ bv', m b = some (.bool bv') ∧ bv' = (bv || !decide (okP (p.1, p.2)))) ∧ KeepM free m₀ m) s₃ →
          TEnd h₀ env.locals { s with heap := h, toks := tk } I oI (fun m nx' => nx' = nx ∧ (∃ t, m a = some (.int (J (cutS 0#32 (ps.take (i + 1)))) t)) ∧ (∃ bv, m b = some (.bool bv) ∧ (bv = false ↔ ∀ p ∈ ps.take (i + 1), okP p)) ∧ KeepM free m₀ m) s₃ := by
        rintro ⟨h', tk', m', nx', e, F'', N'', off', e2, ⟨t2, e3⟩, ⟨bv', e4, e5⟩, hK'⟩
        refine ⟨h', tk', m', nx', e, F'', N'', off', e2, ⟨t2, by rw [cutS_take hpi]; exact e3⟩, ⟨bv', e4, ?_⟩, hK'⟩
        rw [e5, List.take_add_one, hpi, Option.toList_some]
        constructor
        · intro hz
          rw [Bool.or_eq_false_iff] at hz
          intro q hq'
          rcases List.mem_append.mp hq' with hq' | hq'
          · exact hbv.mp hz.1 q hq'
          · rw [List.mem_singleton.mp hq']
            simpa using hz.2
        · intro hz
          have hq1 := hbv.mpr fun q hq' => hz q (List.mem_append_left _ hq')
          have hq2 : okP p := hz p (List.mem_append_right _ (List.mem_singleton.mpr rfl))
          rw [hq1, decide_eq_true hq2]; rfl
      cases f with
      | ret v => exact hq
      | brk => exact hq
      | next => exact fin hq
      | cont => exact fin hq
  · rintro m nx h tk ⟨rfl, ⟨ta, ha'⟩, ⟨bv, hb', hbv⟩, hK⟩ F' N'
    rw [hp.length, List.take_length] at ha' hbv
    rw [KeepM.form2 ha' hb' hK] at F'
    cases bv with
    | false =>
      have hok := hbv.mp rfl
      rw [cutS_eq hok] at F'
      exact good hok m ta h tk F' N'
    | true => exact poor (fun q => by cases hbv.mpr q) m ta h tk _ F' N'
def JPost (h₀ : Heap) (L : Addr) (s₁ : Shared) (news : List (Addr × Obj)) (a : Str) (m : Str → Option Value) (f : Flow) (s₂ : Shared) : Prop :=
  match f with
  | .next => ∃ (bb : BitVec 32) (t : Tok) (h' : Heap) (tk : Nat), s₂ = { s₁ with heap := h', toks := tk } ∧ Fr h₀ L h' (fun y => if y = a then some (.int (J bb) t) else m y) ∧ News h₀ L h' news
  | _ => False
theorem JPost.set {L : Addr} {s₁ : Shared} {news : List (Addr × Obj)} {a : Str} {m : Str → Option Value} {bb : BitVec 32} {t : Tok} {h' : Heap} {tk : Nat} (F : Fr h₀ L h' (fun y => if y = a then some (.int (J bb) t) else m y)) (N : News h₀ L h' news) : JPost h₀ L s₁ news a m .next { s₁ with heap := h', toks := tk } := ⟨bb, t, h', tk, rfl, F, N⟩
theorem JPost.same {L : Addr} {s₁ : Shared} {news : List (Addr × Obj)} {a : Str} {m : Str → Option Value} {bb : BitVec 32} {t : Tok} {h' : Heap} {tk : Nat} (F : Fr h₀ L h' m) (e : m a = some (.int (J bb) t)) (N : News h₀ L h' news) : JPost h₀ L s₁ news a m .next { s₁ with heap := h', toks := tk } :=
  ⟨bb, t, h', tk, rfl, by
    rw [show (fun y => if y = a then some (Value.int (J bb) t) else m y) = m from by
      funext y
      by_cases c : y = a
      · rw [if_pos c, c, e]
      · rw [if_neg c]]
    exact F, N⟩
/-- a test that may turn one mask: one way from there on -/
theorem if_join {st : Stmt} {L : Addr} {m : Str → Option Value} {news : List (Addr × Obj)} (a : Str) (_F : Fr h₀ L s.heap m) (_N : News h₀ L s.heap news) (walk : wpAny (model prog w) A (exec st env) (JPost h₀ L s news a m) E s)
    (cont : ∀ (bb : BitVec 32) (t : Tok) h' tk', Fr h₀ L h' (fun y => if y = a then some (.int (J bb) t) else m y) → News h₀ L h' news → Q .next { s with heap := h', toks := tk' }) : wpAny (model prog w) A (exec st env) Q E s :=
  wpAny_mono walk (fun f s₂ hq => by
    cases f with
    | next =>
      obtain ⟨bb, t, h', tk, e, F, N⟩ := hq
      rw [e]
      exact cont bb t h' tk F N
    | ret v => exact hq.elim
    | brk => exact hq.elim
    | cont => exact hq.elim) fun _ _ e => e
end
section
variable {w : World} {mean : ExcName → Option Value} {mg mb : Str → Option Value} {news : List (Addr × Obj)}
theorem fold_good {tl : List (Addr × Obj)} {ps : List (Int × Int)} (l : Addr) (n : Nat) (xs : List Value) (hok : ∀ p ∈ ps, okP p) (hm : (l, listOf xs.toArray n) ∈ news) (hp : PairsIn tl xs ps) (hs : ∀ p ∈ tl, p ∈ news) : Ctr w mean mg mb 4 91 news [.ref l] (OutT (J (foldS 0#32 ps)) (Str.ofString "")) := by
  have := fold_ (w := w) (mean := mean) (mg := mg) (mb := mb) (news := news) l n xs _ hm (hp.mono hs)
  rwa [show setV ps = J (foldS 0#32 ps) from if_pos hok, show setC ps = Str.ofString "" from if_pos hok] at this
theorem fold_poor {tl : List (Addr × Obj)} {ps : List (Int × Int)} (l : Addr) (n : Nat) (xs : List Value) (hbad : ¬ ∀ p ∈ ps, okP p) (hm : (l, listOf xs.toArray n) ∈ news) (hp : PairsIn tl xs ps) (hs : ∀ p ∈ tl, p ∈ news) : Ctr w mean mg mb 4 91 news [.ref l] (OutT 0 (Str.ofString "bad_element")) := by
  have := fold_ (w := w) (mean := mean) (mg := mg) (mb := mb) (news := news) l n xs _ hm (hp.mono hs)
  rwa [show setV ps = 0 from if_neg hbad, show setC ps = Str.ofString "bad_element" from if_neg hbad] at this
theorem fold_one {k : Int} {T : Addr} {t t' : Tok} (l : Addr) (n : Nat) (h0 : 0 ≤ k) (h1 : k ≤ 31) (hm : (l, listOf [Value.ref T].toArray n) ∈ news) (hT : (T, ({ cls := .type "tuple", data := .seq [Value.int k t, Value.int k t'].toArray } : Obj)) ∈ news) : Ctr w mean mg mb 4 91 news [.ref l] (OutT (J (RI k k)) (Str.ofString "")) := by
  have hok : ∀ p ∈ [(k, k)], okP p := by
    intro p hp
    rw [List.mem_singleton.mp hp]
    exact ⟨h0, h1, h0, h1⟩
  have := fold_good (w := w) (mean := mean) (mg := mg) (mb := mb) (news := news) (tl := news) l n [.ref T] hok hm ⟨⟨T, t, t', rfl, hT⟩, trivial⟩ fun _ h => h
  rwa [show foldS 0#32 [(k, k)] = RI k k from none_or _] at this
end

theorem fmod5 (x : Int) : 0 ≤ x.fmod 5 ∧ x.fmod 5 ≤ 4 := ⟨fmod_lo x (by decide), by have := fmod_hi x (n := 5) (by decide); omega⟩
theorem rng_mod (x y : Int) : rngP (x.fmod 35 - 1, y.fmod 35 - 1) := by
  have h1 := fmod_lo x (n := 35) (by decide)
  have h2 := fmod_hi x (n := 35) (by decide)
  have h3 := fmod_lo y (n := 35) (by decide)
  have h4 := fmod_hi y (n := 35) (by decide)
  refine ⟨?_, ?_, ?_, ?_⟩ <;> dsimp only <;> omega
abbrev Bad (x : Int) : Prop := x = -1 ∨ x = 32 ∨ x = 33
theorem bad3 {a b : Int} (h1 : -1 ≤ a) (h2 : a ≤ 33) (h3 : -1 ≤ b) (h4 : b ≤ 33) : (Bad a ∧ ¬ okP (a, b)) ∨ (¬ Bad a ∧ Bad b ∧ ¬ okP (a, b)) ∨ (¬ Bad a ∧ ¬ Bad b ∧ okP (a, b)) := by
  unfold Bad okP
  dsimp only
  omega
theorem bad_t {bv : Bool} {p : Int × Int} (h : ¬ okP p) : true = (bv || !decide (okP p)) := by rw [decide_eq_false h]; simp
theorem bad_f {bv : Bool} {p : Int × Int} (h : okP p) : bv = (bv || !decide (okP p)) := by rw [decide_eq_true h]; simp
theorem subT {p0 p1 : Addr × Obj} {all : List (Addr × Obj)} : ∀ p ∈ p0 :: all, p ∈ p0 :: p1 :: all := fun p hp => (List.mem_cons.mp hp).elim (fun e => e ▸ List.mem_cons_self) fun h => List.mem_cons_of_mem _ (List.mem_cons_of_mem _ h)
theorem offLt {I : Addr} {news : List (Addr × Obj)} (h : ∀ p ∈ news, p.1 < I) : ∀ p ∈ news, p.1 ≠ I := fun p hp => Nat.ne_of_lt (h p hp)
theorem cut0_lo (x : Int) : 0 ≤ cut0 x := by unfold cut0; split <;> omega
theorem cut0_hi {x : Int} (h : x ≤ 33) : cut0 x ≤ 33 := by unfold cut0; split <;> omega
theorem cut31_lo {x : Int} (h : -1 ≤ x) : -1 ≤ cut31 x := by unfold cut31; split <;> omega
theorem cut31_hi (x : Int) : cut31 x ≤ 31 := by unfold cut31; split <;> omega
section
variable {prog : Program} {w : World} {A : Around} {E : Value → Shared → Prop} {s : Shared} {env : Env} {h₀ : Heap} {target : PySem.Expr} {x : Str} {body : List Stmt} {Q : Flow → Shared → Prop} {L : Addr}
theorem in_bad_tt {l : Addr} {k : Int} {t t1 t2 t3 : Tok} {R : Value → Shared → Prop} (hl : s.heap.IsList l [Value.int (-1) t1, Value.int 32 t2, Value.int 33 t3].toArray) (hb : Bad k) (h : R (.bool true) s) : wpAny (model prog w) A (compareOp .In (.int k t) (.ref l)) R E s :=
  in_list_ints hl (.cons _ _ (.cons _ _ (.cons _ _ .nil))) (by
    rw [show [(-1 : Int), 32, 33].any (fun y => y == k) = true from by rcases hb with rfl | rfl | rfl <;> rfl]
    exact h)
theorem in_bad_ff {l : Addr} {k : Int} {t t1 t2 t3 : Tok} {R : Value → Shared → Prop} (hl : s.heap.IsList l [Value.int (-1) t1, Value.int 32 t2, Value.int 33 t3].toArray) (hb : ¬ Bad k) (h : R (.bool false) s) : wpAny (model prog w) A (compareOp .In (.int k t) (.ref l)) R E s :=
  in_list_ints hl (.cons _ _ (.cons _ _ (.cons _ _ .nil))) (by
    rw [show [(-1 : Int), 32, 33].any (fun y => y == k) = false from by
      simp only [List.any_cons, List.any_nil, Bool.or_false, Bool.or_eq_false_iff, beq_eq_false_iff_ne]
      unfold Bad at hb
      omega]
    exact h)
theorem each_use {r P dm dc : Addr} {n : Int} {t₀ u₀ v₀ : Tok} {k₀ : Nat} {m₀ : Str → Option Value} {e1 e2 e3 e4 e5 e6 e7 : Addr × Obj} {om oc : Obj} {rest : List (Addr × Obj)} (hL : env.locals = L) (hh : A.handled = none) (hr : IsRange s.heap r 0 n 1 t₀ u₀ v₀) (hn : 0 ≤ n ∧ n ≤ 4) (F : Fr h₀ L s.heap m₀)
    (N : News h₀ L s.heap ((P, listOf ([] : List Value).toArray k₀) :: e1 :: e2 :: e3 :: e4 :: e5 :: e6 :: e7 :: (dm, om) :: (dc, oc) :: rest)) (hb1 : @Ne Nat dm P) (hb2 : @Ne Nat dc P)
    (turn : ∀ I i xs k tl (u : Str → Option Value) t h tk oI, @LT.lt Nat _ P I → @LT.lt Nat _ dm I → @LT.lt Nat _ dc I → (∀ p ∈ tl, p.1 ≠ P) → (∀ p ∈ tl, p.1 ≠ I) → xs.length ≤ 4 → i < 4 →
      Fr h₀ L h (fun y => if y = x then some (.int (i : Nat) t) else if [x].contains y then u y else m₀ y) → News h₀ L h ((I, oI) :: (P, listOf (List.toArray xs) k) :: (dm, om) :: (dc, oc) :: tl) →
      wpAny (model prog w) A (execs body env) (APost h₀ L { s with heap := h, toks := tk } I oI P [(dm, om), (dc, oc)] tl xs [x] m₀) E { s with heap := h, toks := tk })
    (done : ∀ xs ps k tl (u : Str → Option Value) h tk, PairsIn tl xs ps → (∀ p ∈ ps, rngP p) → (∀ p ∈ tl, p.1 ≠ P) → Fr h₀ L h (fun y => if [x].contains y then u y else m₀ y) → News h₀ L h ((P, listOf (List.toArray xs) k) :: (dm, om) :: (dc, oc) :: tl) → Q .next { s with heap := h, toks := tk }) :
    wpAny (model prog w) A (pyIter (.ref r)) (fun it s₂ => LoopAtV prog w A h₀ env x body Q E it s₂) E s := by
  subst hL
  refine each_go (P := P) (k₀ := k₀) (base := [(dm, om), (dc, oc)]) hh hr hn.1 hn.2 F (fun p hp => N p ?_) ?_ (fun I i xs k tl u t h tk oI a b c d e f F' N' => turn I i xs k tl u t h tk oI a (b (dm, om) List.mem_cons_self) (b (dc, oc) (List.mem_cons_of_mem _ List.mem_cons_self)) c d e f F' N') done
  · rcases List.mem_cons.mp hp with rfl | hp
    · exact List.mem_cons_self
    · rcases List.mem_cons.mp hp with rfl | hp
      · simp
      · rw [List.mem_singleton.mp hp]; simp
  · intro p hp
    rcases List.mem_cons.mp hp with rfl | hp
    · exact hb1
    · rw [List.mem_singleton.mp hp]; exact hb2
theorem spot_use {r : Addr} {a₀ b₀ : Int} {t₀ u₀ v₀ : Tok} {m₀ : Str → Option Value} {news : List (Addr × Obj)} {v : BitVec 32} (a : Str) (hL : env.locals = L) (hh : A.handled = none) (hr : IsRange s.heap r (cut0 a₀) (cut31 b₀ + 1) 1 t₀ u₀ v₀) (ha33 : a₀ ≤ 33) (hb1 : -1 ≤ b₀)
    (F : Fr h₀ L s.heap m₀) (N : News h₀ L s.heap news) (ha : ∃ t, m₀ a = some (.int (J v) t))
    (turn : ∀ I k (vk : BitVec 32) (u : Str → Option Value) t ta h tk oI, (∀ p ∈ news, p.1 < I) → AllLt I news → 0 ≤ k → k ≤ 31 →
      Fr h₀ L h (fun y => if y = x then some (.int k t) else if y = a then some (.int (J vk) ta) else if [a, x].contains y then u y else m₀ y) → News h₀ L h ((I, oI) :: news) →
      wpAny (model prog w) A (execs body env) (TPost h₀ L { s with heap := h, toks := tk } I oI (fun m nx => nx = news ∧ (∃ t, m a = some (.int (J (vk ||| RI k k)) t)) ∧ KeepM [a, x] m₀ m) Q) E { s with heap := h, toks := tk })
    (done : ∀ (u : Str → Option Value) ta h tk, Fr h₀ L h (fun y => if y = a then some (.int (J (v ||| RI (cut0 a₀) (cut31 b₀))) ta) else if [a, x].contains y then u y else m₀ y) → News h₀ L h news → Q .next { s with heap := h, toks := tk }) :
    wpAny (model prog w) A (pyIter (.ref r)) (fun it s₂ => LoopAtV prog w A h₀ env x body Q E it s₂) E s := by
  subst hL
  exact spot_go a hh hr (cut0_lo _) (cut0_hi ha33) (cut31_lo hb1) (cut31_hi _) F N ha (fun I k vk u t ta h tk oI hI => turn I k vk u t ta h tk oI hI (allLt_of hI)) done
theorem rows_use {ax : Addr} {n : Nat} {xs : List Value} {ps : List (Int × Int)} {m₀ : Str → Option Value} {news tl : List (Addr × Obj)} (a b : Str) (free : List Str) (hL : env.locals = L)
    (hh : A.handled = none) (F : Fr h₀ L s.heap m₀) (N : News h₀ L s.heap news) (hm : (ax, listOf xs.toArray n) ∈ news) (hp : PairsIn tl xs ps) (hs : ∀ p ∈ tl, p ∈ news) (hr : ∀ p ∈ ps, rngP p) (ha : ∃ t, m₀ a = some (.int 0 t)) (hb : m₀ b = some (.bool false))
    (turnA : ∀ I (a₁ a₂ : Int) D t t' h tk oI (u : Str → Option Value) ta (v : BitVec 32) (bv : Bool), (∀ q ∈ news, q.1 < I) → AllLt I news → -1 ≤ a₁ → a₁ ≤ 33 → -1 ≤ a₂ → a₂ ≤ 33 → @LT.lt Nat _ D I → Bad a₁ → ¬ okP (a₁, a₂) →
      Fr h₀ L h (fun z => if z = a then some (.int (J v) ta) else if z = b then some (.bool bv) else if free.contains z then u z else m₀ z) → News h₀ L h ((D, ({ cls := .type "tuple", data := .seq [Value.int a₁ t, Value.int a₂ t'].toArray } : Obj)) :: (I, oI) :: news) →
      wpAny (model prog w) A (assign target env (.ref D)) (fun _ s₂ => wpAny (model prog w) A (execs body env) (TPost h₀ L { s with heap := h, toks := tk } I oI
        (fun m nx => nx = news ∧ (∃ t, m a = some (.int (J (v ||| RI (cut0 a₁) (cut31 a₂))) t)) ∧ (∃ bv', m b = some (.bool bv') ∧ bv' = (bv || !decide (okP (a₁, a₂)))) ∧ KeepM free m₀ m) Q) E s₂) E { s with heap := h, toks := tk })
    (turnB : ∀ I (a₁ a₂ : Int) D t t' h tk oI (u : Str → Option Value) ta (v : BitVec 32) (bv : Bool), (∀ q ∈ news, q.1 < I) → AllLt I news → -1 ≤ a₁ → a₁ ≤ 33 → -1 ≤ a₂ → a₂ ≤ 33 → @LT.lt Nat _ D I → ¬ Bad a₁ → Bad a₂ → ¬ okP (a₁, a₂) →
      Fr h₀ L h (fun z => if z = a then some (.int (J v) ta) else if z = b then some (.bool bv) else if free.contains z then u z else m₀ z) → News h₀ L h ((D, ({ cls := .type "tuple", data := .seq [Value.int a₁ t, Value.int a₂ t'].toArray } : Obj)) :: (I, oI) :: news) →
      wpAny (model prog w) A (assign target env (.ref D)) (fun _ s₂ => wpAny (model prog w) A (execs body env) (TPost h₀ L { s with heap := h, toks := tk } I oI
        (fun m nx => nx = news ∧ (∃ t, m a = some (.int (J (v ||| RI (cut0 a₁) (cut31 a₂))) t)) ∧ (∃ bv', m b = some (.bool bv') ∧ bv' = (bv || !decide (okP (a₁, a₂)))) ∧ KeepM free m₀ m) Q) E s₂) E { s with heap := h, toks := tk })
    (turnC : ∀ I (a₁ a₂ : Int) D t t' h tk oI (u : Str → Option Value) ta (v : BitVec 32) (bv : Bool), (∀ q ∈ news, q.1 < I) → AllLt I news → -1 ≤ a₁ → a₁ ≤ 33 → -1 ≤ a₂ → a₂ ≤ 33 → @LT.lt Nat _ D I → ¬ Bad a₁ → ¬ Bad a₂ → okP (a₁, a₂) →
      Fr h₀ L h (fun z => if z = a then some (.int (J v) ta) else if z = b then some (.bool bv) else if free.contains z then u z else m₀ z) → News h₀ L h ((D, ({ cls := .type "tuple", data := .seq [Value.int a₁ t, Value.int a₂ t'].toArray } : Obj)) :: (I, oI) :: news) →
      wpAny (model prog w) A (assign target env (.ref D)) (fun _ s₂ => wpAny (model prog w) A (execs body env) (TPost h₀ L { s with heap := h, toks := tk } I oI
        (fun m nx => nx = news ∧ (∃ t, m a = some (.int (J (v ||| RI (cut0 a₁) (cut31 a₂))) t)) ∧ (∃ bv', m b = some (.bool bv') ∧ bv' = (bv || !decide (okP (a₁, a₂)))) ∧ KeepM free m₀ m) Q) E s₂) E { s with heap := h, toks := tk })
    (good : (∀ p ∈ ps, okP p) → ∀ (u : Str → Option Value) ta h tk, Fr h₀ L h (fun z => if z = a then some (.int (J (foldS 0#32 ps)) ta) else if z = b then some (.bool false) else if free.contains z then u z else m₀ z) → News h₀ L h news → Q .next { s with heap := h, toks := tk })
    (poor : (¬ ∀ p ∈ ps, okP p) → ∀ (u : Str → Option Value) ta h tk v, Fr h₀ L h (fun z => if z = a then some (.int (J v) ta) else if z = b then some (.bool true) else if free.contains z then u z else m₀ z) → News h₀ L h news → Q .next { s with heap := h, toks := tk }) :
    wpAny (model prog w) A (pyIter (.ref ax)) (fun it s₂ => TurnsAt prog w A h₀ env target body Q E it s₂) E s := by
  subst hL
  refine rows_go a b free hh F N hm hp hs hr ha hb (fun I a₁ a₂ D t t' h tk oI u ta v bv hI h1 h2 h3 h4 hD F' N' => ?_) good poor
  rcases bad3 h1 h2 h3 h4 with ⟨q1, q2⟩ | ⟨q1, q2, q3⟩ | ⟨q1, q2, q3⟩
  · exact turnA I a₁ a₂ D t t' h tk oI u ta v bv hI (allLt_of hI) h1 h2 h3 h4 hD q1 q2 F' N'
  · exact turnB I a₁ a₂ D t t' h tk oI u ta v bv hI (allLt_of hI) h1 h2 h3 h4 hD q1 q2 q3 F' N'
  · exact turnC I a₁ a₂ D t t' h tk oI u ta v bv hI (allLt_of hI) h1 h2 h3 h4 hD q1 q2 q3 F' N'
end

theorem ints_word {us : List Value} {ms : List Int} (hi : IntsAre us ms) (hb : ∀ x ∈ ms, Word32 x) : ∃ ps : List (BitVec 32 × Tok), ps.length = ms.length ∧ us = ps.map fun p => Value.int (J p.1) p.2 := by
  induction hi with
  | nil => exact ⟨[], rfl, rfl⟩
  | cons i t _ ih =>
    obtain ⟨ps, h1, h2⟩ := ih fun x hx => hb x (.tail _ hx)
    have hw := hb i (.head _)
    exact ⟨(BitVec.ofNat 32 i.toNat, t) :: ps, by rw [List.length_cons, List.length_cons, h1], by rw [List.map_cons, ← h2, J_of hw.1 hw.2]⟩
theorem list14 {α : Type} : ∀ (l : List α), l.length = 14 → ∃ a0 a1 a2 a3 a4 a5 a6 a7 a8 a9 a10 a11 a12 a13, l = [a0, a1, a2, a3, a4, a5, a6, a7, a8, a9, a10, a11, a12, a13]
  | [a0, a1, a2, a3, a4, a5, a6, a7, a8, a9, a10, a11, a12, a13], _ => ⟨a0, a1, a2, a3, a4, a5, a6, a7, a8, a9, a10, a11, a12, a13, rfl⟩
theorem ints14 {us : List Value} {ms : List Int} (hi : IntsAre us ms) (hl : ms.length = 14) (hb : ∀ x ∈ ms, Word32 x) : ∃ (v0 v1 v2 v3 v4 v5 v6 v7 v8 v9 v10 v11 v12 v13 : BitVec 32) (t0 t1 t2 t3 t4 t5 t6 t7 t8 t9 t10 t11 t12 t13 : Tok), us = [Value.int (J v0) t0, Value.int (J v1) t1, Value.int (J v2) t2, Value.int (J v3) t3, Value.int (J v4) t4, Value.int (J v5) t5, Value.int (J v6) t6, Value.int (J v7) t7, Value.int (J v8) t8, Value.int (J v9) t9, Value.int (J v10) t10, Value.int (J v11) t11, Value.int (J v12) t12, Value.int (J v13) t13] := by
  obtain ⟨ps, h1, h2⟩ := ints_word hi hb
  obtain ⟨a0, a1, a2, a3, a4, a5, a6, a7, a8, a9, a10, a11, a12, a13, rfl⟩ := list14 ps (h1.trans hl)
  exact ⟨a0.1, a1.1, a2.1, a3.1, a4.1, a5.1, a6.1, a7.1, a8.1, a9.1, a10.1, a11.1, a12.1, a13.1, a0.2, a1.2, a2.2, a3.2, a4.2, a5.2, a6.2, a7.2, a8.2, a9.2, a10.2, a11.2, a12.2, a13.2, h2⟩
section
variable {w : World} {mean : ExcName → Option Value} {mg mb : Str → Option Value} {dd : Nat} {f : Addr} {news : List (Addr × Obj)} {vs : List Value}
  {dp un : Nat} {gd : Option (List Code)} {cn : Str} {cs : Scope} {a : Addr} {ccd : Value} {cl : List (Str × Addr)} {outer : List Env} {A₀ : Around} {base h₀ : Heap} {L l : Addr} {xs : List Value} {m : Str → Option Value} {s : Shared} {Q E : Value → Shared → Prop}
theorem CtrL.useM (C : CtrL w mean mg mb dd f l xs news vs OutM) (B : Below A₀ base outer h₀) (hbase : base.IsList l xs.toArray) (F : Fr h₀ L s.heap m) (X : (Mine.hd.heap_39 w.params).In h₀) (N : News h₀ L s.heap news) (T : Top Mine.hd.view_39 (looseW Mine.hd.view_39 []) mean mg mb h₀)
    (hk : cs.kind = .function) (hd : dp + dd < recursionLimit) (hu : un + 1000 * dd < cLine) (ret : ∀ D k (v0 v1 v2 v3 v4 v5 v6 v7 v8 v9 v10 v11 v12 v13 : BitVec 32) (t0 t1 t2 t3 t4 t5 t6 t7 t8 t9 t10 t11 t12 t13 : Tok) h' tk', Fr h₀ L h' m → News h₀ L h' ((D, listOf [Value.int (J v0) t0, Value.int (J v1) t1, Value.int (J v2) t2, Value.int (J v3) t3, Value.int (J v4) t4, Value.int (J v5) t5, Value.int (J v6) t6, Value.int (J v7) t7, Value.int (J v8) t8, Value.int (J v9) t9, Value.int (J v10) t10, Value.int (J v11) t11, Value.int (J v12) t12, Value.int (J v13) t13].toArray k) :: news) → (∀ p ∈ news, p.1 ≠ D) → Q (.ref D) { s with heap := h', toks := tk' }) :
    wpAny (model PySem.Challenge.rw_pb0311_01.row.prog w) (ktrTop dp un gd cn cs L a ccd cl outer) (call (.ref f) vs) Q E s :=
  C dp un gd cn cs a ccd cl outer A₀ base h₀ L m s Q E B hbase F X N T hk hd hu fun r tl h' tk' F' N' hl o => by
    obtain ⟨D, k, us, ms, rfl, rfl, hi, h14, hb⟩ := o
    obtain ⟨v0, v1, v2, v3, v4, v5, v6, v7, v8, v9, v10, v11, v12, v13, t0, t1, t2, t3, t4, t5, t6, t7, t8, t9, t10, t11, t12, t13, rfl⟩ := ints14 hi h14 hb
    exact ret D k _ _ _ _ _ _ _ _ _ _ _ _ _ _ _ _ _ _ _ _ _ _ _ _ _ _ _ _ h' tk' F' N' fun p hp => hl p hp _ (List.mem_singleton.mpr rfl)
theorem members_use {d0 d1 d2 : Addr} {o0 o1 o2 : Obj} {u v : BitVec 32} {e : Int} {t1 t2 t3 : Tok} (B : Below A₀ base outer h₀) (F : Fr h₀ L s.heap m) (X : (Mine.hd.heap_39 w.params).In h₀) (N : News h₀ L s.heap [(d0, o0), (d1, o1), (d2, o2)]) (T : Top Mine.hd.view_39 (looseW Mine.hd.view_39 []) mean mg mb h₀)
    (hk : cs.kind = .function) (hd : dp + 4 < recursionLimit) (hu : un + 1000 * 4 < cLine) (ret : ∀ h' tk', Fr h₀ L h' m → News h₀ L h' [(d1, o1), (d2, o2)] → Q (.bool true) { s with heap := h', toks := tk' }) :
    wpAny (model PySem.Challenge.rw_pb0311_01.row.prog w) (ktrTop dp un gd cn cs L a ccd cl outer) (call (.ref 145) [.int (J u) t1, .int (J v) t2, .int e t3]) Q E s :=
  Ctr.useB (members_ d1 d2 o1 o2 u v e t1 t2 t3) B F X (fun p hp => N p (List.mem_cons_of_mem _ hp)) T hk hd hu ret
end
local macro_rules | `(tactic| walk_at "call ref") => `(tactic| (k_here; (with_reducible show wpAny _ _ (call (Value.ref 96) _) _ _ _); k_dflt (refine' CtrL.useM ?C ?B ?Bl ?F ?X ?N ?T ?hk ?hd ?hu ?_; (case Bl => assumption); walk_at "MY use"; (case C => exact masks_ _ _ _ _ _ (by assumption) (by omega)); walk_at "MY room"; intros; (rename_i o1; try simp only [List.mem_singleton, forall_eq] at o1); (try k_sweep))))
local macro_rules | `(tactic| walk_at "call ref") => `(tactic| (k_here; (with_reducible first | show wpAny _ _ (call (Value.ref 124) _) _ _ _ | show wpAny _ _ (call (Value.ref 131) _) _ _ _); k_dflt (refine' Ctr.useB ?C ?B ?F ?X ?N ?T ?hk ?hd ?hu ?_; walk_at "MY use"; (case C => first | exact algebra_ _ _ _ _ _ _ | exact order_ _ _ _ _ _ _); walk_at "MY room"; intro h' tk' F' N'; (try k_sweep))))
local macro_rules | `(tactic| walk_at "call ref") => `(tactic| (k_here; (with_reducible show wpAny _ _ (call (Value.ref 145) _) _ _ _); k_dflt (refine' members_use ?B ?F ?X ?N ?T ?hk ?hd ?hu ?_; walk_at "MY use"; walk_at "MY room"; intro h' tk' F' N'; (try k_sweep))))
local macro_rules | `(tactic| walk_at "MY sub") => `(tactic| (intro p hp; (repeat (first | exact hp | refine List.mem_cons_of_mem _ ?_))))
local macro_rules | `(tactic| walk_at "subscriptTail Name Slice ref ref") => `(tactic| (k_here; (with_reducible show wpAny _ _ (subscriptTail _ (PySem.Expr.Slice none none (some _) _) (Value.ref _) (Value.ref _)) _ _ _); k_dflt (refine' rev_pairs ?F ?N ?l ?k ?z ?_ ?s ?t; (case F => k_asm); (case N => k_asm); (case l => kmk_list); (case k => exact IsPart.int _ _); (case z => assumption); (case s => with_unfolding_all rfl); (case t => kmk_pure)); intro D' h' F' N' l1; (try k_lt l1); (try k_sweep)))
local macro_rules | `(tactic| walk_at "binaryOp Add ref ref") => `(tactic| (k_here; (with_reducible show wpAny _ _ (binaryOp _ (Value.ref _) (Value.ref _)) _ _ _); k_dflt (refine' add_pairs ?F ?N ?a ?b ?x ?y ?_; (case F => k_asm); (case N => k_asm); (case a => kmk_list); (case b => kmk_list); (case x => (rw [List.length_reverse]; assumption)); (case y => assumption)); intro D' h' F' N' l1; (try k_lt l1); (try k_sweep)))
local macro_rules | `(tactic| walk_at "JPost") => `(tactic| (k_dflt (first | exact JPost.set (by k_asm) (by k_asm) | exact JPost.same (by k_asm) rfl (by k_asm))))
local macro_rules | `(tactic| walk_at "exec If") => `(tactic| (k_here; (with_reducible show wpAny _ _ (exec (Stmt.If (Expr.Compare (Expr.BinOp (Expr.Subscript _ _ _) _ _ _) _ _ _) _ _ _) _) _ _ _); (rename Fr _ _ _ _ => lF'); (rename News _ _ _ _ => lN'); k_dflt (refine' if_join (Str.ofString "b") lF' lN' (wpAny_If ?_) (fun bb tb h' tk' F' N' => ?_)); (all_goals (try k_sweep))))
local macro_rules | `(tactic| walk_at "exec For Name Call cons nil") => `(tactic| (k_here; (rename Fr _ _ _ _ => lF'); (with_unfolding_all refine' For_invVF lF' ?k1 ?k2 ?_; (case k1 => exact rfl); (case k2 => exact rfl); k_whole)))
local macro_rules | `(tactic| walk_at "call type:range") => `(tactic| (k_here; (rename Fr _ _ _ _ => lF'); (rename News _ _ _ _ => lN'); first | (with_unfolding_all refine range1_rows lF' lN' ?_; (clear lF' lN'); intro h' tk' t' u' v' hR' F' N' hK') | (with_unfolding_all refine range2_rows lF' lN' ?_; (clear lF' lN'); intro h' tk' t' u' v' hR' F' N' hK')))
local macro_rules | `(tactic| k_all) => `(tactic| assumption)
local macro_rules | `(tactic| walk_at "MY drop") => `(tactic| (refine' cb_drop ?N2 ?S; (case N2 => k_asm); (case S => walk_at "MY sub")))
local macro_rules | `(tactic| walk_at "True") => `(tactic| exact True.intro)
local macro_rules | `(tactic| walk_at "MY keep") => `(tactic| (k_dflt (repeat (first | exact KeepM.base | exact KeepM.refl | refine KeepM.set (by rfl) ?_ | refine KeepM.over (by rfl) ?_))))
local macro_rules | `(tactic| walk_at "SNo") => `(tactic| (k_dflt (refine' SNo.intro ?F ?N; (case F => k_asm); (case N => walk_at "MY drop"))))
local macro_rules | `(tactic| walk_at "SYes") => `(tactic| (k_dflt (refine' SYes.intro ?F ?N ?l; (case F => k_asm); (case N => (refine' cb_drop ?N2 ?S; (case N2 => k_asm); (case S => exact subT))); (case l => (refine ⟨neN ?_, neN ?_, neN ?_⟩ <;> omega)))))
local macro_rules | `(tactic| walk_at "APost") => `(tactic| (k_dflt (refine' AEnd.intro ?F ?N (rng_mod _ _) (neN ?h1) (neN ?h2) ?k; (case F => k_asm); (case N => ((rename News _ _ _ _ => nE9); (try simp only [List.push_toArray] at nE9); exact nE9)); (case h1 => omega); (case h2 => omega); (case k => walk_at "MY keep"))))
local macro_rules | `(tactic| walk_at "MY endr") => `(tactic| first | exact ⟨rfl, ⟨_, rfl⟩, by walk_at "MY keep"⟩ | exact ⟨rfl, ⟨_, rfl⟩, ⟨_, rfl, bad_t (by assumption)⟩, by walk_at "MY keep"⟩ | exact ⟨rfl, ⟨_, rfl⟩, ⟨_, rfl, bad_f (by assumption)⟩, by walk_at "MY keep"⟩)
local macro_rules | `(tactic| walk_at "TPost") => `(tactic| (k_dflt (refine TPost.next ?_; refine' TEnd.intro ?F ?N ?o ?r; (case F => k_asm); (case r => walk_at "MY endr"); (case N => walk_at "MY drop"); (case o => (refine offLt ?_; assumption)))))
local macro_rules | `(tactic| walk_at "compareOp In int ref") => `(tactic| (k_here; k_dflt (first | refine in_bad_tt (by kmk_list) (by assumption) ?_ | refine in_bad_ff (by kmk_list) (by assumption) ?_)))
local macro_rules | `(tactic| walk_at "call ref") => `(tactic| (k_here; (with_reducible show wpAny _ _ (call (Value.ref 91) _) _ _ _); k_dflt (refine' Ctr.useT ?C ?B ?F ?X ?N ?T ?hk ?hd ?hu ?_; walk_at "MY use"; (case C => first | exact fold_s1 _ _ _ (by k_mem) (by assumption) (by walk_at "MY sub") | exact fold_s2 _ _ _ (by k_mem) (by assumption) (by walk_at "MY sub") | exact fold_one _ _ (by assumption) (by assumption) (by k_mem) (by k_mem) | exact fold_good _ _ _ (by assumption) (by k_mem) (by assumption) (by walk_at "MY sub") | exact fold_poor _ _ _ (by assumption) (by k_mem) (by assumption) (by walk_at "MY sub")); walk_at "MY room"; intro D' t' u' h' tk' F' N' l1; (try k_lt l1); (try k_sweep))))
local macro_rules | `(tactic| walk_at "MY turns") => `(tactic| (all_goals (intros; (try (rename AllLt _ _ => hI2'; simp only [AllLt, and_true] at hI2')); (try k_fold))))
local macro_rules | `(tactic| walk_at "pyIter ref") => `(tactic| (k_here; (with_reducible show wpAny _ _ (pyIter (Value.ref _)) (fun it s₂ => LoopAtV _ _ _ _ _ (Str.ofString "each") _ _ _ it s₂) _ _); (rename Fr _ _ _ _ => lF'); (rename News _ _ _ _ => lN'); (rename IsRange _ _ _ _ _ _ _ _ => lR'); with_unfolding_all (refine' each_use (by rfl) (by rfl) lR' (fmod5 _) lF' lN' ?b1 ?b2 ?_ ?_; (case b1 => (refine neN ?_; omega)); (case b2 => (refine neN ?_; omega))); (all_goals (clear lF' lN' lR')); walk_at "MY turns"))
local macro_rules | `(tactic| walk_at "pyIter ref") => `(tactic| (k_here; (with_reducible show wpAny _ _ (pyIter (Value.ref _)) (fun it s₂ => LoopAtV _ _ _ _ _ (Str.ofString "spot") _ _ _ it s₂) _ _); (rename Fr _ _ _ _ => lF'); (rename News _ _ _ _ => lN'); (rename IsRange _ _ _ _ _ _ _ _ => lR'); with_unfolding_all (refine' spot_use (Str.ofString "united") (by rfl) (by rfl) lR' ?b1 ?b2 lF' lN' ⟨_, rfl⟩ ?_ ?_; (case b1 => assumption); (case b2 => assumption)); (all_goals (clear lF' lN' lR')); walk_at "MY turns"))
local macro_rules | `(tactic| walk_at "pyIter ref") => `(tactic| (k_here; (with_reducible show wpAny _ _ (pyIter (Value.ref _)) (fun it s₂ => TurnsAt _ _ _ _ _ _ _ _ _ it s₂) _ _); (rename Fr _ _ _ _ => lF'); (rename News _ _ _ _ => lN'); with_unfolding_all (refine' rows_use (Str.ofString "united") (Str.ofString "bad") [Str.ofString "united", Str.ofString "bad", Str.ofString "low", Str.ofString "high", Str.ofString "spot"] (by rfl) (by rfl) lF' lN' ?hm ?hp ?hs ?hr ⟨_, rfl⟩ rfl ?_ ?_ ?_ ?_ ?_; (case hm => k_mem); (case hp => assumption); (case hs => walk_at "MY sub"); (case hr => assumption)); (all_goals (clear lF' lN')); walk_at "MY turns"))
local macro_rules | `(tactic| walk_at "CompSrcT") => `(tactic| (k_here; k_dflt (refine LCt.CompSrcT.range (n := 32) (by rfl) (by k_asm) (by k_asm) (by assumption) (by first | decide | rfl) (by first | rfl | decide) (by first | size_fits | exact Nat.le_of_ble_eq_true rfl) ?_); intro g'; k_dflt (refine' singles_go (by assumption) ?_ ?_ ?_); (all_goals (intros; (try (rename_i N' off ne; simp only [LCg.Off3, and_true] at off; (try simp only [List.cons_append, List.nil_append] at N'))); (try simp only [List.cons_append, List.nil_append])))))
local macro_rules | `(tactic| walk_at "exec Assign cons ListComp") => `(tactic| (k_here; lct_look; lcg_calm; k_dflt (refine LCt.Assign_ListComp_T (F₀ := by k_asm) (by rfl) (by with_unfolding_all rfl) (by with_unfolding_all rfl) (by decide) (by rfl) (by decide) (by rfl) (by rfl) (by rfl) ?_); k_dflt lct_toSrc))
set_option maxHeartbeats 1500000 in
set_option rowWalk.seconds 0 in
theorem law_ : PySem.Challenge.rw_pb0311_01.Holds := Mine.hd (by
  k_go0
  all_goals (try k_fold)
  k_steps
  all_goals (
    refine TPost.next ?_
    refine' TEnd.intro ?F ?N ?o ?r
    (case F => k_asm)
    (case r => first | exact ⟨rfl, ⟨_, rfl⟩, ⟨_, rfl, bad_t (by assumption)⟩, by walk_at "MY keep"⟩ | exact ⟨rfl, ⟨_, rfl⟩, ⟨_, rfl, bad_f (by assumption)⟩, by walk_at "MY keep"⟩)
    (case N => walk_at "MY drop")
    (case o => (refine offLt ?_; assumption))))

end Mine
theorem PySem.Challenge.cw_pb0311_01_holds : PySem.Challenge.rw_pb0311_01.Holds := by
  exact Mine.law_
